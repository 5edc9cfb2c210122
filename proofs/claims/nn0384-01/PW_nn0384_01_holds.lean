import PyProof.Rows.All
import Wide.All
import OpenK.AllK
import Wide.FinOn
import Lean
import PySem.Challenge.RW_nn0384_01
open List renaming length_map → aa, length_range → aq, mem_cons → au, range → av, getElem?_map → ax, mem_map → az, getElem?_eq_some_iff → aA, map_cons → aC, getElem?_eq_getElem → aG, size_toArray → aH, map_append → aJ, getD_eq_getElem?_getD → aL, mem_range → aM, mem_map_of_mem → aO, mem_singleton → aP, mem_append → aQ, mem_of_getElem? → aS, map_map → aW, nodup_cons → aY, take_length → aZ, take_add_one → a7, all_eq_true → a8, getElem?_eq_none → a9, find?_cons_of_neg → ba, replicate → bd, length_take → bg, getElem_map → bk, append_nil → bl, length_filter_le → bm, take_of_length_le → br, mem_append_left → bu, not_mem_nil → bw, mem_filter → bz, range_succ → bA, pairwise_append → bG, length_pos_iff → bI, getElem_mem → bJ, getElem_range → bL, any_eq_true → bN, ext_getElem → bO, map_congr_left → bQ, take_append_drop → bS, pairwise_map → bU, idxOf_lt_length_of_mem → bW, getElem_cons_drop → bY, toList_toArray → b7, getElem?_range → b8, take_zero → ca, length_append → ce, pairwise_cons → cj, filter_eq_nil_iff → cw, mem_append_right → cy, eq_nil_or_concat → cA, concat_eq_append → cB, filter_append → cC, find?_cons_of_pos → cG, map → cT, map_nil → cX, zip_cons_cons → cY, getElem?_set_self → dg, find?_cons → di, nodup_append → du, ext_getElem? → dy, getElem?_set_ne → dB, mem_of_mem_take → dC, mem_flatMap → dD, length_cons → dE, lookup_cons → dF, isEmpty_iff → dG, find?_eq_none → dQ, reverse_cons → dX, find?_append → d9, take_sublist → eb, contains_iff_mem → ec, cons_append → ef, map_take → eE, length → eF, getLastD_concat → eH, forIn_cons → eI, length_set → eL, filter_map → eM, filterMap_cons → eO, map_eq_nil_iff → eP, getElem_of_mem → eQ, toArray → eV, mem_filterMap → fq, getElem?_zip_eq_some → fA, pairwise_iff_getElem → fB, mem_of_find?_eq_some → fD, drop_eq_getElem_cons → fE, append_assoc → fK, length_filterMap_le → fS, getElem?_cons_succ → fV, pairwise_mergeSort → fY, length_eq_zero_iff → f8, filter_cons → ga, Nodup → gh, drop_eq_nil_of_le → gn, zip_append → gv, nil_append → gw, find?_some → gy, map_const' → gz, perm_append_comm → gA, forIn_nil → gF, range_eq_range' → gM, replicate_succ → gV, mergeSort_perm → gW, reverse_append → gX, mem_cons_self → gY, getElem_idxOf → ia, any_eq_false → ig, flatten_cons → ij, idxOf_append → ir, all_eq_false → iu, reverse_perm → iw, filter_congr → iy, drop → iA, take → iB, any_toArray → iC, foldl_cons → iR, nodup_nil → iY, filterMap → iZ, all_cons → i9, any_cons → ja, sum_cons → jf, cons → jg
open Int renaming toNat_natCast → ag, toNat_of_nonneg → bP, fdiv_eq_ediv_of_nonneg → dA, ofNat_lt → eR, le_trans → eU, mul_nonneg → fe, natCast_nonneg → fg, zero_add → ge, zero_sub → gp, add_zero → ib, le_of_lt → ix, max_eq_right → iF, mul_add → iL, le_refl → iO, max_eq_left → iS, le_antisymm → iT, mul_le_mul → i8
open Prod renaming fst → ai, snd → bB, ext → fZ
open PySem renaming wpAny_bind → aj, sizeLine_eq → am, wpAny_mono → ay, wpAny_pure → aB, wpAny_holding → bv, wpAny_ite_false → bM, strKind → cb, wpAny_standAt → cH, wpAny_truthy_bool → cP, wpAny_call_entry → cR, wpAny_seqItems → cS, intKind_is → dz, plainId_quiet → dJ, codeAny_builtin → dM, wpAny_assign_Name → dY, wpAny_tryCatch → d6, isSubtype_tuple_tuple → ed, wpAny_isInstance → eu, wpAny_forIn_list → eA, wpAny_specialOf → eK, wpAny_richCompare_same_room → eY, wpAny_Subscript_list_slice → fj, wpAny_rule → fk, wpAny_tupleItemsOf → fm, wpAny_newObj_type → fF, slot_list_getitem → fG, wpAny_pyIter_list → fJ, wpAny_assignInOrder_none → fP, wpAny_assignInOrder_more → fQ, codeAny_mono → gf, wpAny_execs_nil → gs, wpAny_updateSeq → gx, wpAny_ite_true → gI, wpAny_letGo → gJ, wpAny_loadName_cell → gQ, wpAny_setItem_pairs → gR, call_meets → gZ, wpAny_field → iN, numAt_eq → i6, Fin → jh, stored → ji
open Nat renaming le_refl → aU, le_trans → bj, zero_le → bF, lt_of_le_of_lt → bH, ne_of_lt → bK, lt_of_lt_of_le → cf, le_succ → cW, not_lt_zero → dl, lt_irrefl → dm, le_of_ble_eq_true → dp, le_of_lt_succ → dw, not_lt → dN, lt_trans → d5, lt_succ_of_lt → d7, le_of_eq → eT, mul_le_mul → ft, lt_succ_self → fX, lt_asymm → gk, sub_lt_sub_right → gG, le_sub_one_of_lt → gH, not_succ_le_zero → gL, blt → gN, succ → ie, ne_of_gt → ik, pow_succ → iq, succ_ne_self → iD, min_le_right → iE, log2_le_self → iK, two_pow_pos → iV
open PySem.Heap renaming get?_push_size → aV, get?_push_of_some → be, lt_size → bq, get?_update_ne → cx, get?_update_self → cz, size_push → cL, get?_update_other → cZ, SameBut → dW
open Bool renaming and_eq_true → aX, or_eq_false_iff → bX, and_eq_false_iff → b9, false_eq_true → cg, and_eq_true_iff → cn, or_eq_true → cO, false_ne_true → dO, false_and → dZ, eq_false_iff → d8, and_self → eD, eq_iff_iff → eN, noConfusion → fU, not_eq_true' → im, not_eq_true → iJ, decide_and → iW, and_false → i5, or_false → jb, not_true → jc, true_and → je
open Option renaming map_eq_some_iff → bc, toList_some → cm, getD_some → cK, isNone_iff_eq_none → cN, isSome_iff_exists → fO, map_some → gu, isSome_some → hV, getD_none → iI, map → i4
open PySem.W.Fast renaming te14364793385576792824 → bh, te10110043849684766642 → bn, te12563942051412417395 → bp, sEq_iff → cD, sEq → cF
open PySem.Builtin.Tuple renaming tupleHashOf → bC
open Option.some renaming inj → bD, injEq → ii
open PySem.PyData renaming keyHash → bE
open Array renaming length_toList → bR, perm_iff_toList_perm → cM, getElem?_eq_getElem → dH, getD_eq_getD_getElem? → eW, forIn_toList → fo, mk → io, toList_inj → iG, toList_map → iH, getD → i7
open PySem.Obj renaming mapSeq → bZ, putName → gE
open PySem.NameKind renaming free → cq, cell → fN, globalImplicit → fW
open Function renaming comp → cI
open PySem.F renaming plain_min_loop → cJ, slot_tuple_hash → cU, slot_tuple_eq → dq, slot_list_getattribute → dK, slot_range_contains → eX, entry_min_loop → f0, slot_dict_get → gt, slot_tuple_lt → gB, plainAttrs_list → ip, entry_dict_get → iz
open PySem.Around renaming under_plainId → cQ
open PySem.Builtin renaming bitNot → cV, bitOr → eC, bitAnd → fh
open PySem.Builtin.Range renaming rangePlace? → dI, rangeFields → fC, small → gU
open PySem.SeqAt.EqAt renaming int_int → dP
open PySem.Calls renaming callWith_function → dR, callWith_builtin → gi, Name_function_global → gC
open PySem.W renaming piece_app → dT, segRun_of → dU, boot_heap → eB, plainGet_of → iM, kas_rev → iX
open PySem.Value renaming none → eg, isStr → eG, isInt_shape → fH, int → gO, ref → gP, type → hY, builtin → jd
open PyProof.Rows renaming unpackItems_tuple → et, callWith_type → fi, Assign_Tuple → fw
open List.cons renaming injEq → eJ, inj → fR
open PySem.Str renaming ofString → eS
open PySem.Builtin.Builtins renaming bindParams → eZ
open Classical renaming byContradiction → fu
open Decidable renaming byContradiction → fy
open Ne renaming symm → fM
open PySem.Builtin.Dict renaming updateFrom → gc, pairItems → gq
open PySem.Code renaming builtin → gj
open List.Perm renaming append_right → gl, cons → gK
open PySem.P renaming lt_int → gD
open PySem.Walks renaming list → hJ
open PyProof.Rows.SortSt renaming mk' → hW
open Nat.succ renaming inj → ic
open Prod.mk renaming inj → iP
open ForInStep renaming yield → iQ
open Array.Perm renaming refl → iU
open PySem.Heap.IsSliceOf renaming new → jj
open PySem PySem.W PySem.Calls PyProof.Rows
set_option Elab.async false
set_option maxRecDepth 100000
set_option linter.unusedVariables false
set_option maxHeartbeats 0
set_option genSizeOfSpec false
set_option genSizeOf false
set_option bootstrap.genMatcherCode false
set_option backward.match.sparseCases false
noncomputable section
namespace Mine.Internal
section
set_option compiler.extract_closed false
open Lean
def zN (k : Name) (a : List Syntax) : Syntax := .node .none k a.toArray
def zL (a : List Syntax) : Syntax := zN nullKind a
def zA (s : String) : Syntax := .atom .none s
def zT (s : String) (a : List Syntax) : Syntax := zN (.str `Lean.Parser.Tactic s) a
def zE (s : String) (a : List Syntax) : Syntax := zN (.str `Lean.Parser.Term s) a
def zS (l : List Syntax) : Syntax := zT "tacticSeq" [zT "tacticSeq1Indented" [zL l]]
def zW (s : String) : Syntax := zN `PySem.W.tacticWtm_at_ [zA "wtm_at", Syntax.mkStrLit s]
def zP (l : List Syntax) : Syntax := zT "paren" [zA "(", zS l, zA ")"]
def zO (t : Syntax) : Syntax := zN groupKind [zA "|", zS [t]]
def zF (l : List Syntax) : Syntax := zT "first" [zA "first", zL l]
def zH (x : Syntax) : Syntax := zE "syntheticHole" [zA "?", x]
def zQ : Syntax := zT "assumption" [zA "assumption"]
def zB : Syntax := zE "byTactic" [zA "by", zS [zQ]]
def zC (i t : Syntax) : Syntax := zT "case" [zA "case", zL [zT "caseArg" [zN `Lean.binderIdent [i], zL []]], zA "=>", zS [t]]
def zG : List (String × String) := [
 ("wr", "^!E1 !E3 !E4 !GE !E5/rf !Dh/rf !E6 !Di !Dj !BD !Dg"),
 ("m1", "^jl uy F4/mem F5/mem Au xx xy Av kN m5 GD vq qh sx/rf uA/rf vu jy mh jS Cz oQ nH ux rp Ay n9 xA Tv_const jB/rf kG jP xB xC lv/rf oe/rf sr/rf AA/mem Bo Bn uU AF xE AG AH DR DT DU DV DW DX DY DS sy/updh/sizeq sP sQ CP CQ AY AZ sA/vw/sizeq AE/vw/sizeq AI/dec vn HC Cy Iq/rf Bq Gz/vw/mem/attr k8 x1 :xm AM/updh/updf/attr/ble Bp/updh/appf/krf/attr/ble GA/vw/krf/ismeth !vO/mem !uS/mem !D9/mem !D8/mem !vP/mem GB/vw GC/vw And.intro/size And.intro/rfr EC.mk/rfr FS.mk/rfr/rfr2 jA.tt jA.ff"),
 ("memc", "^=gY .ES/memc"),
 ("updh", "^=kO.head .kO.tail/updh"),
 ("updf", "^=sF.head .sF.tail/updf"),
 ("rhow", "^=mz.nil .mz.same/rhow .mz.drop/rhow"),
 ("vw", "^=Vw.refl .Vw.lst/mem .Vw.dct/mem .Vw.ins/mem"),
 ("appf", "^=vS.nil .vS.cons/appf"),
 ("dat", "^=pQ =B2 =Ei =B3 =u9 =yx =wi =qK .kX/idat .sn/dat .yw/dat =ve .pj/dat1/dat2"),
 ("rv", "=rfl =Es =rvS"),
 ("pdr", "=u4.none =u4.int =u4.bool"),
 ("nod", ".tW/krf"),
 ("mem", ".jD/rf :memc"),
 ("size", ":asm .szL/ble"),
 ("attr", ".!Ir/rf"),
 ("ismeth", ".!It/rf"),
 ("upd", ".te/rf"),
 ("crho", ".Bt/rf"),
 ("hcap", ".Df/rf"),
 ("w1", "jm.i vy.i :wr :m1"),
 ("def", "@F3/rfr1/rfr2/rfr3/rfr4/krf/nod/nod2/krf2/rfr5/rf"),
 ("full", "@Fi/rfr1/rfr2/rfr3/rfr4/rfr5/krf/nod/nod2/krf2/rfr6/dec/rf"),
 ("dflt", "@Fj/rfr1/rfr2/rfr3/rfr4/rfr5/krf/nod/nod2/krf2/rfr6/pdr/rf"),
 ("rf", "*=rfl"),
 ("rfr", "=rfl"),
 ("ble", "*.Nat.le_of_ble_eq_true/rfr"),
 ("dec", "=dcl"),
 ("ms", "%w1"),
 ("mo", "%m1"), ("asm", "-"), ("krf", "#"), ("idat", "\\dat"), ("xm", "?x_meth")]
def zI (m : MacroScope) (c : String) : Syntax := mkIdent (addMacroScope `x (.mkSimple c) m)
def zK (m : MacroScope) : List String → List Syntax
 | [] => []
 | c :: r =>
  let q := zC (zI m c)
  zA ";" :: (if c == "sizeq" then zF [zO (zP [q (zW "size")]), zO (zT "rotateLeft" [zA "rotate_left", zL []])] else q (zW (String.ofList (c.toList.filter Char.isAlpha)))) :: zK m r
def zY (k s : String) (l : List Char) : Syntax := zT k [zA s, zS [zW (String.ofList l)]]
def zZ (f : String) : Syntax := mkIdent f.toName
def zV (f : Syntax) (a : List Syntax) : Syntax := zE "app" [f, zL a]
def zJ (m : MacroScope) (dot : Bool) (f : String) (b : List Syntax) (cs : List String) : Syntax :=
 let a := b ++ cs.map fun c => zH (zI m c)
 let h := zV (zZ f)
 match cs with
 | [] => zT "refine" [zA "refine", h (a ++ [zH (zA "_")])]
 | _ :: _ => zP (zT "refine'" [zA "refine'", h (bif dot then a else a ++ [zH (zI m "k0")])] :: zK m cs)
def zR (m : MacroScope) (dot : Bool) : List String → Syntax
 | [] => .missing
 | h :: cs => match h.toList with
  | '=' :: l => zT "exact" [zA "exact", zZ (String.ofList l)]
  | ':' :: l => zW (String.ofList l)
  | '!' :: l => zJ m dot (String.ofList l) [zB] cs
  | '@' :: l => zJ m dot (String.ofList l) [zV (zZ "PW.K") [zB]] cs
  | _ => zJ m dot h [] cs
def zM (m : MacroScope) (k : String) : Syntax :=
 let v := (zG.lookup k).getD k
 match v.toList with
 | '^' :: r => zY "withReducible" "with_reducible" r
 | '*' :: r => zY "withUnfoldingAll" "with_unfolding_all" r
 | '%' :: r => zY "repeat'" "repeat'" r
 | '?' :: r => zP [zT "failIfSuccess" [zA "fail_if_success", zS [zW "x_get"]], zA ";", zW (String.ofList r)]
 | '\\' :: r => zP [zT "intro" [zA "intro", zL [zE "hole" [zA "_"]]], zA ";", zW (String.ofList r)]
 | ['#'] => zN `tacticKernel_rfl [zA "kernel_rfl"]
 | ['-'] => zQ
 | _ => match v.splitOn " " with
  | [t] => match t.toList with
   | '.' :: r => zR m true ((String.ofList r).splitOn "/")
   | _ => zR m false (t.splitOn "/")
  | ts => zF (ts.map fun t => zO (zW t))
end
namespace Ar
set_option genInjectivity false
set_option genSizeOfSpec false
set_option genSizeOf false
set_option bootstrap.genMatcherCode false
set_option genCtorIdx false
mutual
inductive NE
 | v (i : Nat) | c (k : Nat) | a (x y : NE) | s (x y : NE) | m (k : Nat) (x : NE) | t (z : ZE) | mi (x y : NE) | ma (x y : NE) | ab (z : ZE) | r (x : NE) (k : Nat) | w (b e : Nat)
inductive ZE
 | v (i : Nat) | c (k : Int) | a (x y : ZE) | s (x y : ZE) | m (k : Int) (x : ZE) | n (x : ZE) | k (x : NE) | r (x : ZE) (k : Int) | w (b : Int) (e : Nat)
end
inductive PF
 | L (x y : NE) | l (x y : NE) | e (x y : NE) | G (x y : ZE) | g (x y : ZE) | z (x y : ZE) | n (p : PF) | a (p q : PF) | o (p q : PF) | i (p q : PF) | f
set_option genCtorIdx true
mutual
noncomputable def NE.d (N : List Nat) (Z : List Int) : NE → Nat
 | .v i => N.getD i 0 | .c k => k | .a x y => x.d N Z + y.d N Z | .s x y => x.d N Z - y.d N Z | .m k x => k * x.d N Z | .t z => (z.d N Z).toNat | .mi x y => min (x.d N Z) (y.d N Z) | .ma x y => max (x.d N Z) (y.d N Z) | .ab z => (z.d N Z).natAbs | .r x k => x.d N Z * k | .w b e => b ^ e
noncomputable def ZE.d (N : List Nat) (Z : List Int) : ZE → Int
 | .v i => Z.getD i 0 | .c k => k | .a x y => x.d N Z + y.d N Z | .s x y => x.d N Z - y.d N Z | .m k x => k * x.d N Z | .n x => - x.d N Z | .k x => (x.d N Z : Int) | .r x k => x.d N Z * k | .w b e => b ^ e
end
noncomputable def PF.d (N : List Nat) (Z : List Int) : PF → Prop
 | .L x y => x.d N Z ≤ y.d N Z | .l x y => x.d N Z < y.d N Z | .e x y => x.d N Z = y.d N Z | .G x y => x.d N Z ≤ y.d N Z | .g x y => x.d N Z < y.d N Z | .z x y => x.d N Z = y.d N Z
 | .n p => ¬ p.d N Z | .a p q => p.d N Z ∧ q.d N Z | .o p q => p.d N Z ∨ q.d N Z | .i p q => p.d N Z → q.d N Z | .f => False
noncomputable abbrev Ln := List Int × Int
noncomputable def qb : List Int → List Int → Int
 | c :: cs, x :: xs => c * x + qb cs xs
 | _, _ => 0
noncomputable def Ln.ev (E : List Int) (l : Ln) : Int := qb l.1 E + l.2
noncomputable def Aj : List Int → List Int → List Int
 | [], l => l
 | l, [] => l
 | x :: xs, y :: ys => (x + y) :: Aj xs ys
noncomputable def Ln.add (p q : Ln) : Ln := (Aj p.1 q.1, p.2 + q.2)
noncomputable def Ln.mul (k : Int) (p : Ln) : Ln := (p.1.map (k * ·), k * p.2)
noncomputable def Ln.sub (p q : Ln) : Ln := p.add (q.mul (-1))
noncomputable def uv : Nat → List Int
 | 0 => [1]
 | n + 1 => 0 :: uv n
theorem n7 {E} : qb [] E = 0 := by cases E <;> rfl
theorem Cp : ∀ {a b E : List Int}, qb (Aj a b) E = qb a E + qb b E := fun {a} => by
 induction a with
 | nil => intro b E; rw [n7, ge]; rfl
 | cons x xs ih =>
  intro b E
  cases b with
  | nil => rw [n7, ib]; rfl
  | cons y ys => cases E with
   | nil => rfl
   | cons z zs => show (x + y) * z + qb (Aj xs ys) zs = x * z + qb xs zs + (y * z + qb ys zs); rw [ih, Int.add_mul]; lia
theorem Cq {k : Int} : ∀ {a E : List Int}, qb (a.map (k * ·)) E = k * qb a E := fun {a} => by
 induction a with
 | nil => intro E; rw [cX, n7, Int.mul_zero]
 | cons x xs ih => intro E; cases E with
  | nil => exact (Int.mul_zero k).symm
  | cons z zs => show k * x * z + qb (xs.map (k * ·)) zs = k * (x * z + qb xs zs); rw [ih, iL, Int.mul_assoc]
theorem Ak : ∀ {n : Nat} {E : List Int}, qb (uv n) E = E.getD n 0 := fun {n} => by
 induction n with
 | zero => intro E; cases E with
  | nil => rfl
  | cons x xs => show 1 * x + qb [] xs = x; rw [n7, ib, Int.one_mul]
 | succ n ih => intro E; cases E with
  | nil => rfl
  | cons x xs => show 0 * x + qb (uv n) xs = _; rw [ih, Int.zero_mul, ge]; rfl
theorem Ln.ev_add {E p q} : (Ln.add p q).ev E = p.ev E + q.ev E := by show qb (Aj p.1 q.1) E + (p.2 + q.2) = _; rw [Cp]; unfold Ln.ev; lia
theorem Ln.ev_mul {E k p} : (Ln.mul k p).ev E = k * p.ev E := by show qb (p.1.map (k * ·)) E + k * p.2 = _; rw [Cq]; unfold Ln.ev; rw [iL]
theorem Ln.ev_sub {E p q} : (Ln.sub p q).ev E = p.ev E - q.ev E := by unfold Ln.sub; rw [Ln.ev_add, Ln.ev_mul]; lia
noncomputable abbrev Cs := List Ln
noncomputable def nw (E : List Int) (c : Cs) : Prop := ∀ l ∈ c, 0 ≤ l.ev E
theorem nw.app {E c d} (h : nw E c) (h' : nw E d) : nw E (c ++ d) := fun l hl => (aQ.mp hl).elim (h l) (h' l)
theorem nw.one {E l} (h : 0 ≤ Ln.ev E l) : nw E [l] := fun l' hl => by cases aP.mp hl; exact h
noncomputable def cr {α β γ : Type} (f : α → β → List γ) (p : List α) (q : List β) : List γ := p.flatMap fun a => q.flatMap fun b => f a b
theorem wB {α β γ : Type} {f : α → β → List γ} {p : List α} {q : List β} {a b c} (ha : a ∈ p) (hb : b ∈ q) (hc : c ∈ f a b) : c ∈ cr f p q :=
 dD.mpr ⟨a, ha, dD.mpr ⟨b, hb, hc⟩⟩
noncomputable abbrev Al := List (Cs × Ln)
mutual
noncomputable def NE.al (n : Nat) : NE → Al
 | .v i => match gN i n with | true => [([], (uv i, 0))] | false => [([], ([], 0))]
 | .c k => [([], ([], k))]
 | .a x y => cr (fun p q => [(p.1 ++ q.1, p.2.add q.2)]) (x.al n) (y.al n)
 | .s x y => cr (fun p q => [(p.2.sub q.2 :: (p.1 ++ q.1), p.2.sub q.2), ((q.2.sub p.2) :: (p.1 ++ q.1), ([], 0))]) (x.al n) (y.al n)
 | .m k x => (x.al n).map fun p => (p.1, p.2.mul k)
 | .t z => (z.al n).flatMap fun p => [(p.2 :: p.1, p.2), (p.2.mul (-1) :: p.1, ([], 0))]
 | .mi x y => cr (fun p q => [(q.2.sub p.2 :: (p.1 ++ q.1), p.2), ((p.2.sub q.2) :: (p.1 ++ q.1), q.2)]) (x.al n) (y.al n)
 | .ma x y => cr (fun p q => [(q.2.sub p.2 :: (p.1 ++ q.1), q.2), ((p.2.sub q.2) :: (p.1 ++ q.1), p.2)]) (x.al n) (y.al n)
 | .ab z => (z.al n).flatMap fun p => [(p.2 :: p.1, p.2), (p.2.mul (-1) :: p.1, p.2.mul (-1))]
 | .r x k => (x.al n).map fun p => (p.1, p.2.mul k)
 | .w b e => [([], ([], ((b ^ e : Nat) : Int)))]
noncomputable def ZE.al (n : Nat) : ZE → Al
 | .v i => [([], (uv (n + i), 0))]
 | .c k => [([], ([], k))]
 | .a x y => cr (fun p q => [(p.1 ++ q.1, p.2.add q.2)]) (x.al n) (y.al n)
 | .s x y => cr (fun p q => [(p.1 ++ q.1, p.2.sub q.2)]) (x.al n) (y.al n)
 | .m k x => (x.al n).map fun p => (p.1, p.2.mul k)
 | .n x => (x.al n).map fun p => (p.1, p.2.mul (-1))
 | .k x => x.al n
 | .r x k => (x.al n).map fun p => (p.1, p.2.mul k)
 | .w b e => [([], ([], b ^ e))]
end
noncomputable def one (l : Ln) : Ln := (l.1, l.2 - 1)
noncomputable def Fu (x y : Al) : List Cs := cr (fun p q => [q.2.sub p.2 :: (p.1 ++ q.1)]) x y
noncomputable def Cr (x y : Al) : List Cs := cr (fun p q => [one (q.2.sub p.2) :: (p.1 ++ q.1)]) x y
noncomputable def GY (x y : Al) : List Cs := cr (fun p q => [q.2.sub p.2 :: p.2.sub q.2 :: (p.1 ++ q.1)]) x y
noncomputable def PF.al (n : Nat) (b : Bool) : PF → List Cs
 | .L x y => match b with | true => Fu (x.al n) (y.al n) | false => Cr (y.al n) (x.al n)
 | .l x y => match b with | true => Cr (x.al n) (y.al n) | false => Fu (y.al n) (x.al n)
 | .e x y => match b with | true => GY (x.al n) (y.al n) | false => Cr (x.al n) (y.al n) ++ Cr (y.al n) (x.al n)
 | .G x y => match b with | true => Fu (x.al n) (y.al n) | false => Cr (y.al n) (x.al n)
 | .g x y => match b with | true => Cr (x.al n) (y.al n) | false => Fu (y.al n) (x.al n)
 | .z x y => match b with | true => GY (x.al n) (y.al n) | false => Cr (x.al n) (y.al n) ++ Cr (y.al n) (x.al n)
 | .n p => p.al n !b
 | .a p q => match b with | true => cr (fun c d => [c ++ d]) (p.al n true) (q.al n true) | false => p.al n false ++ q.al n false
 | .o p q => match b with | true => p.al n true ++ q.al n true | false => cr (fun c d => [c ++ d]) (p.al n false) (q.al n false)
 | .i p q => match b with | true => p.al n false ++ q.al n true | false => cr (fun c d => [c ++ d]) (p.al n true) (q.al n false)
 | .f => match b with | true => [] | false => [[]]
section
variable {N : List Nat} {Z : List Int}
noncomputable abbrev env (N : List Nat) (Z : List Int) : List Int := N.map Int.ofNat ++ Z
inductive jV (E : List Int) (x : Int) (l : Al) : Prop
 | mk (c : Cs) (f : Ln) (m : (c, f) ∈ l) (h : nw E c) (e : x = f.ev E)
inductive nG (E : List Int) (l : List Cs) : Prop
 | mk (c : Cs) (m : c ∈ l) (h : nw E c)
theorem nw.cons {E l c} (h : 0 ≤ Ln.ev E l) (h' : nw E c) : nw E (l :: c) := fun l' hl => (au.mp hl).elim (fun e => e ▸ h) (h' l')
theorem jV.two {E : List Int} {x y z : Int} {a b : Al} {f : Cs × Ln → Cs × Ln → Al} (hx : jV E x a) (hy : jV E y b) (h : ∀ c g d k, nw E (c ++ d) → x = g.ev E → y = k.ev E → jV E z (f (c, g) (d, k))) : jV E z (cr f a b) := by
 obtain ⟨c, g, m, hc, e⟩ := hx
 obtain ⟨d, k, m', hd, e'⟩ := hy
 obtain ⟨u, v, mm, hh, ee⟩ := h c g d k (hc.app hd) e e'
 exact ⟨u, v, wB m m' mm, hh, ee⟩
theorem jV.map1 {E : List Int} {x z : Int} {a : Al} {f : Ln → Ln} (hx : jV E x a) (h : ∀ g : Ln, x = g.ev E → z = (f g).ev E) : jV E z (a.map fun p => (p.1, f p.2)) := by
 obtain ⟨c, g, m, hc, e⟩ := hx
 exact ⟨c, f g, az.mpr ⟨_, m, rfl⟩, hc, h g e⟩
theorem jV.split {E : List Int} {x z : Int} {a : Al} {f : Cs × Ln → Al} (hx : jV E x a) (h : ∀ c g, nw E c → x = g.ev E → jV E z (f (c, g))) : jV E z (a.flatMap f) := by
 obtain ⟨c, g, m, hc, e⟩ := hx
 obtain ⟨u, v, mm, hh, ee⟩ := h c g hc e
 exact ⟨u, v, dD.mpr ⟨_, m, mm⟩, hh, ee⟩
theorem jV.one {E : List Int} {x : Int} {c : Cs} {f : Ln} {l : Al} (h : nw E c) (e : x = f.ev E) : jV E x ((c, f) :: l) := ⟨c, f, .head _, h, e⟩
theorem jV.nx {E : List Int} {x : Int} {c : Cs × Ln} {l : Al} (h : jV E x l) : jV E x (c :: l) := by
 obtain ⟨c, f, m, h, e⟩ := h; exact ⟨c, f, .tail _ m, h, e⟩
theorem Am {E} {k : Int} : k = Ln.ev E ([], k) := by unfold Ln.ev; rw [n7, ge]
theorem DH : ∀ {N : List Nat} {i : Nat}, i < N.length → ((N.getD i 0 : Nat) : Int) = (env N Z).getD i 0 := fun {N} => by
 induction N with
 | nil => intro i h; cases h
 | cons x xs ih => intro i h; cases i with
  | zero => rfl
  | succ i => exact ih (Nat.lt_of_succ_lt_succ h)
theorem DI : ∀ {N : List Nat} {i : Nat}, Z.getD i 0 = (env N Z).getD (N.length + i) 0 := fun {N} => by
 induction N with
 | nil => intro i; rw [List.length_nil, Nat.zero_add]; rfl
 | cons x xs ih => intro i; rw [dE, Nat.add_right_comm]; exact ih
theorem sd {E : List Int} {i : Nat} {x : Int} (h : x = E.getD i 0) : x = Ln.ev E (uv i, 0) := by
 show x = qb (uv i) E + 0
 rw [Ak, ib]; exact h
theorem An : ∀ {N : List Nat} {i : Nat}, N.length ≤ i → N.getD i 0 = 0 := fun {N} => by
 induction N with
 | nil => intro i _; rfl
 | cons x xs ih => intro i h; cases i with
  | zero => cases h
  | succ i => exact ih (Nat.le_of_succ_le_succ h)
theorem Ct {E : List Int} {x y : Int} {a b : Al} (hx : jV E x a) (hy : jV E y b) : jV E (x + y) (cr (fun p q => [(p.1 ++ q.1, p.2.add q.2)]) a b) :=
 hx.two hy fun _ _ _ _ h e e' => .one h (by rw [Ln.ev_add, e, e'])
theorem qc {E : List Int} {p q : Ln} {c : Cs} (h : nw E c) (e : p.ev E ≤ q.ev E) : nw E (q.sub p :: c) := .cons (by rw [Ln.ev_sub]; lia) h
theorem Fv (i : Nat) : jV (env N Z) (N.getD i 0 : Nat) (NE.al N.length (.v i)) := by
 cases q : gN i N.length with
 | true =>
  have : NE.al N.length (.v i) = [([], (uv i, 0))] := by show (match gN i N.length with | true => _ | false => _) = _; rw [q]
  rw [this]; exact .one (fun _ h => nomatch h) (sd (DH (dp q)))
 | false =>
  have : NE.al N.length (.v i) = [([], ([], 0))] := by show (match gN i N.length with | true => _ | false => _) = _; rw [q]
  rw [this]
  refine .one (fun _ h => nomatch h) ?_
  have h : N.length ≤ i := dN.mp fun h => by rw [show gN i N.length = true from Nat.ble_eq_true_of_le h] at q; cases q
  rw [An h]; exact Am
theorem Fw {E : List Int} {x y : Nat} {a b : Al} (hx : jV E x a) (hy : jV E y b) : jV E ((x - y : Nat) : Int) (cr (fun p q => [(p.2.sub q.2 :: (p.1 ++ q.1), p.2.sub q.2), ((q.2.sub p.2) :: (p.1 ++ q.1), ([], 0))]) a b) := hx.two hy fun c g d k h e e' => by
 by_cases q : y ≤ x
 ·exact .one (qc (p := k) (q := g) h (by lia)) (by show _ = Ln.ev E (Ln.sub g k); rw [Ln.ev_sub]; lia)
 ·refine .nx (.one (qc (p := g) (q := k) h (by lia)) ?_)
  rw [Nat.sub_eq_zero_of_le (by lia)]; exact Am
theorem DJ {E : List Int} {x y : Nat} {a b : Al} (hx : jV E x a) (hy : jV E y b) : jV E ((min x y : Nat) : Int) (cr (fun p q => [(q.2.sub p.2 :: (p.1 ++ q.1), p.2), ((p.2.sub q.2) :: (p.1 ++ q.1), q.2)]) a b) := hx.two hy fun c g d k h e e' => by
 by_cases q : x ≤ y
 ·rw [Nat.min_eq_left q]; exact .one (qc (p := g) (q := k) h (by lia)) e
 ·rw [Nat.min_eq_right (by lia)]; exact .nx (.one (qc (p := k) (q := g) h (by lia)) e')
theorem DK {E : List Int} {x y : Nat} {a b : Al} (hx : jV E x a) (hy : jV E y b) : jV E ((max x y : Nat) : Int) (cr (fun p q => [(q.2.sub p.2 :: (p.1 ++ q.1), q.2), ((p.2.sub q.2) :: (p.1 ++ q.1), p.2)]) a b) := hx.two hy fun c g d k h e e' => by
 by_cases q : x ≤ y
 ·rw [Nat.max_eq_right q]; exact .one (qc (p := g) (q := k) h (by lia)) e'
 ·rw [Nat.max_eq_left (by lia)]; exact .nx (.one (qc (p := k) (q := g) h (by lia)) e)
theorem Fx {E : List Int} {z : Int} {a : Al} (hz : jV E z a) : jV E (z.toNat : Int) (a.flatMap fun p => [(p.2 :: p.1, p.2), (p.2.mul (-1) :: p.1, ([], 0))]) := hz.split fun c g h e => by
 by_cases q : 0 ≤ z
 ·exact .one (.cons (l := g) (by lia) h) (by rw [bP q]; exact e)
 ·refine .nx (.one (.cons (l := g.mul (-1)) (by rw [Ln.ev_mul]; lia) h) ?_)
  rw [Int.toNat_of_nonpos (by lia)]; exact Am
theorem DL {E : List Int} {z : Int} {a : Al} (hz : jV E z a) : jV E (z.natAbs : Int) (a.flatMap fun p => [(p.2 :: p.1, p.2), (p.2.mul (-1) :: p.1, p.2.mul (-1))]) := hz.split fun c g h e => by
 by_cases q : 0 ≤ z
 ·exact .one (.cons (l := g) (by lia) h) (by show _ = g.ev E; lia)
 ·exact .nx (.one (.cons (l := g.mul (-1)) (by rw [Ln.ev_mul]; lia) h) (by show _ = Ln.ev E (g.mul (-1)); rw [Ln.ev_mul]; lia))
theorem En {E : List Int} {z : Int} {a : Al} {k : Int} (hz : jV E z a) : jV E (k * z) (a.map fun p => (p.1, p.2.mul k)) := hz.map1 fun g e => by rw [Ln.ev_mul, e]
theorem Ao {E : List Int} {x : Nat} {a : Al} {k : Nat} (hz : jV E x a) : jV E ((k * x : Nat) : Int) (a.map fun p => (p.1, p.2.mul k)) := hz.map1 fun g e => by rw [Ln.ev_mul, ← e]; exact Int.natCast_mul k x
theorem Fy {E : List Int} {z : Int} {a : Al} {k : Int} (hz : jV E z a) : jV E (z * k) (a.map fun p => (p.1, p.2.mul k)) := Int.mul_comm k z ▸ En hz
theorem DM {E : List Int} {x : Nat} {a : Al} {k : Nat} (hz : jV E x a) : jV E ((x * k : Nat) : Int) (a.map fun p => (p.1, p.2.mul k)) := Nat.mul_comm k x ▸ Ao hz
theorem Fz {E : List Int} {z : Int} {a : Al} (hz : jV E z a) : jV E (-z) (a.map fun p => (p.1, p.2.mul (-1))) := hz.map1 fun g e => by rw [Ln.ev_mul, e]; lia
theorem DN {E : List Int} {x y : Int} {a b : Al} (hx : jV E x a) (hy : jV E y b) : jV E (x - y) (cr (fun p q => [(p.1 ++ q.1, p.2.sub q.2)]) a b) := hx.two hy fun _ _ _ _ h e e' => .one h (by rw [Ln.ev_sub, e, e'])
theorem vk {E : List Int} {k : Int} : jV E k [([], ([], k))] := .one (fun _ h => nomatch h) Am
theorem qd (x : NE) : jV (env N Z) (x.d N Z) (x.al N.length) :=
 NE.rec (motive_1 := fun x => jV (env N Z) (x.d N Z) (x.al N.length)) (motive_2 := fun z => jV (env N Z) (z.d N Z) (z.al N.length))
  Fv (fun _ => vk) (fun _ _ => Ct) (fun _ _ => Fw) (fun _ _ => Ao) (fun _ => Fx) (fun _ _ => DJ) (fun _ _ => DK) (fun _ => DL) (fun _ _ => DM) (fun _ _ => vk)
  (fun i => .one (fun _ h => nomatch h) (sd DI)) (fun _ => vk) (fun _ _ => Ct) (fun _ _ => DN) (fun _ _ => En) (fun _ => Fz) (fun _ h => h) (fun _ _ => Fy) (fun _ _ => vk) x
theorem qe (z : ZE) : jV (env N Z) (z.d N Z) (z.al N.length) :=
 ZE.rec (motive_1 := fun x => jV (env N Z) (x.d N Z) (x.al N.length)) (motive_2 := fun z => jV (env N Z) (z.d N Z) (z.al N.length))
  Fv (fun _ => vk) (fun _ _ => Ct) (fun _ _ => Fw) (fun _ _ => Ao) (fun _ => Fx) (fun _ _ => DJ) (fun _ _ => DK) (fun _ => DL) (fun _ _ => DM) (fun _ _ => vk)
  (fun i => .one (fun _ h => nomatch h) (sd DI)) (fun _ => vk) (fun _ _ => Ct) (fun _ _ => DN) (fun _ _ => En) (fun _ => Fz) (fun _ h => h) (fun _ _ => Fy) (fun _ _ => vk) z
theorem nG.two {E : List Int} {x y : Int} {a b : Al} {f : Cs × Ln → Cs × Ln → List Cs} (hx : jV E x a) (hy : jV E y b) (h : ∀ c g d k, nw E (c ++ d) → x = Ln.ev E g → y = Ln.ev E k → nG E (f (c, g) (d, k))) : nG E (cr f a b) := by
 obtain ⟨c, g, m, hc, e⟩ := hx
 obtain ⟨d, k, m', hd, e'⟩ := hy
 obtain ⟨u, mm, hh⟩ := h c g d k (hc.app hd) e e'
 exact ⟨u, wB m m' mm, hh⟩
theorem xq {E x y a b} (hx : jV E x a) (hy : jV E y b) (h : x ≤ y) : nG E (Fu a b) := nG.two hx hy fun c g d k hh e e' => ⟨_, .head _, qc (p := g) (q := k) hh (by lia)⟩
theorem ro {E x y a b} (hx : jV E x a) (hy : jV E y b) (h : x < y) : nG E (Cr a b) := nG.two hx hy fun c g d k hh e e' => ⟨_, .head _, .cons (by
 show 0 ≤ qb (Ln.sub k g).1 E + ((Ln.sub k g).2 - 1)
 have : Ln.ev E (Ln.sub k g) = _ := Ln.ev_sub
 unfold Ln.ev at this e e'; lia) hh⟩
theorem DO {E x y a b} (hx : jV E x a) (hy : jV E y b) (h : x = y) : nG E (GY a b) := nG.two hx hy fun c g d k hh e e' => ⟨_, .head _, qc (p := g) (q := k) (qc (p := k) (q := g) hh (by lia)) (by lia)⟩
theorem nG.l {E a b} (h : nG E a) : nG E (a ++ b) := by obtain ⟨c, m, h⟩ := h; exact ⟨c, bu _ m, h⟩
theorem nG.r {E a b} (h : nG E b) : nG E (a ++ b) := by obtain ⟨c, m, h⟩ := h; exact ⟨c, cy _ m, h⟩
theorem nG.both {E a b} (h : nG E a) (h' : nG E b) : nG E (cr (fun c d => [c ++ d]) a b) := by
 obtain ⟨c, m, h⟩ := h; obtain ⟨d, m', h'⟩ := h'; exact ⟨c ++ d, wB m m' (.head _), h.app h'⟩
theorem GZ (p : PF) : (p.d N Z → nG (env N Z) (p.al N.length true)) ∧ (¬ p.d N Z → nG (env N Z) (p.al N.length false)) := by
 induction p with
 | L x y => exact ⟨fun h => xq (qd x) (qd y) (Int.ofNat_le.mpr h), fun h => ro (qd y) (qd x) (eR.mpr (Nat.not_le.mp h))⟩
 | l x y => exact ⟨fun h => ro (qd x) (qd y) (eR.mpr h), fun h => xq (qd y) (qd x) (Int.ofNat_le.mpr (dN.mp h))⟩
 | e x y => exact ⟨fun h => DO (qd x) (qd y) (congrArg Int.ofNat h), fun h => (Nat.lt_or_gt_of_ne h).elim (fun h => (ro (qd x) (qd y) (eR.mpr h)).l) fun h => (ro (qd y) (qd x) (eR.mpr h)).r⟩
 | G x y => exact ⟨fun h => xq (qe x) (qe y) h, fun h => ro (qe y) (qe x) (Int.not_le.mp h)⟩
 | g x y => exact ⟨fun h => ro (qe x) (qe y) h, fun h => xq (qe y) (qe x) (Int.not_lt.mp h)⟩
 | z x y => exact ⟨fun h => DO (qe x) (qe y) h, fun h => (Int.lt_or_gt_of_ne h).elim (fun h => (ro (qe x) (qe y) h).l) fun h => (ro (qe y) (qe x) h).r⟩
 | n p ih => exact ⟨fun h => ih.2 h, fun h => ih.1 (Classical.not_not.mp h)⟩
 | a p q i1 i2 => exact ⟨fun h => (i1.1 h.1).both (i2.1 h.2), fun h => (Classical.not_and_iff_not_or_not.mp h).elim (fun h => (i1.2 h).l) fun h => (i2.2 h).r⟩
 | o p q i1 i2 => exact ⟨fun h => h.elim (fun h => (i1.1 h).l) fun h => (i2.1 h).r, fun h => (i1.2 fun z => h (.inl z)).both (i2.2 fun z => h (.inr z))⟩
 | i p q i1 i2 => exact ⟨fun h => (Classical.em (PF.d N Z p)).elim (fun z => (i2.1 (h z)).r) fun z => (i1.2 z).l, fun h => (i1.1 (fu fun z => h fun y => absurd y z)).both (i2.2 fun z => h fun _ => z)⟩
 | f => exact ⟨fun h => h.elim, fun _ => ⟨[], .head _, fun _ h => nomatch h⟩⟩
end
noncomputable def hd : List Int → Int
 | [] => 0
 | x :: _ => x
noncomputable def Fn (l : Ln) : Ln := (l.1.tail, l.2)
noncomputable def isP (k : Int) : Bool := match k with
 | .ofNat n => match n with | 0 => false | _ + 1 => true
 | .negSucc _ => false
noncomputable def Ha (k : Int) : Bool := match k with
 | .ofNat _ => false
 | .negSucc _ => true
noncomputable def isZ (k : Int) : Bool := match k with
 | .ofNat n => match n with | 0 => true | _ + 1 => false
 | .negSucc _ => false
noncomputable def drp (c : Cs) : Cs :=
 let p := c.filter fun l => isP (hd l.1)
 let n := c.filter fun l => Ha (hd l.1)
 (c.filter fun l => isZ (hd l.1)).map Fn ++ cr (fun a b => [((Fn a).mul (- hd b.1)).add ((Fn b).mul (hd a.1))]) p n
noncomputable def Hb : Nat → Cs → Bool
 | 0, c => c.any fun l => match l.1 with | [] => Ha l.2 | _ :: _ => false
 | n + 1, c => Hb n (drp c)
theorem DP {x : Int} {E : List Int} {l : Ln} : Ln.ev (x :: E) l = hd l.1 * x + Ln.ev E (Fn l) := by
 obtain ⟨c, k⟩ := l
 cases c with
 | nil => show qb [] _ + k = 0 * x + (qb [] E + k); rw [n7, n7]; lia
 | cons y ys => show y * x + qb ys E + k = y * x + (qb ys E + k); lia
theorem Cu {k : Int} (h : isP k = true) : 0 < k := by
 cases k with
 | ofNat n => cases n with
  | zero => cases h
  | succ n => exact eR.mpr (Nat.succ_pos n)
 | negSucc n => cases h
theorem xu {k : Int} (h : Ha k = true) : k < 0 := by
 cases k with
 | ofNat n => cases h
 | negSucc n => exact Int.negSucc_lt_zero n
theorem Eo {x : Int} {E : List Int} {c : Cs} (h : nw (x :: E) c) : nw E (drp c) := by
 refine nw.app (fun l hl => ?_) fun l hl => ?_
 ·obtain ⟨l', hm, e⟩ := az.mp hl
  obtain ⟨hm, hz⟩ := bz.mp hm
  have hh := h l' hm
  rw [DP] at hh
  have e0 : hd l'.1 = 0 := by
   generalize hd l'.1 = k at hz
   cases k with
   | ofNat n => cases n with
    | zero => rfl
    | succ n => cases hz
   | negSucc n => cases hz
  rw [e0, Int.zero_mul, ge] at hh
  exact e ▸ hh
 ·obtain ⟨a, ha, hl⟩ := dD.mp hl
  obtain ⟨b, hb, hl⟩ := dD.mp hl
  cases aP.mp hl
  obtain ⟨ha, pa⟩ := bz.mp ha
  obtain ⟨hb, pb⟩ := bz.mp hb
  have h1 := h a ha; have h2 := h b hb
  rw [DP] at h1 h2
  rw [Ln.ev_add, Ln.ev_mul, Ln.ev_mul]
  have q1 := Cu pa; have q2 := xu pb
  have m1 : 0 ≤ (- hd b.1) * (hd a.1 * x + Ln.ev E (Fn a)) := fe (by lia) h1
  have m2 : 0 ≤ hd a.1 * (hd b.1 * x + Ln.ev E (Fn b)) := fe (by lia) h2
  rw [iL] at m1 m2
  have : (- hd b.1) * (hd a.1 * x) + hd a.1 * (hd b.1 * x) = 0 := by rw [Int.neg_mul, Int.mul_left_comm]; lia
  lia
theorem Ep : ∀ {n : Nat} {c : Cs} {E : List Int}, E.length = n → Hb n c = true → nw E c → False := fun {n} => by
 induction n with
 | zero =>
  intro c E _ h hc
  obtain ⟨l, hm, hk⟩ := bN.mp h
  have := hc l hm
  obtain ⟨k, v⟩ := l
  cases k with
  | nil => have q := xu hk; rw [← Am] at this; lia
  | cons _ _ => cases hk
 | succ n ih =>
  intro c E he h hc
  cases E with
  | nil => cases he
  | cons x E => exact ih (ic he) h (Eo hc)
noncomputable def nn (n : Nat) : Cs := (av n).map fun i => (uv i, 0)
theorem FA {N : List Nat} {Z : List Int} : nw (env N Z) (nn N.length) := fun l hl => by
 obtain ⟨i, hi, e⟩ := az.mp hl
 cases e
 rw [← sd (DH (aM.mp hi))]
 exact fg _
noncomputable def PF.ok (p : PF) (n m : Nat) : Bool := (p.al n false).all fun c => Hb m (nn n ++ c)
theorem PF.la {p : PF} {N : List Nat} {Z : List Int} (h : p.ok N.length (N.length + Z.length) = true) : p.d N Z := fu fun z => by
 obtain ⟨c, m, hc⟩ := (GZ p).2 z
 exact Ep (by rw [ce, aa]) (a8.mp h c m) (FA.app hc)
noncomputable def qN : Nat → (List Nat → Prop) → Prop
 | 0, P => P []
 | n + 1, P => ∀ {x : Nat}, qN n fun l => P (x :: l)
noncomputable def qZ : Nat → (List Int → Prop) → Prop
 | 0, P => P []
 | n + 1, P => ∀ {x : Int}, qZ n fun l => P (x :: l)
theorem FB : ∀ {n : Nat} {P : List Nat → Prop}, (∀ l, l.length = n → P l) → qN n P := fun {n} => by
 induction n with
 | zero => exact fun h => h [] rfl
 | succ n ih => exact fun h => fun {x} => ih fun l e => h _ (congrArg ie e)
theorem FC : ∀ {n : Nat} {P : List Int → Prop}, (∀ l, l.length = n → P l) → qZ n P := fun {n} => by
 induction n with
 | zero => exact fun h => h [] rfl
 | succ n ih => exact fun h => fun {x} => ih fun l e => h _ (congrArg ie e)
noncomputable def ok1 (x : Nat × Nat × PF) : Bool := x.2.2.ok x.1 (x.1 + x.2.1)
noncomputable def Er (L : List (Nat × Nat × PF)) (k : Nat) : Nat × Nat × PF := L.getD k (0, 0, .i .f .f)
noncomputable abbrev Th (L : List (Nat × Nat × PF)) : Prop := ∀ k : Nat, qN (Er L k).1 fun N => qZ (Er L k).2.1 fun Z => (Er L k).2.2.d N Z
theorem all {L : List (Nat × Nat × PF)} (h : L.all ok1 = true) : Th L := fun k => FB fun N hN => FC fun Z hZ => by
 refine PF.la (Z := Z) ?_
 rw [hN, hZ]
 by_cases hk : k < L.length
 ·have e : Er L k = L[k] := by unfold Er; rw [aL, aG hk]; rfl
  rw [e]; exact a8.mp h _ (bJ hk)
 ·have e : Er L k = (0, 0, .i .f .f) := by unfold Er; rw [aL, a9 (dN.mp hk)]; rfl
  rw [e]; rfl
noncomputable abbrev NE.A := NE.v 0
noncomputable abbrev ZE.A := ZE.v 0
noncomputable abbrev NE.B := NE.v 1
noncomputable abbrev ZE.B := ZE.v 1
noncomputable abbrev NE.C := NE.v 2
noncomputable abbrev ZE.C := ZE.v 2
noncomputable abbrev NE.D := NE.v 3
noncomputable abbrev ZE.D := ZE.v 3
noncomputable abbrev NE.E := NE.v 4
noncomputable abbrev ZE.E := ZE.v 4
noncomputable abbrev NE.F := NE.v 5
noncomputable abbrev ZE.F := ZE.v 5
noncomputable abbrev NE.G := NE.v 6
noncomputable abbrev ZE.G := ZE.v 6
noncomputable abbrev NE.H := NE.v 7
noncomputable abbrev ZE.H := ZE.v 7
noncomputable abbrev NE.I := NE.v 8
noncomputable abbrev ZE.I := ZE.v 8
noncomputable abbrev NE.J := NE.v 9
noncomputable abbrev ZE.J := ZE.v 9
noncomputable abbrev NE.K := NE.v 10
noncomputable abbrev ZE.K := ZE.v 10
noncomputable abbrev NE.L := NE.v 11
noncomputable abbrev ZE.L := ZE.v 11
noncomputable abbrev NE.M := NE.v 12
noncomputable abbrev ZE.M := ZE.v 12
section
set_option compiler.extract_closed false
open Lean
def zD (s : String) : Syntax := zE "dotIdent" [zA ".", mkIdent (.mkSimple s)]
def zX (f : Syntax) (a : List Syntax) : Syntax := zE "app" [f, zL a]
def zq (n : Nat) : Syntax := Syntax.mkNumLit (toString n)
def zn : List Char → Nat → Nat × List Char
 | [], a => (a, [])
 | c :: r, a => if c.isDigit then zn r (a * 10 + (c.toNat - 48)) else (a, if c == '_' then r else c :: r)
def zf (c : Char) : String := match c with
 | 'y' => "L" | 'h' => "G" | 'u' => "mi" | 'v' => "ma" | 'b' => "ab" | c => toString c
def zr : Nat → List Char → Syntax × List Char
 | 0, l => (zD "f", l)
 | _, [] => (zD "f", [])
 | k + 1, c :: r =>
  let h := zD (zf c)
  if c.isUpper || c == 'f' then (h, r)
  else if c == 'c' then let (n, r) := zn r 0; (zX h [zq n], r)
  else if c == 'w' then let (n, r) := zn r 0; let (m, r) := zn r 0; (zX h [zq n, zq m], r)
  else if c == 'm' then let (n, r) := zn r 0; let (x, r) := zr k r; (zX h [zq n, x], r)
  else let (x, r) := zr k r
   if c == 'r' then let (n, r) := zn r 0; (zX h [x, zq n], r)
   else if c == 'n' || c == 't' || c == 'k' || c == 'b' then (zX h [x], r)
   else let (y, r) := zr k r; (zX h [x, y], r)
def zd (c : Char) : Syntax := zq (if c.isDigit then c.toNat - 48 else c.toNat - 55)
def zl : List String → Syntax
 | [] => mkIdent `List.nil
 | e :: r => match e.toList with
  | a :: b :: l => zX (mkIdent `List.cons) [zX (mkIdent `Prod.mk) [zd a, zX (mkIdent `Prod.mk) [zd b, (zr 200 l).1]], zl r]
  | _ => .missing
end
local macro_rules | `(tactic| wtm_at $s) => return zT "exact" [zA "exact", zl ((s.getString.drop 1).toString.splitOn ",")]
noncomputable def l0 : List (Nat × Nat × PF) := by wtm_at "#10hc0kA,20ilABltkAB,30ieABilCBltkCA,20iyAc5000ieBAyBc5000,30ieABilCBlCA,10ilAc64yAc16777216,20iyAc3ieBAyBc5000,10iyAc5000yAc5000,10iyAc5000yAc16777216,20iyaAc1ByAB,20ieABilBc64yAc5000,20ilAaBc1ineABlAB,30ieABilCAlCB,10ilAc64yAc5000,10ilc0Agc0kA,20iyAc10ieBAyBc5000,20iyAc4ieBAyBc5000,10iyAc5000lAw2_62,01hAaAkc0,13ihAaBc1ihBaCkAhAaCkaAc1,20ieABigskBc1c3yAc5000,20igkAkBlAB,10ilAc64lAw2_62,20ilABgkAkB"
noncomputable def l1 : List (Nat × Nat × PF) := by wtm_at "#20inlAByBA,01innzAnc1zAnc1,11iahnc1AgAkAinzAnc1hc0A,20iyAc3ieBAyBc16777216,20ilABilBc64gkAw2_63,10iyAc3lAw2_62,10iyAc10yAc16777216,10iyAc3lAc64,20ieABigkBc4yAc5000,10iyAc4yAc16777216,30iyABiyCAyCB,01innzAc0zAc0,21iahnc1AgAkAigkAkBgAkB,21iahnc1AgAkAieBAilc0AltAB,20ilABilBc64gkAc5000,10hnc1kA,01igc0AnzAc0,20iyaAc1BlAB,10iyAc4lAw2_62,10iyAc4lAc64,20izkAkBeAB,01ihnc1AinzAnc1zAktA,10nzkAnc1,00hnc1c0"
noncomputable def l2 : List (Nat × Nat × PF) := by wtm_at "#10zakAc1kaAc1,11igAkAilc0AltAA,01ihc0AzAktA,10iyAc5lAc64,10iyAc5lAw2_62,10iyAc3yAc16777216,14ihAaBc1ihBaCc1ihCaDm2kAhAaDm2kaAc1,30ieABieBCigkCc4yAc5000,10igskAc1c3lAc64,20iyAc4ieBAyBc16777216,02igABhAB,30iyaAaBc1CyaaAc1BC,20ilABineAsBc1lAsBc1,30iysaAc1aaBc1c1CysAaBc1C,20ilAByAB,20iyABineBAlAB,20ieABilBc64lAc64,02innzABzAB,10iyAc5000yAc16777215,10etakAc1aAc1,11iahnc1AgAkAytaAc1A,30ieAsBCigkCkBlsBaCc1A,20ilABilBc64yAc16777216,01hAaAc1"
noncomputable def l3 : List (Nat × Nat × PF) := by wtm_at "#01ihAc500000hAc1000000,01hAaAm10kc0,02ingaABc0hc0aAB,20iyAc5ieBAyBc5000,30iyAc5iyBm64AieCByCc5000,10iyAc10lAw2_62,13ihAaBc1ihBaCm2kAhAaCm2kaAc1,20iyABinlABeAB,30iyaAaBc1ClAC,30iyaAaBc1ClsAc1C,10iyc1AlsAc1A,20iyaAc1BlsBc1B,10yac0c1aAc1,10yAaAc1,20ilAByaAc1B,20yc0ssac0Ac1B,20ilaAc64BlaaAc1c2B,11iltAAgAkA,10hnw2_62kA,20innzkAkBeAB,30ilABinnzkCkBltkAC,01ingAc0hc0A,10ilc0AhnkAnc1,01inzsAc1nc1nzAc0"
noncomputable def l4 : List (Nat × Nat × PF) := by wtm_at "#30iyABilBCilCc64yAc16777216,20iyABilBc64lAc64,30iyABilBClAC,10iyAc5000lbkAw2_64,10igc0kAlc0A,30ieABigkCkBltkCA,30ieABigkCkBlCA,01igAc5000gAw2_63,11iyAc5000iahnc1AgAkAgAc5000,10iyAc64yAc5000,01ihc0Ahc0A,11ilAc64iltAAgAw2_63,12ihc0aABigaABkAltaABA,10iyAc5yAc16777216,02ihAaBc1ihBc500000hAc1000000,10gc0akAc1,00hc0c0,11iyAc10iahnc1AgAkAgAc5000,20iyAc10ilBAgkBc5000,20ieAByAB,10iyAc10lAc64,11iahc0AgAkAzAktA,20iahc0kAgkAkBlAB,10igskAc1c3lAw2_62"
noncomputable def l5 : List (Nat × Nat × PF) := by wtm_at "#01hAaAm2kc0,44ihAaBc1ihCaDm10kAihBaCm2kBihDc500000iyCc4iyDc5ilACilBDhAc1000000,10iyAc4gkAw2_62,20iyABiyBc5000yAc5000,20ilABlsaBc1aAc1saBc1A,20iyAsBc1ilc0BlAB,20ilAByAsBc1,30ilaaABc1ClAC,30ilaaABc1ClaaAc1BC,10iyAc60yaAc1c64,30ilaAaBc1ClaaABc1C,20ilAaBc1inlABeAB,30iysaAc1ac0c1BiysaAc1ac0c1CilBaAc1ilCaAc1eCB,20ysAaBc1sAc1,20ilABlAB,30iyABieCByAC,20iyaAc1Byc1B,10ineAc0lc0A,30ieABilCByCA,40ieABieaCaDc1BlCA,20ysABA,03ihABihCAhCB,02ihABihBAzBA,06iangABonzABngCDiangBEonzBEngDFangAEonzAEngCF"
noncomputable def l6 : List (Nat × Nat × PF) := by wtm_at "#04iangABonzABngCDiangBAonzBAngDCzAB,04iangABonzABngCDiangBAonzBAngDCzCD,30iesAaBc1aCc1esAaaBc1c1C,20iyAaBc1ineAaBc1yAB,20ieABilc0Blc0A,20ilaAc2BlAB,20ilaAc2BlaAc1B,20iyABieBc16777216gkAw2_63,20ilaAm2aBc1c900laaAc1m2Bc900,20iyAc5000innzkAkBlBw2_62,30iyAc5000innzkBkCinnzkAkCyBc5000,31ilABingkAAinnzkCkBltAC,30ilABilBClAC,30iyABilCAlCB,20lAaAaBc1,31inhkAsAkBizsAkBkClCA,51ieABieCBinhkCsAkDizsAkDkElEA,30iyABiyCc5000ilBCyAc16777216,30iyABiyCc5000ilBCyAc5000,20iyAc5000ilBAyBc16777216,20zskaABkAkB,20iyAm64BilBc64yAc5000,10iyAc60yAc5000,10nhc0snkAc1"
noncomputable def l7 : List (Nat × Nat × PF) := by wtm_at "#01ihnc1AiytaAc1c0zAnc1,21iytakAc1aBc1iahnc1AgAkAytaAc1B,21iahnc1AgAkAilABgAkB,21iahnc1AgAkAieBtakAc1ltaAc1B,11iahnc1AgAkAhnc1A,20iyAc5000ilBAyBc5000,20iyAc5000ilBAgkBc5000,10ysAc8A,30ilABilCsAsAc8lasAc8CB,20hc0kasAc8B,30ilABilCsAsAc8ltkasAc8CB,30ieABieCBeAC,21ilABiozAnc1ahc0AgAkAltAB,01ihAc1000igc0AlbAc1073741824,01ihc0Ahc0aAc1,01haAc1aAc1,01ihc0Ahc0am2Ac7207,20iyAByAB,10iyAc6yAc5000,11iyAc5000iltAAgAw2_63,10ingc0kAnlc0A,20inzkAkBneAB,13ihABizCsanAkAkc0hkAaCB,22izAsanBkAkaBc1zaAc1sanBkAkB"
noncomputable def l8 : List (Nat × Nat × PF) := by wtm_at "#20iyAm64BilBc64lAw2_62,20iyAm64BilBc64yAc16777216,01ihc0Anzc0aAc1,12inltaABAyAtaAB,02zsaABBA,10etanc1akAc1A,01ihc0Ahc0ac1A,01ihc0Alc0tac1A,01igAc3ytac1Ac3,10ioyAc4eAc10hakAc1c1000,10hc1akAc1,10iyAc3hkAc1000,20iyABhkAkB,20ineABnzkAkB,02izABhAB,10iyAc50yAc5000,11iyAc10igAkAgAc5000,21iahc0AgAkAieBAltAB,00hnc1nc1,10gnc1kA,20iyAc50ieBAyBc5000,10ilc0Altc0A,00gc0c5000,10iyAc3yAc5000"
noncomputable def l9 : List (Nat × Nat × PF) := by wtm_at "#01nnzAA,40ieABieCBilDAltkDC,11iahc0AhAkAinzAc0hc0sAc1,21iahc0AhAkAieBAinzAc0ltsAc1B,10igskAc1c3yAc16777216,10igkAc4lAw2_62,10igkAc4yAc16777216,20ieABeAB,20igskAc1c3ilBAgkBc5000,02ianahnc128AgBc128nazAc0gBc256ihnc128Agc127B,02inahnc128AgBc128nahnc128AgBc128,02inahnc32768AgBc32768nahnc32768AgBc32768,12iahc0AahAc2ahc0BahBc40000yAc5lbm8Ac1920,10iyAc4hskAc1c1000,10iyAc4hkAc1000,20iyAByAaBc1,20ilAc64yuBAc16777216,20zakAkBkaAB,01hAA,02inhABhBA,01ihc0Azac1Aktac1A,30ieAaBCyBA,30iyAc3iyBc5ieCaBAyCc5000,10iyc4Alc0A"
noncomputable def l10 : List (Nat × Nat × PF) := by wtm_at "#30iyAc5000iyBc5000iyCvAByCc5000,10iyAc4900yAc5000,24ihAanBkAihc0BiyAc4900iahc0aACgaACkvABietaaADc1BigDc64gaACw2_63,22iahc0aABgaABkvABgaABkvAB,22iyABiltaABAltaABB,30iyABieCAilBc64yCc16777216,20iyAaBc1yAaBc1,20iyAaBc1iyBc1000yAac16777216c1,10ilAc29lAc30,01ihnw2_62AigAw2_62ahnw2_63AgAw2_63,12inlAtsABytsABA,11zaArkA1aAkA,02ingABhBA,01ihc0AigAw2_62ahnw2_63AgAw2_63,10iyAc16777216nlc16777216A,20ilaAm2aBc1c900laAm2Bc900,20ilaaAm10aBc1c200c9900laaaAc1m10Bc200c9900,30iyABilaCm2Bc900laCm2Ac900,30iyABilaaCm10Bc200c9900laaCm10Ac200c9900,20ilaAm2Bc900lAc1000,20ilaaAm10Bc200c9900lAc9900,20ilaaAm10Bc200c9900laAc64c9900,30ilaAaBc1ClAC,30ilaAaBc1ClaaAc1BC"
noncomputable def l11 : List (Nat × Nat × PF) := by wtm_at "#30iyAc64ilaBc64ClaBAC,20yAaAaBc1,10yc1aAc1,30iyAaaBc1CyAaBaCc1,30ilAaBaCc1lAaaBc1C,40iayABlBCilDByAssaACc1D,30iayABlBClssaACc1BC,30iayABlBCyAssaACc1B,40iayABlBCilBDlssaACc1DC,40iayABlBCilBDinayADlDClssaACc1BD,40iayABlBCilDBinayADlDClDssaACc1B,40iyABiayCDlDAlssaCAc1DB,20iyaAc0ByAB,40iyaAaBc1CieDCyaAc1D,30iyaAaBc1CyAC,20iyaAc1ByaaAc1c1aBc1,30ilABilCAlCB,30ilABilCAlssac0Bc1Assac0Bc1C,30ilABlssac0Bc1CB,20iyAByaAsBAB,20iyABiyc1Ayc1B,30iyABiyCaAsBAyCB,20iyaAc1ByaaAc1sBaAc1B,10iyc1Ayac1sAc1A"
noncomputable def l12 : List (Nat × Nat × PF) := by wtm_at "#20ilABlAac1sBc1,10iyc1Alc0A,20ilABlsAc1B,10iyc1Ayc1A,20iyc1Alssac0Ac1BA,20iayc0AlABlssac0Bc1AB,20ilAaBc1inayc0AlABeAB,20ilABlssac0Bc1AB,10yc0sAc1,20ilABlsBc1B,10iyc1Ainlc1AeAc1,20ilABilBac1c1eAc0,20ilABilBac1c1eBc1,30iyABiysCAc0yCB,30ieaAaBc1ClAC,10ysAc0A,30ieaAaBc1CeaaAc1BC,20iyABesBsBAA,30ialAByBCyAsBc1,30ialAByBClsBc1C,10iyc1AevAc1A,20ilABeaAsBAB,40ieABilCAilDClDB,10ilAc64yAac16777216c1"
noncomputable def l13 : List (Nat × Nat × PF) := by wtm_at "#20ieABilAc2lBc2,20ieABinlAc2yc2B,20ieABinlAc2yc1B,02ohABhBA,04oangABonzABngCDangBAonzBAngDC,02igABngBA,03ingABingBCngAC,04iogABazABgCDangBAonzBAngDC,20iyc2AieBAlc0B,30iyaAc1BieCBiesBaAc1c0eaAc1C,30iesAaBc1c0ilCAyCB,40ieABiesBaCc1aDc1laCc1A,30iesAaBc1aCc1laBc1A,20ilaAc64BlaAc1B,10iyAc0eAc0,40ieaAac3BaCDeaaAc3BaCD,01ihc0Ahnw2_63A,01ihc0AngAc0,20ilaaAm10aBc1c200c9900laaaAc3m10Bc200c9900,10neAaAc1,10ieAc0yac1m3Ac4,30iyAc4ilaaBm10aCc1c200c9900laaaBAm10Cc200c9900,10iyAc63yAc64,10ingkc63kAyAc63"
noncomputable def l14 : List (Nat × Nat × PF) := by wtm_at "#10ilAw2_62gkAw2_62,01ihc0AigAc0f,11ihAkAigkAAf,11ingkAAhAkA,00lc0w2_62,20iyAc5000innzkAkByBc5000,01ihc0AigsAc1nc1f,11ihAkAihkAsAc1f,01ingsAc1nc1hc0A,11inhkAsAc1hAkA,01izsAc1nc1zAc0,01izsAc1nc1nhc0sAc1,14inzAc0izsAc1nc1azBsAc1ahc0skACgskACD,01ingsAc1nc1inzsAc1nc1hc0sAc1,11inhkAsAc1ingsAc1nc1inzsAc1nc1ltsAc1A,31ieABieCBinhkAsAc1ingsAc1nc1inzsAc1nc1ltsAc1C,02inzsAc1nc1izAc0zBc0,02innzAsBc1zAsBc1,21ihAkAilABgAkB,30iyABiyCaAc1yCaBc1,20iyABiyBc5000lAw2_62,30iyABiyBc5000ilCAgkCw2_63,30iyABiyBc5000ilCAyCc16777216,20iyABeBaAsBA"
noncomputable def l15 : List (Nat × Nat × PF) := by wtm_at "#20esaABAB,10ilAAf,20yaAc1aaAc1B,20eaaAc1BaAaBc1,20iyAc5000ieBAyBc16777216,11ingsAkAc0zsAkAktsAkA,21inhkAsAkBingsAkBc0nogsAkBc0hkAsAkB,41iyAc5000ieBAinhkBsAkCizsAkCkDgkDw2_63,00izkc1c0f,51ieABieCBinhkCsAkDizsAkDkEltkEA,10innzkAc1eAc1,10innzkAc2eAc2,10inzkAc1inzkAc2aneAc1neAc2,01innzAnc1048576zAnc1048576,20ilABilBc64gkAc64,20ilABizkAkBf,21ilABiogAc0hkBAizkAAf,20iayABlBw2_62gkAw2_62,20iayABlBw2_62gkBw2_62,30ilAtskBkClAsBC,20etskAkBsAB,30iyAc5000ilBsACyBc16777216,20iyAc5000ilBAgkBw2_63,00yc0c64"
noncomputable def l16 : List (Nat × Nat × PF) := by wtm_at "#10ilAc64yaAc1c64,02ihc0AigABltAtB,01igAc64ltAc64,20iyAc60lsABc64,30iyABiyCAilBc64yCc5000,02igABizABf,30ilABilBc64yuACc16777216,30ieABinlCByAC,20ilABesBAasBaAc1c1,20earA2m2Bm2aAB,10eac1m2Aam2Ac1,20ieAam2Bc1lBA,20iyaAaBc1c64yAc16777216,20ieAm2Bigc0kAlBA,10nlAc0,30ilABilBaCc1lAC,20ilAaBc1ysAc0B,30iyABilCBlaCArB2,01zsnsnAc1c1A,10ilAc64hkAc1000000,41iyAc5000iyBtaAc1ieaCDBigAkAyCc16777216,20ingkAkByBA,20igkAkBltkAB,01innzAnc1hnc1A"
noncomputable def l17 : List (Nat × Nat × PF) := by wtm_at "#01innzAnc1nnzAnc1,20iyAc5000ilBAlBw2_62,30ilAuBsCsCc8gkasCc8AkasCc8B,30iyAc5000ilBAilCsBsBc8gkasBc8Cc5000,34igkAAingBCizACangBkAnazBkAgDkasBc8C,35iangABnazABgCDigkAEizEBangAkAnazAkAgCkasBc8C,12ingkAAizABngkAB,33igAkasAc8BingkCBizBCangkCCnazkCCgaksAc8kBA,20ilAsBsBc8ahc0kasBc8AgkasBc8AkB,11inzAnc1iozAnc1ahc0AgAkAhc0A,21ilABilBc64iozAnc1ahc0AgAkAgAc5000,10yuc40Ac16777216,10ilc0AnzkAc0,11iahc0AgAkAltAA,01iahc0AgAc2147483629lbAw2_64,01ihAc1000000ihc0Albm20947Aw2_64,01iahc0AgAc2147483629hAc2147483629,01ihAc1000000ham2Ac7207c2007207,01ihAc1000000hm20947Ac20947000000,01ihAc1000000hAc1000000,01ihc0Ahc0m20947A,02ihAm20947000000c1000000ihBm2147483629c2007207ihc0Aihc0BlbaaBAc31w2_64,10iyAc1000yAc16777216,10iyAc1000hkAc1000"
noncomputable def l18 : List (Nat × Nat × PF) := by wtm_at "#11iyAc1000igAkAgAw2_63,21iyABiahc0AgAkAahc0AgAkB,11iahc0AgAkAizAkAf,11iahc0AgAkAahc0AgAkaAc1,10ahc0kAgkAkaAc1,11iahc0AgAkc0yAc0,12iahc0AgAkaAc1iahc0BgBkaAc1igBAahc0BgBkA,11igAkAilAc64gAc64,10zkac2Aac2kA,10igkAc4lac2Aw2_62,20igkAc4ilBac2AyBc5,30ieABigkCc4ilBac2CyAc16777216,01hAaAc2,23ihAaBc1ihCaAm10kAihBc500000igkBc4ilAac2BhCc1000000,02ihAaBc1hAaBc2,30ieABigkCc4ilBac2CyAc1000,24ihAaBc1ihCaDc1ihDaAm10kAihBc500000igkBc4ilAac2BhCc1000000,03ihAaBc1ihBaCc1hAaCc2,13ihAaBc2ihBaCm10kAhAaCm10kaAc1,35ihAaBc1ihCaDc2ihEaCkAihDaAm10kBihBc500000igkCc4ilBac2CilAc6hEc1000000,20iyABilBc6yAc5000,14ihAaBc2ihCaAkc6ihBaDm10kAhCaDm10kaAc1,20ieAac2Byc2A,20ieAac2BigkBc4yAc5"
noncomputable def l19 : List (Nat × Nat × PF) := by wtm_at "#13ihAaBc1ihCaAm10kac2AigkAc4hCaBc100,30ieAaBc1ieaCc1AeCB,30ilAuBClAB,30ieABieACilBCf,20ilABeBaAsBA,20ilABesBAassBAc1c1,40iyAaBCiyBaDc1yAaDaCc1,30iyABiyCAilBc64lCc64,12inyAtaaABc1evAtaaABc1A,02ihABihBAzAB,10zaskAc1c1kA,11iahc0AgAkAhAskAc1,11izAnc1hAskAc1,10zsc0kAnkA,10ilAc64gkAw2_62,11ilAc64iltAAgAc5000,11zsc0AsanAkAkA,04ihABihnACizDChc0aDB,40iyABiyCaDAilBc64ilDc64yCc16777216,10ilAc64yAc16777215,03igABnzaCAaCB,02ihc0Aihc0BietBtAzBA,21ieABiltABltAA,11izakAc1aAc1zAkA"
noncomputable def l20 : List (Nat × Nat × PF) := by wtm_at "#03izAaBCzsABC,02zaAsBAB,02zsaABAB,12inltaABAizktaABaABhkAaAB,20ilABahc0kAgkAkB,11hAaAkA,12ilAtsABgaBkAA,10iyAc5lrA6c64,30ieABieCByCA,20iyAc5ilBAgkBc5000,20iyAc5ieBAyBc16777216,10igkAc10ioyAc4eAc10yAc4,10iyAm4c3lAc64,01igAc2ytac1Ac3,10ioyAc4eAc10yAc10,01igAc2ytac1Ac2,10iyAm10c2lAc64,10ioyAc4eAc10lAw2_62,30ieABilBCioyCc4eCc10yAc16777216,24ihAaBc1ihBaCc1ihDaAm10kAihCc500000ilABioyBc4eBc10hDc1000000,30ieABilBCioyCc4eCc10yAc1000,25ihAaBc1ihCaDc1ihDaEc1ihBaCm10kAihEc500000ilABioyBc4eBc10hAc1000000,26ihAaBc1ihCaDc1ihBaEc1ihDaFc1ihEaCm10kAihFc500000ilABioyBc4eBc10hAc1000000,27ihAaBc1ihCaDc1ihBaEc1ihFaGc1ihDaFc1ihGaAm10kAihEc500000ilABioyBc4eBc10hCc1000000"
noncomputable def l21 : List (Nat × Nat × PF) := by wtm_at "#11iyAc3igAkAgAw2_63,21ieABigAkBgAkA,16ihAaBc1ihCaDc1ihDaEc1ihBaCc1ihEaFm10kAhAaFm10kaAc1,11ihc0AigAakAc1ahnc1sAc1gsAc1kA,46ihAaBc1ihCaDc1ihDaEc1ihFaAkAihBaCm10kBihEc500000iyCc3ilBDilACioyDc4eDc10hFc1000000,12ihc0AigAakAc1izBsAc1ahnc1BgBkA,24ihAaBc1ihCaAkAihBaDm10kBiyAc3hCaDm10kaBc1,20ieABioyBc4eBc10yAc10,35ihAaBc1ihCaAc1ihDaEkAihEaCm10kBihBc500000iyCc10ieCBilAChDc1000000,10iyAc10yAc10,25ihAaBc1ihBaCc1ihDaEkAihEaAm10kBiyAc10ieABhDaCc1000,02igABnzAB,11hAaAkaAc1,12ihAaaBc1kAhAaBkaAc1,11zaaAc1kAaAkaAc1,21iyABigAkAgAkB,12ihABhkAaanAkAB,01ihc0AnzaAc1c0,12yAvAtaaABc1,30iyABiyCm64AyCm64B,21ilABgskAAskBA,11izAc0nzAakAc1,12igAskABizAskABf,21ineABizAakBc1nzAakAc1"
noncomputable def l22 : List (Nat × Nat × PF) := by wtm_at "#10ahnc1nc1gnc1kA,11ihnc1AigAkAinzAnc1ltAA,21ihc0AieABigAkBltAA,10iyAc50lAw2_62,30ilAsBClaCAB,01ihc0Ahnc1A,01ihc0AnzAnc1,20hc0kaAB,30ilaABCltkaABC,20zakaABc1kaaABc1,20yAaBsAB,01inzAnc1nzAnc1,01ihnc1AinzAnc1hc0A,11iahnc1AgAkAinzAnc1zAktA,20iahnc1kAgkAkBlAB,30iahnc1kAgkAkBilBClAC,50iyAc50iyBtakCc1ieaDEBilCAyDc16777215,30iyABieCBiesBAc0eAC,20iesABc0yAB,40ieABiesBCaDc1lCA,30iesABaCc1lBA,20iyAc5000yuBAc16777216,30iesABaCc1esAaBc1C,10esAc0A"
noncomputable def l23 : List (Nat × Nat × PF) := by wtm_at "#10ysAsAc8c8,20iyAc10ilBAlBw2_62,10ilc0Alc0A,30ilAsBsBc8yuACc16777216,30iyAc10ilBAilCsBsBc8gkasBc8Cc5000,20iyABiyBc3yAc16777216,20iyABiyBc3yAc5000,20iyAc10yuBAc5000,10iyAc8yAc16777216,30iahc0kAgkAkBilBClAC,20iyAc10ieBAyBc16777216,30iyAc10ilBAyuBCc16777216,20iyAc3ieBAlBw2_62,10iyAc10gkAw2_62,00nnznc1nc1,10ieAc5yAc5000,10ioeAc0eAc2yAc2,10ieAc5yAc50,20iyAc2ieBc5yAB,10nnzkAkA,10iyAc10yAc5000,10iyAc10yAc50,20ilAaBc1hkAkB,20ihkAkBlAaBc1"
noncomputable def l24 : List (Nat × Nat × PF) := by wtm_at "#30iyAc10ieBAilCBlaCc1w2_62,30iyAc10ieBAilCByaCc1c16777216,30ilABilCaAc1ltkCB,11iahc0AgAkAhc0A,42iahc0AahAkAzBAieBCieDCilADltAB,21iahc0AhAkAieBAhAkB,01izAc0nnzAc0,22ieABiltaABBltaABA,02zAsaBAB,02ihc0AizBaAc1nzBc0,01zsaAc1c1A,02ihAc64igBAgBc64,01ihc0AzAsktaAc1c1,10zac1skAc1kA,03ihAaBc1ihBaCc1ihCc500000hAc1000000,25ihAaBc1ihBaCc1ihCaDc1ihEaAkAihDc500000igskBc1c3ilABhEc1000000,26ihAaBc1ihCaAc1ihBaDc1ihEaCkAihFaEkBihDc500000igskAc1c3ilBAhFc1000000,37ihAaBc1ihCaDc1ihDaAc1ihEaCkAihFaGkBihGaEkAihBc500000igkCc4igskAc1c3ilBChFc1000000,10igskAc1c3hakAc1c1000,11ihc0AigAakAc1ahc0AhAkA,20ieABigkBc4yAc16777216,48ihAaBc1ihCaDc1ihDaAc1ihEaCkAihFaGkBihGaEkAihHaFm2kCihBc500000ieDBigkBc4igskAc1c3ilCDhHc1000000,49ihAaBc1ihCaDc1ihBaEc1ihFaAc1ihGaFkAihHaIkBihIaGkAihDaHm2kCihEc500000ieDBigkBc4igskAc1c3ilCDhCc1000000,38ihAaBc1ihBaCc1ihDaAc1ihEaDkAihFaGkBihGaEkAihHaFm2kCieCBigkBc4igskAc1c3hHaCc1000"
noncomputable def l25 : List (Nat × Nat × PF) := by wtm_at "#10igskAc1c3yAc10,20ieABigkBc4yAc10,10igskAc1c3laAc1c64,20ieABieAaBc1f,30ieABieBCigkCc4yAc16777215,30ieABieBCigkCc4yAc4999,20ieABieaAc1Bf,20ieABigkBc4lAc64,02igAc3izac1ABhBc64,30iyABieBCigkCc4yAc16777216,20ieAByBA,02ihnc128AigBc128ahnc128AhBc127,02inahnc128AgBc128ihnc128Agc127B,02igAc256izBc0ahc0BhAc255,02ihAc0ianahnc128AgBc128nazAc0gBc256ihc0Agc255B,02ihnc32768AigBc32768ahnc32768AhBc32767,02ianahnc128AgBc128nazAc0gBc256izAc0ihc0Agc255B,02inahnc32768AgBc32768ihnc32768Agc32767B,02igAc65536izBc0ahc0BhAc65535,02ianahnc32768AgBc32768nazAc0gBc65536ihnc128Agc127B,02ianahnc32768AgBc32768nazAc0gBc65536ihc0Agc255B,02ianahnc32768AgBc32768nazAc0gBc65536ihnc32768Agc32767B,02ihAc0ianahnc32768AgBc32768nazAc0gBc65536ihc0Agc65535B,01ihnc128Ahnc128A"
noncomputable def l26 : List (Nat × Nat × PF) := by wtm_at "#01igAc128gAc128,01igAm2c128gAc256,02inazAc0gBm2c128nazAc0gBc256,00yc1c1,01ihnc32768Ahnc32768A,01igAc32768gAc32768,01igAm2c32768gAc65536,02inazAc0gBm2c32768nazAc0gBc65536,12iahc0AahAc2ahc0BahBc40000yAc5hAc1000000,22iahc0AahAc2ahc0BahBc40000yAc5ieBc3yaBAc16777216,22iahc0AahAc2ahc0BahBc40000yAc5ieBc4yaBAc16777216,30iyAc4ieBCilCAyBc16777216,30iyABiyCc5ilBCyAc5000,43ihAaBm10kAihCaAm2kBihBc500000iyCc4iyDc5ilACilBDhCc1000000,01iozAc1048576zAnc1048576nzAc0,10iyc2Agc0skAc1,01ihc0Anzssc0c1Ac0,10igc1kAgc0skAc1,01ihc0Anzac1Ac0,23ihAaBm10kAihCaAm2kBiyBc5hCaBm10kaAc1,12ihAaBm10kAiyAc4hAaBc100,30iyAc3ieBCilCAyBc16777216,43ihAaBm10kAihCaAm2kBihBc500000iyCc3iyDc4ilBDilAChCc1000000,44ihAaBc1ihCaDm10kAihBaCm2kBihDc500000iyCc3iyDc4ilACilBDhAc1000000"
noncomputable def l27 : List (Nat × Nat × PF) := by wtm_at "#12ihc0AigAkAizBAahc0BgBkA,11ilc0AizAc0ahc0AgAkA,23ihAaBm10kAihCaAm2kBiyBc4hCaBm10kaAc1,12ihAaBm10kAiyAc3hAaBc100,30iyAc3ilBAyuBCc16777216,20iyAc3ilBAgkBc5000,20iyAc4ieBAlBw2_62,20ilABeuABA,21iogAkAhakAkBAogsAkAc0hkBsAkA,20iyAc4ilBAgkBc5000,31ieABilc0CiozAc0ozAskCc1ozAakCkBzAaakCkBc2ogAkChakCkAA,10iyAc5yAc5000,02izABhBA,03ihABihBChAC,23ihAaBc1ihCaAkAihBc500000igkBc4ilABhCc1000000,13ihAaBc1ihCaAkAigkAc4hCaBc100,0AzaAaBaCaDaEaFaGaHaIaJc0aAaBaCaDaIaEaFaGaHaJc0,20ilABnogkAc0hkBkA,20iyAc3iyBc5eauBc5uAc3aBA,01ihAc400000hAc1000000,02ihAaBc1ihBc400000hAc1000000,03ihAaBc1ihBaCc1ihCc400000hAc1000000,04ihAaBc1ihCaDc1ihBaCc1ihDc400000hAc1000000,01ihc0Azac4Aktac4A"
noncomputable def l28 : List (Nat × Nat × PF) := by wtm_at "#01ihc0Azac2Aktac2A,11ihc0Aizac1AkAlc0A,11igAc4izac1AkAyAc4,11ihc0Aizac4AkAyc4A,11igAc2izac4AkAyAc5,11ihc0Aizac1AkAyc1A,11igAc3izac1AkAyAc3,11ihc0Aizac2AkAyc2A,11igAc3izac2AkAyAc4,05ihAaBc1ihCaDc1ihEaCc1ihBaEc1hAaDc4,02ihAaBc4ihBc400000hAc500000,03ihAaBc100ihBaCc4ihCc400000hAc500000,25ihAaBc100ihBaCc100ihCaDc4ihEaAkAihDc400000iyBc4ilABhEc1000000,10iyc2Agc0kA,10iec0Ailc0Af,20iyAc4ilBAhkBc1000000,40iyAc3iyBc5yauBCuADc16777216,10iyc2Ahc0skAc1,10iyAc4gskAc1w2_62,10iyAc4yAc16777217,10iyAc4yac1sAc1c16777216,30iyAc3iyBc5ieCaBAyCc60,30ieAaBCesABC,20iyAc4ieBAlBc64"
noncomputable def l29 : List (Nat × Nat × PF) := by wtm_at "#20iyAc4ieBAyBc4,20iyAc3ieBAyBc3,20iyAc4ieBAyBc64,15ihAaBc100ihBaCc100ihCaDc4ihEaAkAihDc400000iyAc4hEc500000,16ihAaBc100ihCaDc100ihEaCc100ihDaFc4ihBaEkAiyAc4hAaFc1000,20nnzakAkBakAkB,30iyAc3iyBc5ieCaBAyCc16777216,10iyAc4lbkAw2_64,10yuc40Ac64,10iyc2Alc0A,01ihAac0c100hAc500000,13ihAaBc1000ihCaAkAihBac0c100ilAc5hCc1000000,03ihAaBc1000ihCaAkc5ihBac0c100hCc400000,01hAaAm1000kc0,15ihAaBc1000ihCaDc1000ihBaCkc5ihEaAm1000kAihDac0c100ilAc3hEc500000,13ihAaBc1000ihBaCm1000kAhAaCm1000kaAc1,20iyABilBc64yAc16777216,11ihkAAhkAA,11iyAc5000inhkAAgAw2_63,11ihc0AinhkAAltAA,11znAsanAkAkA,23ihABiyABizCsanAkBkAhc0aCB,20yAvAB,30igkAkByaAc1vCB"
noncomputable def l30 : List (Nat × Nat × PF) := by wtm_at "#30iyABiyBvACingkBkCeBvAC,13ihABihnACietaaCBc1AzaaCBc1kA,23ihAanBkAihc0BiyAc4900ietaaACc1BigCc64yBc5000,24ihABihBCihnADietaaDCc1Aahc0aDBgaDBkvBA,22iahc0aABgaABkvABltaABvAB,40iyABiyCm64DilDAilBc64yCc4900,12ihkAaAByAtaAB,12inhkAaABingaABc0ltaABA,11iahc0AhAkAinzAc0zAaktsAc1c1,20iahc0akAc1hakAc1kBlAB,10zsakAc1c1kA,30iahc0akAc1hakAc1kBieCBlAC,20iahc0akAc1hakAc1kBilBc64gkAw2_63,30iahc0akAc1hakAc1kBieCBltkAC,30iahc0kAgkAkBieCBlAC,20iahc0kAgkAkBilBc64gkAw2_63,20iyABiyBc5000yAc16777216,30iyABieCAeCuAB"
end Ar
theorem J0 : Ar.Th Ar.l0 := Ar.all (by kernel_rfl)
theorem J1 : Ar.Th Ar.l1 := Ar.all (by kernel_rfl)
theorem J2 : Ar.Th Ar.l2 := Ar.all (by kernel_rfl)
theorem J3 : Ar.Th Ar.l3 := Ar.all (by kernel_rfl)
theorem J4 : Ar.Th Ar.l4 := Ar.all (by kernel_rfl)
theorem J5 : Ar.Th Ar.l5 := Ar.all (by kernel_rfl)
theorem J6 : Ar.Th Ar.l6 := Ar.all (by kernel_rfl)
theorem J7 : Ar.Th Ar.l7 := Ar.all (by kernel_rfl)
theorem J8 : Ar.Th Ar.l8 := Ar.all (by kernel_rfl)
theorem J9 : Ar.Th Ar.l9 := Ar.all (by kernel_rfl)
theorem J10 : Ar.Th Ar.l10 := Ar.all (by kernel_rfl)
theorem J11 : Ar.Th Ar.l11 := Ar.all (by kernel_rfl)
theorem J12 : Ar.Th Ar.l12 := Ar.all (by kernel_rfl)
theorem J13 : Ar.Th Ar.l13 := Ar.all (by kernel_rfl)
theorem J14 : Ar.Th Ar.l14 := Ar.all (by kernel_rfl)
theorem J15 : Ar.Th Ar.l15 := Ar.all (by kernel_rfl)
theorem J16 : Ar.Th Ar.l16 := Ar.all (by kernel_rfl)
theorem J17 : Ar.Th Ar.l17 := Ar.all (by kernel_rfl)
theorem J18 : Ar.Th Ar.l18 := Ar.all (by kernel_rfl)
theorem J19 : Ar.Th Ar.l19 := Ar.all (by kernel_rfl)
theorem J20 : Ar.Th Ar.l20 := Ar.all (by kernel_rfl)
theorem J21 : Ar.Th Ar.l21 := Ar.all (by kernel_rfl)
theorem J22 : Ar.Th Ar.l22 := Ar.all (by kernel_rfl)
theorem J23 : Ar.Th Ar.l23 := Ar.all (by kernel_rfl)
theorem J24 : Ar.Th Ar.l24 := Ar.all (by kernel_rfl)
theorem J25 : Ar.Th Ar.l25 := Ar.all (by kernel_rfl)
theorem J26 : Ar.Th Ar.l26 := Ar.all (by kernel_rfl)
theorem J27 : Ar.Th Ar.l27 := Ar.all (by kernel_rfl)
theorem J28 : Ar.Th Ar.l28 := Ar.all (by kernel_rfl)
theorem J29 : Ar.Th Ar.l29 := Ar.all (by kernel_rfl)
theorem J30 : Ar.Th Ar.l30 := Ar.all (by kernel_rfl)
set_option compiler.extract_closed false
open Lean in
def aR : Syntax := (Unhygienic.run `(tacticSeq| with_unfolding_all rfl)).raw
open Lean in
def aD : Syntax := (Unhygienic.run `(tacticSeq| decide)).raw
open Lean in
def aK : Syntax := (Unhygienic.run `(tacticSeq| kernel_rfl)).raw
open Lean in
def aF : Syntax := (Unhygienic.run `(tacticSeq| rfl)).raw
open Lean in
def aI : Syntax := (Unhygienic.run `(tacticSeq| intro _ _; rfl)).raw
open Lean in
def aE : Syntax := (Unhygienic.run `(tacticSeq| with_unfolding_all decide)).raw
theorem dcl {p : Prop} (h : autoParam p aE) : p := h
inductive PV where
 | none | bool (b : Bool) | int (i : Int) | str (x : Str)
 | tup (xs : List PV) | lst (xs : List PV) | dct (es : List (PV × PV)) | ins (c : Str) (fs : List (Str × PV))
 | rng (a b : Int) | ref (a : Addr)
inductive HO where
 | lst (xs : List PV) | dct (es : List (PV × PV)) | ins (c : Str) (fs : List (Str × PV))
noncomputable abbrev HH := List (Addr × HO)
noncomputable abbrev CV := PV → HH → Prop
noncomputable abbrev CL := List PV → HH → Prop
noncomputable abbrev CB := Bool → HH → Prop
structure Gh where
 g : Addr → Option Obj
 own : Addr → Option Addr
structure Wd where
 prog : Program
 w : World
 B0 : Heap
 os0 : OsState
 mg : Str → Option Value
 mb : Str → Option Value
 hg : B0.Ns mainGlobals mg
 hb : B0.Ns builtinsNs mb
 nolimit : B0.NoLimit
 bb : ∀ x : Str, x ≠ "__name__" → mb x = bootBuiltins x
 K : Frag
 inK : K.In B0
 hsys : ∃ o, B0.get? sysModules = some o
noncomputable abbrev lI (vs : List Value) (n : Nat) : Obj := { cls := .type "list", data := .seq vs.toArray n }
noncomputable abbrev Ap (vs : List Value) (n : Nat) : Obj := { cls := .type "tuple", data := .seq vs.toArray n }
inductive IsT (g : Addr → Option Obj) (a : Addr) (vs : List Value) : Prop
 | mk (o : Obj) (e : g a = some o) (d : o.cls = .type "tuple" ∧ ∃ n, o.data = .seq vs.toArray n)
noncomputable abbrev nS (es : List DictEntry) (n : Nat) : Obj := { cls := .type "dict", data := .dict es.toArray n }
mutual
noncomputable def GU (W : Wd) : PV → Int
 | .int i => hashInt i
 | .str x => bE W.w.params x
 | .tup xs => reduceHash (bC (Cv W xs))
 | _ => 0
noncomputable def Cv (W : Wd) : List PV → List Int
 | [] => []
 | x :: xs => GU W x :: Cv W xs
end
noncomputable def wC : List Str → Bool
 | [] => true
 | x :: xs => match xs.any (cF x) with
  | true => false
  | false => wC xs
theorem tW {l : List Str} (h : wC l = true) : l.Nodup := by
 induction l with
 | nil => exact iY
 | cons x xs ih =>
  unfold wC at h
  cases e : xs.any (cF x) with
  | true => rw [e] at h; cases h
  | false =>
   rw [e] at h
   refine aY.mpr ⟨fun m => ?_, ih h⟩
   rw [ig] at e
   exact e x m (cD.mpr rfl)
open Lean in
def aN : Syntax := (Unhygienic.run `(tacticSeq| exact tW (by kernel_rfl))).raw
theorem Ag {a b : Str} (h : cF a b = false) : a ≠ b := fun e => fU (h.symm.trans (cD.mpr e))
inductive vl (g : Addr → Option Obj) (R : List Value → Prop) (v : Value) : Prop
 | mk (a : Addr) (vs : List Value) (e : v = .ref a) (it : IsT g a vs) (r : R vs)
inductive Aq (g : Addr → Option Obj) (R : List Value → Prop) (v : Value) : Prop
 | mk (a : Addr) (vs : List Value) (n : Nat) (e : v = .ref a) (h : g a = some (lI vs n)) (r : R vs)
inductive As (g : Addr → Option Obj) (N : Prop) (R : List DictEntry → Prop) (v : Value) : Prop
 | mk (a : Addr) (ds : List DictEntry) (n : Nat) (e : v = .ref a) (h : g a = some (nS ds n)) (nd : (a == sysModules) = false ∧ N) (r : R ds)
inductive At (g : Addr → Option Obj) (c : Option Value) (N : Prop) (R : List DictEntry → Prop) (v : Value) : Prop
 | mk (a C dx : Addr) (ds : List DictEntry) (n : Nat) (e : v = .ref a) (hc : c = some (.ref C)) (h : g a = some (instObj C dx)) (h' : g dx = some (nS ds n)) (nd : N) (r : R ds)
inductive Cw (g : Addr → Option Obj) (lo hi : Int) (v : Value) : Prop
 | mk (a : Addr) (t u z : Tok) (e : v = .ref a) (h : g a = some { cls := .type "range", data := .fields #[.int lo t, .int hi u, .int 1 z] })
inductive tX (A : Value → Prop) (B : List Value → Prop) (vs : List Value) : Prop
 | mk (v : Value) (r : List Value) (e : vs = v :: r) (h : A v) (k : B r)
inductive xw (n : Int → Prop) (A A' : Value → Prop) (B : List DictEntry → Prop) (ds : List DictEntry) : Prop
 | mk (d : DictEntry) (r : List DictEntry) (e : ds = d :: r) (hh : n d.hash) (h : A d.key) (h' : A' d.val) (k : B r)
inductive tY (n : Int → Prop) (x : Str) (A : Value → Prop) (B : List DictEntry → Prop) (ds : List DictEntry) : Prop
 | mk (d : DictEntry) (r : List DictEntry) (t : Tok) (e : ds = d :: r) (hh : n d.hash) (hk : d.key = .str x t) (h : A d.val) (k : B r)
mutual
noncomputable def RV (W : Wd) (G : Gh) : PV → Value → Prop
 | .none, v => v = .none
 | .bool b, v => v = .bool b
 | .int i, v => ∃ t, v = .int i t
 | .str x, v => ∃ t, v = .str x t
 | .tup xs, v => vl G.g (jY W G xs) v
 | .lst xs, v => Aq G.g (jY W G xs) v
 | .dct es, v => As G.g (es.map ai).Nodup (oK W G es) v
 | .ins c fs, v => At G.g (W.mg c) (fs.map ai).Nodup (qf W G fs) v
 | .rng lo hi, v => Cw G.g lo hi v
 | .ref a, v => v = .ref a
noncomputable def jY (W : Wd) (G : Gh) : List PV → List Value → Prop
 | [], vs => vs = []
 | x :: xs, vs => tX (RV W G x) (jY W G xs) vs
noncomputable def oK (W : Wd) (G : Gh) : List (PV × PV) → List DictEntry → Prop
 | [], ds => ds = []
 | (k, x) :: xs, ds => xw (fun n => n = GU W k) (RV W G k) (RV W G x) (oK W G xs) ds
noncomputable def qf (W : Wd) (G : Gh) : List (Str × PV) → List DictEntry → Prop
 | [], ds => ds = []
 | (k, x) :: xs, ds => tY (fun n => n = bE W.w.params k) k (RV W G x) (qf W G xs) ds
end
theorem Es {W : Wd} {G : Gh} {i : Int} {t : Tok} : RV W G (.int i) (.int i t) := ⟨t, rfl⟩
theorem rvS {W : Wd} {G : Gh} {x : Str} {t : Tok} : RV W G (.str x) (.str x t) := ⟨t, rfl⟩
local macro_rules | `(tactic| wtm_at $s) => return zM (← Lean.getCurrMacroScope) s.getString
mutual
theorem RV.mono {W : Wd} {G G' : Gh} (hg : ∀ b o, G.g b = some o → G'.g b = some o) : ∀ {p : PV} {v : Value}, RV W G p v → RV W G' p v
 | .none, v, h => h
 | .bool _, v, h => h
 | .int _, v, h => h
 | .str _, v, h => h
 | .tup xs, v, h => by
  obtain ⟨a, vs, e, ⟨o, e1, e2⟩, r⟩ := h
  exact vl.mk a vs e ⟨o, hg _ _ e1, e2⟩ (jY.mono hg r)
 | .lst xs, v, h => by
  obtain ⟨a, vs, n', e, e1, r⟩ := h
  exact Aq.mk a vs n' e (hg _ _ e1) (jY.mono hg r)
 | .dct xs, v, h => by
  obtain ⟨a, vs, n', e, e1, nd, r⟩ := h
  exact As.mk a vs n' e (hg _ _ e1) nd (oK.mono hg r)
 | .ins c xs, v, h => by
  obtain ⟨a, C, dx, ds, n', e, e1, e2, e3, nd, r⟩ := h
  exact At.mk a C dx ds n' e e1 (hg _ _ e2) (hg _ _ e3) nd (qf.mono hg r)
 | .rng _ _, v, h => by
  obtain ⟨a, t, u, z, e, e1⟩ := h
  exact Cw.mk a t u z e (hg _ _ e1)
 | .ref i, v, h => h
theorem jY.mono {W : Wd} {G G' : Gh} (hg : ∀ b o, G.g b = some o → G'.g b = some o) : ∀ {p : List PV} {v : List Value}, jY W G p v → jY W G' p v
 | [], v, h => h
 | x :: xs, v, h => by
  obtain ⟨a, r, e, h1, h2⟩ := h
  exact tX.mk a r e (RV.mono hg h1) (jY.mono hg h2)
theorem oK.mono {W : Wd} {G G' : Gh} (hg : ∀ b o, G.g b = some o → G'.g b = some o) : ∀ {p : List (PV × PV)} {v : List DictEntry}, oK W G p v → oK W G' p v
 | [], v, h => h
 | (k, x) :: xs, v, h => by
  obtain ⟨a, r, e, hh, h1, h2, h3⟩ := h
  exact xw.mk a r e hh (RV.mono hg h1) (RV.mono hg h2) (oK.mono hg h3)
theorem qf.mono {W : Wd} {G G' : Gh} (hg : ∀ b o, G.g b = some o → G'.g b = some o) : ∀ {p : List (Str × PV)} {v : List DictEntry}, qf W G p v → qf W G' p v
 | [], v, h => h
 | (k, x) :: xs, v, h => by
  obtain ⟨a, r, t, e, hh, h1, h2, h3⟩ := h
  exact tY.mk a r t e hh h1 (RV.mono hg h2) (qf.mono hg h3)
end
inductive Hc (h : Heap) (own : Option Addr) (a : Addr) (R : List Value → Prop) : Prop
 | mk (vs : List Value) (n : Nat) (e : h.get? a = some (lI vs n)) (o : own = some a) (r : R vs)
inductive He (h : Heap) (own : Option Addr) (a : Addr) (N : Prop) (R : List DictEntry → Prop) : Prop
 | mk (ds : List DictEntry) (n : Nat) (e : h.get? a = some (nS ds n)) (o : own = some a) (nd : N) (r : R ds)
inductive Hg (h : Heap) (own : Addr → Option Addr) (c : Option Value) (a : Addr) (N : Prop) (R : List DictEntry → Prop) : Prop
 | mk (C dx : Addr) (ds : List DictEntry) (n : Nat) (hc : c = some (.ref C)) (e : h.get? a = some (instObj C dx)) (e' : h.get? dx = some (nS ds n)) (o : own a = some a) (o' : own dx = some a) (nd : N) (r : R ds)
noncomputable def kF (W : Wd) (G : Gh) (h : Heap) (a : Addr) : HO → Prop
 | .lst xs => Hc h (G.own a) a (jY W G xs)
 | .dct es => He h (G.own a) a (es.map ai).Nodup (oK W G es)
 | .ins c fs => Hg h G.own (W.mg c) a (fs.map ai).Nodup (qf W G fs)
noncomputable def k9 (h : Heap) (b : Addr) : Prop := ∃ o, h.get? b = some o
theorem ke {h : Heap} {b : Addr} (hb : h.objs.size ≤ b) : ¬ k9 h b := fun ⟨o, e⟩ => absurd (bq e) (dN.mpr hb)
structure HR (W : Wd) (G : Gh) (H : HH) (s : Shared) : Prop where
 bas : ∀ b o, W.B0.get? b = some o → G.g b = some o
 bown : ∀ b i, G.own b = some i → W.B0.get? b = none ∧ k9 s.heap b
 imm : ∀ b o, G.g b = some o → s.heap.get? b = some o ∧ G.own b = none
 nodup : (H.map (·.1)).Nodup
 slot : ∀ a o, (a, o) ∈ H → kF W G s.heap a o
 os : s.os = W.os0
 gens : s.gens = #[]
theorem HR.base {W G H s} (x : HR W G H s) : ∀ b o, W.B0.get? b = some o → s.heap.get? b = some o := fun b o e => (x.imm b o (x.bas b o e)).1
structure ky (fa : List Addr) (G : Gh) (s : Shared) (G' : Gh) (s' : Shared) : Prop where
 gle : ∀ b o, G.g b = some o → G'.g b = some o
 own : ∀ b, k9 s.heap b → G'.own b = G.own b ∨ G'.own b = none
 gnew : ∀ b, k9 s.heap b → G.own b = none → G'.g b = G.g b
 keep : ∀ b o, s.heap.get? b = some o → G.own b = none → b ∉ fa → s'.heap.get? b = some o
 there : ∀ b, k9 s.heap b → k9 s'.heap b
theorem ky.refl {fa G s} : ky fa G s G s := ⟨fun _ _ e => e, fun _ _ => .inl rfl, fun _ _ _ => rfl, fun _ _ e _ _ => e, fun _ h => h⟩
theorem ky.trans {fa G s G1 s1 G2 s2} (x : ky fa G s G1 s1) (y : ky fa G1 s1 G2 s2) : ky fa G s G2 s2 where
 gle := fun b o e => y.gle b o (x.gle b o e)
 own := fun b hb => by
  rcases x.own b hb with h | h <;> rcases y.own b (x.there b hb) with h' | h' <;> first | exact .inr h' | (rw [h] at h'; first | exact .inl h' | exact .inr h')
 gnew := fun b hb ho => by
  refine (y.gnew b (x.there b hb) ?_).trans (x.gnew b hb ho)
  rcases x.own b hb with h | h
  ·rw [h, ho]
  ·exact h
 keep := fun b o e ho hf => by
  refine y.keep b o (x.keep b o e ho hf) ?_ hf
  rcases x.own b ⟨o, e⟩ with h | h
  ·rw [h, ho]
  ·exact h
 there := fun b h => y.there b (x.there b h)
theorem ky.weak {fa G s G' s'} (x : ky [] G s G' s') : ky fa G s G' s' := ⟨x.gle, x.own, x.gnew, fun b o e h _ => x.keep b o e h bw, x.there⟩
theorem ky.rv {W fa G s G' s' p v} (x : ky fa G s G' s') (h : RV W G p v) : RV W G' p v := h.mono x.gle
theorem ky.rvs {W fa G s G' s' p v} (x : ky fa G s G' s') (h : jY W G p v) : jY W G' p v := h.mono x.gle
theorem kF.mono {W G G' h h' a o} (x : kF W G h a o) (hg : ∀ b o, G.g b = some o → G'.g b = some o) (hk : ∀ b ob, G.own b = some a → h.get? b = some ob → h'.get? b = some ob) (ho : ∀ b, G.own b = some a → G'.own b = some a) : kF W G' h' a o := by
 cases o with
 | lst xs => obtain ⟨vs, n, h1, h2, r⟩ := x; exact ⟨vs, n, hk _ _ h2 h1, ho _ h2, jY.mono hg r⟩
 | dct xs => obtain ⟨vs, n, h1, h2, nd, r⟩ := x; exact ⟨vs, n, hk _ _ h2 h1, ho _ h2, nd, oK.mono hg r⟩
 | ins c xs => obtain ⟨C, dx, vs, n, h0, h1, h2, h3, h4, nd, r⟩ := x; exact ⟨C, dx, vs, n, h0, hk _ _ h3 h1, hk _ _ h4 h2, ho _ h3, ho _ h4, nd, qf.mono hg r⟩
theorem kF.has {W G h a o} (x : kF W G h a o) : k9 h a := by
 cases o with
 | lst xs => obtain ⟨vs, n, h1, _⟩ := x; exact ⟨_, h1⟩
 | dct xs => obtain ⟨vs, n, h1, _⟩ := x; exact ⟨_, h1⟩
 | ins c xs => obtain ⟨C, dx, vs, n, h0, h1, _⟩ := x; exact ⟨_, h1⟩
theorem HR.kept {W G H s} (x : HR W G H s) {h' : Heap} {tk dr} (hk : ∀ b o, s.heap.get? b = some o → h'.get? b = some o) : HR W G H { s with heap := h', toks := tk, drawn := dr } where
 bas := x.bas
 bown := fun b i e => ⟨(x.bown b i e).1, let ⟨o, ho⟩ := (x.bown b i e).2; ⟨o, hk _ _ ho⟩⟩
 imm := fun b o e => ⟨hk _ _ (x.imm b o e).1, (x.imm b o e).2⟩
 nodup := x.nodup
 slot := fun a o hm => (x.slot a o hm).mono (fun _ _ e => e) (fun b ob _ e => hk b ob e) fun _ e => e
 os := x.os
 gens := x.gens
theorem ky.kept {fa G} {s : Shared} {h' : Heap} {tk dr} (hk : ∀ b o, s.heap.get? b = some o → h'.get? b = some o) : ky fa G s G { s with heap := h', toks := tk, drawn := dr } :=
 ⟨fun _ _ e => e, fun _ _ => .inl rfl, fun _ _ _ => rfl, fun b o e _ _ => hk b o e, fun b ⟨o, e⟩ => ⟨o, hk b o e⟩⟩
noncomputable def Gh.addG (G : Gh) (a : Addr) (o : Obj) : Gh := ⟨fun b => if b = a then some o else G.g b, G.own⟩
noncomputable def Gh.addO (G : Gh) (a : Addr) (i : Addr) : Gh := ⟨G.g, fun b => if b = a then some i else G.own b⟩
theorem HR.noG {W G H s} (x : HR W G H s) {b : Addr} (hb : ¬ k9 s.heap b) : G.g b = none := by
 cases h : G.g b with
 | none => rfl
 | some o => exact absurd ⟨o, (x.imm b o h).1⟩ hb
theorem HR.noOwn {W G H s} (x : HR W G H s) {b : Addr} (hb : ¬ k9 s.heap b) : G.own b = none := by
 cases h : G.own b with
 | none => rfl
 | some o => exact absurd (x.bown b o h).2 hb
theorem HR.noB {W G H s} (x : HR W G H s) {b : Addr} (hb : ¬ k9 s.heap b) : W.B0.get? b = none := by
 cases h : W.B0.get? b with
 | none => rfl
 | some o => exact absurd ⟨o, x.base b o h⟩ hb
theorem ju {h : Heap} (o : Obj) : ∀ b x, h.get? b = some x → (h.push o).get? b = some x := fun _ _ e => be o e
theorem qg {h : Heap} {o : Obj} {b : Addr} (x : k9 h b) : k9 (h.push o) b := let ⟨y, e⟩ := x; ⟨y, ju _ _ _ e⟩
theorem HR.addG {W G H} {s : Shared} {h' : Heap} {a : Addr} {o : Obj} {tk : Nat} (x : HR W G H s) (hn : ¬ k9 s.heap a) (hk : ∀ b o, s.heap.get? b = some o → h'.get? b = some o) (ha : h'.get? a = some o) :
  HR W (G.addG a o) H { s with heap := h', toks := tk } ∧ ky [] G s (G.addG a o) { s with heap := h', toks := tk } := by
 have hng := x.noG hn
 have hle : ∀ b ob, G.g b = some ob → (G.addG a o).g b = some ob := fun b ob e => by
  show (if b = _ then _ else _) = _
  rw [if_neg (fun q => by rw [q, hng] at e; cases e)]; exact e
 refine ⟨⟨fun b ob e => hle _ _ (x.bas b ob e), fun b i e => ⟨(x.bown b i e).1, let ⟨y, q⟩ := (x.bown b i e).2; ⟨y, hk _ _ q⟩⟩, fun b ob e => ?_, x.nodup, fun c ob hm => (x.slot c ob hm).mono hle (fun b ob _ e => hk _ _ e) (fun _ e => e), x.os, x.gens⟩, ⟨hle, fun _ _ => .inl rfl, fun b hb _ => ?_, fun b ob e _ _ => hk _ _ e, fun b ⟨y, q⟩ => ⟨y, hk _ _ q⟩⟩⟩
 ·have e' : (if b = a then some o else G.g b) = some ob := e
  by_cases hb : b = a
  ·rw [if_pos hb] at e'; cases e'; subst hb
   exact ⟨ha, x.noOwn hn⟩
  ·rw [if_neg hb] at e'
   exact ⟨hk _ _ (x.imm b ob e').1, (x.imm b ob e').2⟩
 ·show (if b = _ then _ else _) = _
  rw [if_neg (fun q => hn (by rw [← q]; exact hb))]
theorem HR.allocG {W G H} {s : Shared} (x : HR W G H s) (o : Obj) (hf : o.isFreed = false) {tk : Nat} : HR W (G.addG s.heap.objs.size o) H { s with heap := s.heap.push o, toks := tk } ∧ ky [] G s (G.addG s.heap.objs.size o) { s with heap := s.heap.push o, toks := tk } :=
 x.addG (ke (aU _)) (ju o) (aV _ hf)
theorem HR.allocO {W G H} {s : Shared} (x : HR W G H s) (o : Obj) (ho : HO) {tk : Nat} (hsl : kF W (G.addO s.heap.objs.size s.heap.objs.size) (s.heap.push o) s.heap.objs.size ho) :
  HR W (G.addO s.heap.objs.size s.heap.objs.size) ((s.heap.objs.size, ho) :: H) { s with heap := s.heap.push o, toks := tk } ∧ ky [] G s (G.addO s.heap.objs.size s.heap.objs.size) { s with heap := s.heap.push o, toks := tk } := by
 have hnh : ¬ k9 s.heap s.heap.objs.size := ke (aU _)
 have hn := x.noG hnh
 have hno : ∀ a o', (a, o') ∈ H → ∀ b, G.own b = some a → b ≠ s.heap.objs.size := fun a o' hm b e q => hnh (q ▸ (x.bown b a e).2)
 refine ⟨⟨x.bas, fun b i e => ?_, fun b ob e => ⟨ju _ _ _ (x.imm b ob e).1, ?_⟩, ?_, fun a ob hm => ?_, x.os, x.gens⟩, ⟨fun _ _ e => e, fun b hb => .inl ?_, fun _ _ _ => rfl, fun b ob e _ _ => ju _ _ _ e, fun b hb => qg hb⟩⟩
 ·have e' : (if b = s.heap.objs.size then some s.heap.objs.size else G.own b) = some i := e
  by_cases hb : b = s.heap.objs.size
  ·rw [hb]; exact ⟨x.noB hnh, hsl.has⟩
  ·rw [if_neg hb] at e'; exact ⟨(x.bown b i e').1, qg (x.bown b i e').2⟩
 ·have e' : G.g b = some ob := e
  show (if b = _ then _ else _) = _
  rw [if_neg (fun q => by rw [q, hn] at e'; cases e')]; exact (x.imm b ob e').2
 ·rw [aC, aY]
  refine ⟨fun hm => ?_, x.nodup⟩
  obtain ⟨⟨a, o'⟩, hp, hq⟩ := az.mp hm
  have hq' : a = s.heap.objs.size := hq
  exact hnh (hq' ▸ (x.slot a o' hp).has)
 ·rcases au.mp hm with e | hm
  ·cases e; exact hsl
  ·exact (x.slot a ob hm).mono (fun _ _ e => e) (fun b ob _ e => ju _ _ _ e) fun b e => by
    show (if b = _ then _ else _) = _
    rw [if_neg (hno a ob hm b e)]; exact e
 ·show (if b = _ then _ else _) = _
  rw [if_neg (fun q => hnh (by rw [← q]; exact hb))]
noncomputable def jA (b : Bool) (P P' : Prop) : Prop := (b = true → P) ∧ (b = false → P')
theorem jA.tt {P P' : Prop} (h : P) : jA true P P' := ⟨fun _ => h, fun e => by cases e⟩
theorem jA.ff {P P' : Prop} (h : P') : jA false P P' := ⟨fun e => by (cases e), fun _ => h⟩
theorem jA.dec {c : Prop} [Decidable c] {P P' : Prop} (h : c → P) (h' : ¬ c → P') : jA (decide c) P P' := ⟨fun e => h (of_decide_eq_true e), fun e => h' (of_decide_eq_false e)⟩
theorem jA.by {b : Bool} {P P' : Prop} (h : b = true → P) (h' : b = false → P') : jA b P P' := ⟨h, h'⟩
inductive Bd where
 | loc (c : Bool) (v : Option PV) | fre (v : PV) | glb
noncomputable abbrev jr := List (Str × Bd)
noncomputable abbrev CR := jr → HH → Prop
inductive FD (W : Wd) (G : Gh) (o : Option Value) (v : PV) : Prop
 | mk (cv : Value) (e : o = some cv) (r : RV W G v cv)
inductive NsP (W : Wd) (env : Env) (r : jr) (G : Gh) (h : Heap) : Prop
 | mk (m : Str → Option Value) (ns : h.Ns env.locals m) (v : ∀ x c v, (x, Bd.loc c (some v)) ∈ r → env.kindOf x = some .local → FD W G (m x) v)
inductive Hh (W : Wd) (env : Env) (fa : List Addr) (G : Gh) (h : Heap) (x : Str) (b : Bool) (ov : Option PV) : Prop
 | mk (hb : b = true) (hk : env.kindOf x = some .cell) (c : Addr) (u : Option Value) (h1 : env.cells.lookup x = some c) (h2 : h.IsCell c u) (h6 : c ∈ fa) (h7 : ∀ v, ov = some v → FD W G u v)
inductive Hi (W : Wd) (env : Env) (fa : List Addr) (G : Gh) (h : Heap) (x : Str) (v : PV) : Prop
 | mk (hk : env.kindOf x = some .cell) (c : Addr) (cv : Value) (h1 : env.cells.lookup x = some c) (h2 : h.IsCell c (some cv)) (h3 : G.own c = none) (h4 : G.g c = none) (h5 : W.B0.get? c = none) (h6 : c ∉ fa) (h7 : RV W G v cv)
structure FR (W : Wd) (env : Env) (fa : List Addr) (r : jr) (G : Gh) (h : Heap) : Prop where
 kind : env.scope.kind = .function
 glo : env.globals = mainGlobals
 blt : env.builtins = builtinsNs
 nodup : (r.map (·.1)).Nodup
 ns : NsP W env r G h
 glb : ∀ x, (x, Bd.glb) ∈ r → env.kindOf x = some .globalImplicit
 loc : ∀ x b ov, (x, Bd.loc b ov) ∈ r → (b = false ∧ env.kindOf x = some .local) ∨ Hh W env fa G h x b ov
 fre : ∀ x v, (x, Bd.fre v) ∈ r → Hi W env fa G h x v
 locf : env.locals ∈ fa
 ownf : ∀ a ∈ fa, G.own a = none ∧ G.g a = none ∧ W.B0.get? a = none ∧ k9 h a
 apart : ∀ x y c, env.cells.lookup x = some c → env.cells.lookup y = some c → x = y
theorem FR.ext {W env fa r G G'} {s s' : Shared} (x : FR W env fa r G s.heap) (e : ky [] G s G' s') : FR W env fa r G' s'.heap where
 kind := x.kind
 glo := x.glo
 blt := x.blt
 nodup := x.nodup
 ns := by
  obtain ⟨m, hn, hm⟩ := x.ns
  obtain ⟨h1, h2, h3, h4⟩ := x.ownf _ x.locf
  obtain ⟨o, es, ep, ho, rr⟩ := hn
  refine ⟨m, ⟨o, es, ep, e.keep _ _ ho h1 bw, rr⟩, fun y c v hy hk => ?_⟩
  obtain ⟨cv, a, b⟩ := hm y c v hy hk
  exact ⟨cv, a, e.rv b⟩
 glb := x.glb
 loc := fun y bb ov hy => by
  rcases x.loc y bb ov hy with h | ⟨hb, hk, c, u, h1, h2, h6, h7⟩
  ·exact .inl h
  ·obtain ⟨o, ho, hd⟩ := h2
   obtain ⟨h3, _, _, _⟩ := x.ownf c h6
   refine .inr ⟨hb, hk, c, u, h1, ⟨o, e.keep _ _ ho h3 bw, hd⟩, h6, fun v hv => ?_⟩
   obtain ⟨cv, a, b⟩ := h7 v hv
   exact ⟨cv, a, e.rv b⟩
 fre := fun y v hy => by
  obtain ⟨hk, c, cv, h1, h2, h3, h4, h5, h6, h7⟩ := x.fre y v hy
  obtain ⟨o, ho, hd⟩ := h2
  have hlt : k9 s.heap c := ⟨o, ho⟩
  refine ⟨hk, c, cv, h1, ⟨o, e.keep _ _ ho h3 bw, hd⟩, ?_, by rw [e.gnew c hlt h3, h4], h5, h6, e.rv h7⟩
  rcases e.own c hlt with q | q
  ·rw [q, h3]
  ·exact q
 locf := x.locf
 ownf := fun a ha => by
  obtain ⟨h1, h2, h3, h4⟩ := x.ownf a ha
  refine ⟨?_, ?_, h3, e.there a h4⟩
  ·rcases e.own a h4 with q | q
   ·rw [q, h1]
   ·exact q
  ·rw [e.gnew a h4 h1, h2]
 apart := x.apart
structure lb (A : Around) (n : Nat) : Prop where
 hd : A.handled = none
 depth : A.depth + 2 * n < 900
 units : A.units + 10 * n + 200 < 9900
theorem lb.dlt {A n} (x : lb A n) : A.depth < recursionLimit := by have := x.depth; show _ < 1000; exact J10 19 this
theorem lb.ult {A n} (x : lb A n) : A.units < cLine := by have := x.units; show _ < 9900; exact J10 20 this
theorem lb.ult64 {A n} (x : lb A n) : A.units + 64 < cLine := by have := x.units; show _ < 9900; exact J10 21 this
noncomputable abbrev mL : Value → Shared → Prop := fun _ _ => False
inductive Fin (W : Wd) (Q : CV) (G : Gh) (s : Shared) (v : Value) (s' : Shared) : Prop
 | mk (G' : Gh) (p : PV) (H' : HH) (e : ky [] G s G' s') (hr : HR W G' H' s') (hv : RV W G' p v) (q : Q p H')
theorem Fin.trans {W Q G s G1 s1 v s'} (e : ky [] G s G1 s1) (x : Fin W Q G1 s1 v s') : Fin W Q G s v s' := by
 obtain ⟨G', p, H', e', r, v, q⟩ := x; exact ⟨G', p, H', e.trans e', r, v, q⟩
noncomputable def Ev (W : Wd) (n : Nat) (r : jr) (H : HH) (e : Expr) (Q : CV) : Prop :=
 ∀ A env fa G s, lb A n → HR W G H s → FR W env fa r G s.heap → wpAny (model W.prog W.w) A (eval e env) (Fin W Q G s) mL s
inductive uw (W : Wd) (Q : CB) (G : Gh) (s : Shared) (b : Bool) (s' : Shared) : Prop
 | mk (G' : Gh) (H' : HH) (e : ky [] G s G' s') (hr : HR W G' H' s') (q : Q b H')
theorem uw.trans {W Q G s G1 s1 v s'} (e : ky [] G s G1 s1) (x : uw W Q G1 s1 v s') : uw W Q G s v s' := by
 obtain ⟨G', H', e', r, q⟩ := x; exact ⟨G', H', e.trans e', r, q⟩
noncomputable def Tv (W : Wd) (n : Nat) (r : jr) (H : HH) (e : Expr) (Q : CB) : Prop :=
 ∀ A env fa G s, lb A n → HR W G H s → FR W env fa r G s.heap → wpAny (model W.prog W.w) A (isTrue e env (eval e env)) (uw W Q G s) mL s
noncomputable def FE (W : Wd) (n : Nat) (H : HH) (f : Value → Sem Value) (p : PV) (Q : CV) : Prop :=
 ∀ A G s v, lb A n → HR W G H s → RV W G p v → wpAny (model W.prog W.w) A (f v) (Fin W Q G s) mL s
noncomputable def lA (W : Wd) (n : Nat) (H : HH) (f : Value → Value → Sem Value) (p q : PV) (Q : CV) : Prop :=
 ∀ A G s u v, lb A n → HR W G H s → RV W G p u → RV W G q v → wpAny (model W.prog W.w) A (f u v) (Fin W Q G s) mL s
noncomputable def mM (W : Wd) (n : Nat) (H : HH) (f : List Value → Sem Value) (ps : List PV) (Q : CV) : Prop :=
 ∀ A G s vs, lb A n → HR W G H s → jY W G ps vs → wpAny (model W.prog W.w) A (f vs) (Fin W Q G s) mL s
noncomputable def Ah (W : Wd) (n : Nat) (H : HH) (p : PV) (Q : CB) : Prop :=
 ∀ A G s v, lb A n → HR W G H s → RV W G p v → wpAny (model W.prog W.w) A (truthy v) (uw W Q G s) mL s
section
variable {W : Wd} {n : Nat} {r : jr} {H : HH} {Q : CV}
theorem Ev.mono {e} {Q' : CV} (h : Ev W n r H e Q) (hq : ∀ p H', Q p H' → Q' p H') : Ev W n r H e Q' := fun A env fa G s R x f =>
 ay (h A env fa G s R x f) (fun v s' ⟨G', p, H', e, h1, h2, h3⟩ => ⟨G', p, H', e, h1, h2, hq _ _ h3⟩) fun _ _ x => x
theorem so {G s v} {p : PV} (x : HR W G H s) (hv : RV W G p v) (hq : Q p H) : Fin W Q G s v s := ⟨G, p, H, ky.refl, x, hv, hq⟩
theorem n8 {G} {s : Shared} {v} {p : PV} {tk} (x : HR W G H s) (hv : RV W G p v) (hq : Q p H) : Fin W Q G s v { s with toks := tk } :=
 ⟨G, p, H, ky.kept (fun _ _ e => e), x.kept (fun _ _ e => e), hv, hq⟩
theorem FF {G} {s : Shared} {v} {p : PV} {tk} {h' : Heap} (x : HR W G H s) (hk : ∀ b o, s.heap.get? b = some o → h'.get? b = some o) (hv : RV W G p v) (hq : Q p H) : Fin W Q G s v { s with heap := h', toks := tk } :=
 ⟨G, p, H, ky.kept hk, x.kept hk, hv, hq⟩
theorem Au {i k pos} (h : Q (.int i) H) : Ev W n r H (.Constant (.int i) k pos) Q := fun _ _ _ _ _ _ x _ => wpAny_Constant_int (n8 x (by wtm_at "rv") h)
theorem xx {k pos} (h : Q .none H) : Ev W n r H (.Constant .none k pos) Q := fun _ _ _ _ _ _ x _ => aB (so x (by wtm_at "rv") h)
theorem xy {b k pos} (h : Q (.bool b) H) : Ev W n r H (.Constant (.bool b) k pos) Q := fun _ _ _ _ _ _ x _ => aB (so x (by wtm_at "rv") h)
theorem Av {b k pos} (h : Q (.str b) H) : Ev W n r H (.Constant (.str b) k pos) Q := fun _ _ _ _ _ _ x _ => by
 show wpAny _ _ (mkText b) _ _ _
 exact wpAny_mkText (n8 x (by wtm_at "rv") h)
theorem vm {A env fa G s x c v} {Q : Value → Shared → Prop} (f : FR W env fa r G s.heap) (hm : (x, Bd.loc c (some v)) ∈ r) (h : ∀ cv, RV W G v cv → Q cv s) :
  wpAny (model W.prog W.w) A (loadName env x) Q mL s := by
 rcases f.loc x _ _ hm with ⟨_, hl⟩ | ⟨_, hk, c, u, h1, h2, _, h7⟩
 ·obtain ⟨m, hns, hv⟩ := f.ns
  obtain ⟨cv, e, hr⟩ := hv x _ v hm hl
  exact wpAny_loadName_local f.kind hl hns e (h cv hr)
 ·obtain ⟨cv, e, hr⟩ := h7 v rfl
  subst e
  exact gQ f.kind hk h1 h2 (h cv hr)
theorem Aw {x pos c} {v : PV} (hm : (x, Bd.loc c (some v)) ∈ r) (h : Q v H) (hd : autoParam ((x == ("__debug__" : Str)) = false) aD) : Ev W n r H (.Name x pos) Q := fun _ _ _ _ _ _ hr f =>
 wpAny_Name (vm f hm (fun _ hv => so hr hv h)) hd
theorem Ax {x pos} {v : PV} (hm : (x, Bd.fre v) ∈ r) (h : Q v H) (hd : autoParam ((x == ("__debug__" : Str)) = false) aD) (hn : autoParam ((x == ("__classdict__" : Str)) = false) aD) : Ev W n r H (.Name x pos) Q := fun _ _ _ _ _ _ hr f => by
 obtain ⟨hk, c, cv, h1, h2, _, _, _, _, h7⟩ := f.fre x v hm
 exact wpAny_Name (gQ f.kind hk h1 h2 (so hr h7 h)) hd
theorem pn {A env fa G s x v} {Q : Value → Shared → Prop} (hr : HR W G H s) (f : FR W env fa r G s.heap) (hm : (x, Bd.glb) ∈ r) (hv : W.mg x = some v) (h : Q v s) (pos : Pos)
  (hd : autoParam ((x == ("__debug__" : Str)) = false) aD) : wpAny (model W.prog W.w) A (eval (.Name x pos) env) Q mL s :=
 gC f.kind (f.glb x hm) (loadGlobal_global (env := env) (by rw [f.glo]; exact W.hg.keeps hr.base) hv h) hd
theorem pR {A env fa G s x v} {Q : Value → Shared → Prop} (hr : HR W G H s) (f : FR W env fa r G s.heap) (hm : (x, Bd.glb) ∈ r) (hv : W.mg x = none) (hb : bootBuiltins x = some v) (h : Q v s) (pos : Pos) (hne : x ≠ "__name__")
  (hd : autoParam ((x == ("__debug__" : Str)) = false) aD) : wpAny (model W.prog W.w) A (eval (.Name x pos) env) Q mL s :=
 gC f.kind (f.glb x hm) (loadGlobal_builtin (env := env) (by rw [f.glo]; exact W.hg.keeps hr.base) hv (by rw [f.blt]; exact W.hb.keeps hr.base) ((W.bb x hne).trans hb) h) hd
theorem xz {x pos} {v : PV} (hm : (x, Bd.glb) ∈ r) (hv : ∃ cv, W.mg x = some cv ∧ ∀ G s, HR W G H s → RV W G v cv) (h : Q v H) (hd : autoParam ((x == ("__debug__" : Str)) = false) aD) : Ev W n r H (.Name x pos) Q := fun _ _ _ G s _ hr f => by
 obtain ⟨cv, h1, h2⟩ := hv
 exact pn hr f hm h1 (so hr (h2 G s hr) h) pos hd
noncomputable abbrev kO2 (W : Wd) (n : Nat) (f : Value → Value → Sem Value) (a : PV) (Q : CV) : CV := fun b H => lA W n H f a b Q
noncomputable abbrev Hj (W : Wd) (n : Nat) (r : jr) (e : Expr) (f : Value → Value → Sem Value) (Q : CV) : CV := fun a H => Ev W n r H e (kO2 W n f a Q)
noncomputable abbrev Hl (W : Wd) (n : Nat) (Q : CB) : CV := fun c H => Ah W n H c Q
noncomputable abbrev FG (W : Wd) (n : Nat) (r : jr) (rest : List Expr) (pos : Pos) (Q : CB) : CB := fun b H => jA b (Tv W n r H (.BoolOp .And rest pos) Q) (Q false H)
noncomputable abbrev Hm (W : Wd) (n : Nat) (r : jr) (rest : List Expr) (pos : Pos) (Q : CB) : CB := fun b H => jA b (Q true H) (Tv W n r H (.BoolOp .Or rest pos) Q)
noncomputable abbrev FH (Q : CB) : CB := fun b H => Q (!b) H
noncomputable abbrev Hn (W : Wd) (n : Nat) (r : jr) (a b : Expr) (Q : CV) : CB := fun c H => jA c (Ev W n r H a Q) (Ev W n r H b Q)
noncomputable abbrev kO1 (W : Wd) (n : Nat) (f : Value → Sem Value) (Q : CV) : CV := fun a H => FE W n H f a Q
theorem kN {l op e pos} (h : Ev W n r H l (Hj W n r e (binaryOp op) Q)) : Ev W n r H (.BinOp l op e pos) Q := fun A env fa G s R hr f => by
 refine wpAny_BinOp (ay (h A env fa G s R hr f) (fun va s1 h1 => ?_) fun _ _ x => x)
 obtain ⟨G1, a, H1, e1, r1, v1, q1⟩ := h1
 refine ay (q1 A env fa G1 s1 R r1 (f.ext e1)) (fun vb s2 h2 => ?_) fun _ _ x => x
 obtain ⟨G2, b, H2, e2, r2, v2, q2⟩ := h2
 exact ay (q2 A G2 s2 va vb R r2 (e2.rv v1) v2) (fun v s3 h3 => (h3.trans e2).trans e1) fun _ _ x => x
theorem m5 {l op e pos} (h : Ev W n r H l (Hj W n r e (compareOp op) Q)) (hm : autoParam (behindInMarks op e = false) aR) : Ev W n r H (.Compare l [op] [e] pos) Q := fun A env fa G s R hr f => by
 refine wpAny_Compare1 (ay (h A env fa G s R hr f) (fun va s1 h1 => ?_) fun _ _ x => x) hm
 obtain ⟨G1, a, H1, e1, r1, v1, q1⟩ := h1
 refine ay (q1 A env fa G1 s1 R r1 (f.ext e1)) (fun vb s2 h2 => ?_) fun _ _ x => x
 obtain ⟨G2, b, H2, e2, r2, v2, q2⟩ := h2
 exact ay (q2 A G2 s2 va vb R r2 (e2.rv v1) v2) (fun v s3 h3 => (h3.trans e2).trans e1) fun _ _ x => x
theorem jS {l op e pos} {Q : CB} (h : Ev W n r H l (Hj W n r e (compareOp op) (Hl W n Q))) (hm : autoParam (behindInMarks op e = false) aR) : Tv W n r H (.Compare l [op] [e] pos) Q := fun A env fa G s R hr f => by
 refine wpAny_isTrue_Compare1 (ay (h A env fa G s R hr f) (fun va s1 h1 => ?_) fun _ _ x => x) hm
 obtain ⟨G1, a, H1, e1, r1, v1, q1⟩ := h1
 refine ay (q1 A env fa G1 s1 R r1 (f.ext e1)) (fun vb s2 h2 => ?_) fun _ _ x => x
 obtain ⟨G2, b, H2, e2, r2, v2, q2⟩ := h2
 refine ay (q2 A G2 s2 va vb R r2 (e2.rv v1) v2) (fun v s3 h3 => ?_) fun _ _ x => x
 obtain ⟨G3, c, H3, e3, r3, v3, q3⟩ := h3
 exact ay (q3 A G3 s3 v R r3 v3) (fun v s4 h4 => ((h4.trans e3).trans e2).trans e1) fun _ _ x => x
theorem vn {b} {Q : CB} (h : Q b H) : Ah W n H (.bool b) Q := fun A G s v R hr hv => by
 have : v = .bool b := by exact hv
 subst this
 exact cP ⟨G, H, ky.refl, hr, h⟩
theorem DQ {e} {Q : CB} (he : ∀ env whole, isTrue e env whole = (do let v ← whole; standAt e.pos; holding [v] (truthy v))) (h : Ev W n r H e fun a H1 => Ah W n H1 a Q) : Tv W n r H e Q := fun A env fa G s R hr f => by
 rw [he]
 refine aj (ay (h A env fa G s R hr f) (fun va s1 h1 => ?_) fun _ _ x => x)
 obtain ⟨G1, a, H1, e1, r1, v1, q1⟩ := h1
 exact aj (cH (bv (ay (q1 A G1 s1 va R r1 v1) (fun v s4 h4 => h4.trans e1) fun _ _ x => x)))
theorem n9 {f a k pos} {Q : CB} (h : Ev W n r H (.Call f a k pos) (Hl W n Q)) : Tv W n r H (.Call f a k pos) Q := DQ (fun _ _ => rfl) h
theorem xA {x pos} {Q : CB} (h : Ev W n r H (.Name x pos) (Hl W n Q)) : Tv W n r H (.Name x pos) Q := DQ (fun _ _ => rfl) h
theorem oQ {e pos} {Q : CB} (h : Tv W n r H e (FH Q)) : Tv W n r H (.UnaryOp .Not e pos) Q := fun A env fa G s R hr f => by
 show wpAny _ _ (do return !(← isTrue e env (eval e env))) _ _ _
 exact aj (ay (h A env fa G s R hr f) (fun b s1 h1 => aB (by obtain ⟨G1, H1, e1, r1, q⟩ := h1; exact ⟨G1, H1, e1, r1, q⟩)) fun _ _ x => x)
theorem nH {x rest pos} {Q : CB} (h : Tv W n r H x (FG W n r rest pos Q)) : Tv W n r H (.BoolOp .And (x :: rest) pos) Q := fun A env fa G s R hr f => by
 show wpAny _ _ (allTrue .And (x :: rest) env) _ _ _
 refine aj (ay (h A env fa G s R hr f) (fun b s1 h1 => ?_) fun _ _ x => x)
 obtain ⟨G1, H1, e1, r1, q1⟩ := h1
 cases b with
 | false => exact aB ⟨G1, H1, e1, r1, q1.2 rfl⟩
 | true => exact ay (q1.1 rfl A env fa G1 s1 R r1 (f.ext e1)) (fun v s4 h4 => h4.trans e1) fun _ _ x => x
theorem ux {pos} {Q : CB} (h : Q true H) : Tv W n r H (.BoolOp .And [] pos) Q := fun A env fa G s R hr f => by
 show wpAny _ _ (allTrue .And [] env) _ _ _
 exact aB ⟨G, H, ky.refl, hr, h⟩
theorem rp {x rest pos} {Q : CB} (h : Tv W n r H x (Hm W n r rest pos Q)) : Tv W n r H (.BoolOp .Or (x :: rest) pos) Q := fun A env fa G s R hr f => by
 show wpAny _ _ (allTrue .Or (x :: rest) env) _ _ _
 refine aj (ay (h A env fa G s R hr f) (fun b s1 h1 => ?_) fun _ _ x => x)
 obtain ⟨G1, H1, e1, r1, q1⟩ := h1
 cases b with
 | true => exact aB ⟨G1, H1, e1, r1, q1.1 rfl⟩
 | false => exact ay (q1.2 rfl A env fa G1 s1 R r1 (f.ext e1)) (fun v s4 h4 => h4.trans e1) fun _ _ x => x
theorem Ay {pos} {Q : CB} (h : Q false H) : Tv W n r H (.BoolOp .Or [] pos) Q := fun A env fa G s R hr f => by
 show wpAny _ _ (allTrue .Or [] env) _ _ _
 exact aB ⟨G, H, ky.refl, hr, h⟩
theorem qh {t a b pos} (h : Tv W n r H t (Hn W n r a b Q)) : Ev W n r H (.IfExp t a b pos) Q := fun A env fa G s R hr f => by
 show wpAny _ _ (do if ← isTrue t env (eval t env) then eval a env else eval b env) _ _ _
 refine aj (ay (h A env fa G s R hr f) (fun c s1 h1 => ?_) fun _ _ x => x)
 obtain ⟨G1, H1, e1, r1, q1⟩ := h1
 cases c with
 | true => exact ay (q1.1 rfl A env fa G1 s1 R r1 (f.ext e1)) (fun v s4 h4 => h4.trans e1) fun _ _ x => x
 | false => exact ay (q1.2 rfl A env fa G1 s1 R r1 (f.ext e1)) (fun v s4 h4 => h4.trans e1) fun _ _ x => x
theorem vq {op e pos} (h : Ev W n r H e (kO1 W n (unaryOp op) Q)) : Ev W n r H (.UnaryOp op e pos) Q := fun A env fa G s R hr f => by
 show wpAny _ _ (do let v ← eval e env; standAt pos; holding [v] (unaryOp op v)) _ _ _
 refine aj (ay (h A env fa G s R hr f) (fun va s1 h1 => ?_) fun _ _ x => x)
 obtain ⟨G1, a, H1, e1, r1, v1, q1⟩ := h1
 exact aj (cH (bv (ay (q1 A G1 s1 va R r1 v1) (fun v s4 h4 => h4.trans e1) fun _ _ x => x)))
end
inductive Fl where
 | next | brk | cont | ret (p : PV)
noncomputable def FlV (W : Wd) (G : Gh) : Fl → Flow → Prop
 | .next, f => f = .next
 | .brk, f => f = .brk
 | .cont, f => f = .cont
 | .ret p, f => ∃ v, f = .ret v ∧ RV W G p v
noncomputable abbrev jH := Fl → CR
inductive yG (W : Wd) (env : Env) (fa : List Addr) (Q : jH) (G : Gh) (s : Shared) (f : Flow) (s' : Shared) : Prop
 | mk (G' : Gh) (fl : Fl) (r' : jr) (H' : HH) (e : ky fa G s G' s') (hr : HR W G' H' s') (fr : FR W env fa r' G' s'.heap) (fv : FlV W G' fl f) (q : Q fl r' H')
theorem yG.trans {W env fa Q G s G1 s1 v s'} (e : ky fa G s G1 s1) (x : yG W env fa Q G1 s1 v s') : yG W env fa Q G s v s' := by
 obtain ⟨G', fl, r', H', e', a, b, c, q⟩ := x; exact ⟨G', fl, r', H', e.trans e', a, b, c, q⟩
noncomputable def Ex (W : Wd) (n : Nat) (r : jr) (H : HH) (c : Stmt) (Q : jH) : Prop :=
 ∀ A env fa G s, lb A n → HR W G H s → FR W env fa r G s.heap → wpAny (model W.prog W.w) A (exec c env) (yG W env fa Q G s) mL s
noncomputable def lj (W : Wd) (n : Nat) (r : jr) (H : HH) (c : List Stmt) (Q : jH) : Prop :=
 ∀ A env fa G s, lb A n → HR W G H s → FR W env fa r G s.heap → wpAny (model W.prog W.w) A (execs c env) (yG W env fa Q G s) mL s
theorem mr {a : Addr} {h h' : Heap} (hs : dW a h h') (ha : k9 h' a) {b : Addr} (hb : k9 h b) : k9 h' b := by
 by_cases e : b = a
 ·exact e ▸ ha
 ·obtain ⟨o, ho⟩ := hb; exact ⟨o, (hs.2 b e).trans ho⟩
theorem HR.frame {W G H} {s : Shared} (x : HR W G H s) {a : Addr} {h' : Heap} {tk : Nat} (h1 : G.own a = none) (h2 : G.g a = none) (h3 : W.B0.get? a = none) (hs : dW a s.heap h') (ha : k9 h' a) :
  HR W G H { s with heap := h', toks := tk } where
 bas := x.bas
 bown := fun b i e => ⟨(x.bown b i e).1, mr hs ha (x.bown b i e).2⟩
 imm := fun b o e => ⟨(hs.2 b (fun q => by rw [q, h2] at e; cases e)).trans (x.imm b o e).1, (x.imm b o e).2⟩
 nodup := x.nodup
 slot := fun b o hm => (x.slot b o hm).mono (fun _ _ e => e) (fun c ob ho e => (hs.2 c (fun q => by rw [q, h1] at ho; cases ho)).trans e) fun _ e => e
 os := x.os
 gens := x.gens
theorem ky.frame {fa G} {s : Shared} {a : Addr} {h' : Heap} {tk : Nat} (ha : a ∈ fa) (hs : dW a s.heap h') (hh : k9 h' a) : ky fa G s G { s with heap := h', toks := tk } :=
 ⟨fun _ _ e => e, fun _ _ => .inl rfl, fun _ _ _ => rfl, fun b o e _ hf => (hs.2 b fun q => hf (q ▸ ha)).trans e, fun b hb => mr hs hh hb⟩
inductive lk (x : Str) (v : PV) : jr → jr → Prop
 | head {c o r} : lk x v ((x, .loc c o) :: r) ((x, .loc c (some v)) :: r)
 | tail {p r r'} : lk x v r r' → lk x v (p :: r) (p :: r')
theorem lk.keys {x v r r'} (h : lk x v r r') : r'.map (·.1) = r.map (·.1) := by
 induction h with
 | head => rfl
 | tail _ ih => simp only [aC, ih]
theorem lk.there {x v r r'} (h : lk x v r r') : ∃ c o, (x, Bd.loc c o) ∈ r ∧ (x, Bd.loc c (some v)) ∈ r' := by
 induction h with
 | head => exact ⟨_, _, .head _, .head _⟩
 | tail _ ih => obtain ⟨c, o, h, h'⟩ := ih; exact ⟨c, o, .tail _ h, .tail _ h'⟩
inductive Cx (x : Str) (v : PV) (r : jr) (y : Str) (b : Bd) : Prop
 | hit (e : y = x) (c : Bool) (o : Option PV) (e' : b = .loc c (some v)) (ez : (x, Bd.loc c o) ∈ r)
 | miss (e : y ≠ x) (h : (y, b) ∈ r)
theorem Cx.tl {x v r y b p} (h : Cx x v r y b) : Cx x v (p :: r) y b := by
 cases h with
 | hit e c o e' ez => exact .hit e c o e' (.tail _ ez)
 | miss e h => exact .miss e (.tail _ h)
theorem lk.mem {x v r r'} (h : lk x v r r') (hn : (r.map (·.1)).Nodup) {y b} (hm : (y, b) ∈ r') : Cx x v r y b := by
 induction h with
 | head =>
  rw [aC, aY] at hn
  cases hm with
  | head => exact .hit rfl _ _ rfl (.head _)
  | tail _ hm => exact .miss (fun q => hn.1 (q ▸ aO (f := (·.1)) hm)) (.tail _ hm)
 | @tail p r0 r0' h0 ih =>
  rw [aC, aY] at hn
  cases hm with
  | head =>
   refine .miss (fun q => hn.1 ?_) (.head _)
   obtain ⟨_, o, ho, _⟩ := h0.there
   exact q ▸ aO (f := (·.1)) ho
  | tail _ hm => exact (ih hn.2 hm).tl
section
variable {W : Wd} {n : Nat} {r r' : jr} {H : HH} {Q : jH}
theorem sq {h : Heap} {a m} (x : h.Ns a m) : k9 h a := let ⟨o, _, _, e, _⟩ := x; ⟨o, e⟩
theorem nT {h : Heap} {a m} (x : h.IsCell a m) : k9 h a := let ⟨o, e, _⟩ := x; ⟨o, e⟩
theorem mt {E : Value → Shared → Prop} {A env fa G} {s : Shared} {x : Str} {v : PV} {cv : Value} {P : Unit → Shared → Prop} (hr : HR W G H s) (f : FR W env fa r G s.heap) (U : lk x v r r') (hv : RV W G v cv)
  (h : ∀ s', ky fa G s G s' → HR W G H s' → FR W env fa r' G s'.heap → P () s') : wpAny (model W.prog W.w) A (storeName env x cv) P E s := by
 obtain ⟨bx, o, ho, _⟩ := U.there
 have hnd : (r'.map (·.1)).Nodup := by rw [U.keys]; exact f.nodup
 rcases f.loc x bx o ho with ⟨hbl, hl⟩ | ⟨hbc, hk, c, u, h1, h2, h6, h7⟩
 ·obtain ⟨m, hns, hm⟩ := f.ns
  obtain ⟨a1, a2, a3, a4⟩ := f.ownf _ f.locf
  refine wpAny_storeName_local hl hns (fun h' hn hs => h _ (ky.frame f.locf hs (sq hn)) (hr.frame a1 a2 a3 hs (sq hn)) ?_) (by rw [f.kind]; rfl)
  refine { kind := f.kind, glo := f.glo, blt := f.blt, nodup := hnd, ns := ⟨_, hn, fun y yb w hy hk => ?_⟩, glb := fun y hy => ?_, loc := fun y yb ov hy => ?_, fre := fun y w hy => ?_, locf := f.locf, ownf := fun a ha => ?_, apart := f.apart }
  ·rcases U.mem f.nodup hy with ⟨e, zc, zo, e', ez⟩ | ⟨e, hy⟩
   ·cases e'; exact ⟨cv, if_pos e, hv⟩
   ·obtain ⟨w', q1, q2⟩ := hm y yb w hy hk
    exact ⟨w', (if_neg e).trans q1, q2⟩
  ·rcases U.mem f.nodup hy with ⟨e, zc, zo, e', ez⟩ | ⟨e, hy⟩
   ·cases e'
   ·exact f.glb y hy
  ·rcases U.mem f.nodup hy with ⟨e, zc, zo, e', ez⟩ | ⟨e, hy⟩
   ·cases e'; subst e; exact (f.loc _ _ _ ez).elim (fun h => .inl h) (fun h => by obtain ⟨_, hk, _⟩ := h; rw [hl] at hk; cases hk)
   ·rcases f.loc y yb ov hy with h | ⟨hb, hk, c, u, h1, ⟨oc, hc, hd⟩, h6, h7⟩
    ·exact .inl h
    ·refine .inr ⟨hb, hk, c, u, h1, ⟨oc, (hs.2 c (fun q => ?_)).trans hc, hd⟩, h6, h7⟩
     obtain ⟨oL, es, ep, hL, hLd, _⟩ := hns
     rw [q, hL] at hc; cases hc; rw [hLd] at hd; cases hd
  ·rcases U.mem f.nodup hy with ⟨e, zc, zo, e', ez⟩ | ⟨e, hy⟩
   ·cases e'
   ·obtain ⟨hk, c, cv, h1, ⟨oc, hc, hd⟩, h3, h4, h5, h6, h7⟩ := f.fre y w hy
    refine ⟨hk, c, cv, h1, ⟨oc, (hs.2 c (fun q => h6 (q ▸ f.locf))).trans hc, hd⟩, h3, h4, h5, h6, h7⟩
  ·obtain ⟨b1, b2, b3, b4⟩ := f.ownf a ha
   exact ⟨b1, b2, b3, mr hs (sq hn) b4⟩
 ·obtain ⟨a1, a2, a3, a4⟩ := f.ownf _ h6
  refine wpAny_storeName_cell f.kind hk h1 h2 fun h' hc hs => h _ (ky.frame (tk := s.toks) h6 hs (nT hc)) (hr.frame (tk := s.toks) a1 a2 a3 hs (nT hc)) ?_
  have hcL : env.locals ≠ c := fun q => by
   obtain ⟨m, ⟨oL, es, ep, hL, hLd, _⟩, _⟩ := f.ns
   obtain ⟨oc, hoc, hd⟩ := h2
   rw [q, hoc] at hL; cases hL; rw [hd] at hLd; cases hLd
  refine { kind := f.kind, glo := f.glo, blt := f.blt, nodup := hnd, ns := ?_, glb := fun y hy => ?_, loc := fun y yb ov hy => ?_, fre := fun y w hy => ?_, locf := f.locf, ownf := fun a ha => ?_, apart := f.apart }
  ·obtain ⟨m, hns, hm⟩ := f.ns
   refine ⟨m, hns.sameBut hs hcL, fun y yb w hy hk' => ?_⟩
   rcases U.mem f.nodup hy with ⟨e, zc, zo, e', ez⟩ | ⟨e, hy⟩
   ·rw [e, hk] at hk'; cases hk'
   ·exact hm y yb w hy hk'
  ·rcases U.mem f.nodup hy with ⟨e, zc, zo, e', ez⟩ | ⟨e, hy⟩
   ·cases e'
   ·exact f.glb y hy
  ·rcases U.mem f.nodup hy with ⟨e, zc, zo, e', ez⟩ | ⟨e, hy⟩
   ·cases e'
    subst e
    have hzc : yb = true := (f.loc _ _ _ ez).elim (fun h => by have := h.2; rw [hk] at this; cases this) (fun h => by obtain ⟨q, _⟩ := h; exact q)
    exact .inr ⟨hzc, hk, c, some cv, h1, hc, h6, fun w hw => by cases hw; exact ⟨cv, rfl, hv⟩⟩
   ·rcases f.loc y yb ov hy with h | ⟨hb', hk', c', u', h1', ⟨oc, hc', hd⟩, h6', h7'⟩
    ·exact .inl h
    ·exact .inr ⟨hb', hk', c', u', h1', ⟨oc, (hs.2 c' (fun q => e (f.apart y x c' h1' (q ▸ h1)))).trans hc', hd⟩, h6', h7'⟩
  ·rcases U.mem f.nodup hy with ⟨e, zc, zo, e', ez⟩ | ⟨e, hy⟩
   ·cases e'
   ·obtain ⟨hk', c', cv', h1', ⟨oc, hc', hd⟩, h3', h4', h5', h6', h7'⟩ := f.fre y w hy
    exact ⟨hk', c', cv', h1', ⟨oc, (hs.2 c' (fun q => h6' (q ▸ h6))).trans hc', hd⟩, h3', h4', h5', h6', h7'⟩
  ·obtain ⟨b1, b2, b3, b4⟩ := f.ownf a ha
   exact ⟨b1, b2, b3, mr hs (nT hc) b4⟩
theorem uy (h : Q .next r H) : lj W n r H [] Q := fun A env fa G s R hr f => gs ⟨G, .next, r, H, ky.refl, hr, f, rfl, h⟩
theorem Az {c rest} (h : Ex W n r H c fun fl r' H' => match fl with | .next => lj W n r' H' rest Q | fl => Q fl r' H') : lj W n r H (c :: rest) Q := fun A env fa G s R hr f => by
 refine wpAny_execs_cons (ay (h A env fa G s R hr f) (fun fl s1 h1 => ?_) fun _ _ x => x)
 obtain ⟨G1, fl', r1, H1, e1, hr1, f1, hf, q⟩ := h1
 cases fl' with
 | next => cases hf; exact ay (q A env fa G1 s1 R hr1 f1) (fun _ _ h => h.trans e1) fun _ _ x => x
 | brk => cases hf; exact ⟨G1, .brk, r1, H1, e1, hr1, f1, rfl, q⟩
 | cont => cases hf; exact ⟨G1, .cont, r1, H1, e1, hr1, f1, rfl, q⟩
 | ret p =>
  have hf' := hf
  obtain ⟨v, e, hv⟩ := hf
  subst e
  exact ⟨G1, .ret p, r1, H1, e1, hr1, f1, hf', q⟩
noncomputable abbrev kRt (r : jr) (Q : jH) : CV := fun p H => Q (.ret p) r H
noncomputable abbrev Ho (Q : jH) (H : HH) : jr → Prop := fun r => Q .next r H
noncomputable abbrev kHx (Q : jH) (r : jr) : HH → Prop := fun H => Q .next r H
noncomputable abbrev Hp (W : Wd) (n : Nat) (r : jr) (a b : List Stmt) (Q : jH) : CB := fun c H => jA c (lj W n r H a Q) (lj W n r H b Q)
noncomputable abbrev Hq (r : jr) (Q : jH) : CV := fun p H => p = .none ∧ Q .next r H
theorem jP {e pos} (h : Ev W n r H e (kRt r Q)) : Ex W n r H (.Return (some e) pos) Q := fun A env fa G s R hr f =>
 wpAny_Return_some (ay (h A env fa G s R hr f) (fun v s1 ⟨G1, p, H1, e1, r1, v1, q1⟩ => ⟨G1, .ret p, r, H1, e1.weak, r1, f.ext e1, ⟨v, rfl, v1⟩, q1⟩) fun _ _ x => x)
theorem xB {pos} (h : Q (.ret .none) r H) : Ex W n r H (.Return none pos) Q := fun A env fa G s R hr f =>
 wpAny_Return_none ⟨G, .ret .none, r, H, ky.refl, hr, f, ⟨.none, rfl, by wtm_at "rv"⟩, h⟩
theorem xC {pos} (h : Q .cont r H) : Ex W n r H (.Continue pos) Q := fun A env fa G s R hr f => by
 show wpAny _ _ (do standAt pos; pure Flow.cont) _ _ _
 exact aj (cH (aB ⟨G, .cont, r, H, ky.refl, hr, f, rfl, h⟩))
theorem kG {t a b pos} (h : Tv W n r H t (Hp W n r a b Q)) : Ex W n r H (.If t a b pos) Q := fun A env fa G s R hr f => by
 refine wpAny_If (ay (h A env fa G s R hr f) (fun c s1 h1 => ?_) fun _ _ x => x)
 obtain ⟨G1, H1, e1, r1, q1⟩ := h1
 cases c with
 | true => exact ay (q1.1 rfl A env fa G1 s1 R r1 (f.ext e1)) (fun v s4 h4 => h4.trans e1.weak) fun _ _ x => x
 | false => exact ay (q1.2 rfl A env fa G1 s1 R r1 (f.ext e1)) (fun v s4 h4 => h4.trans e1.weak) fun _ _ x => x
inductive yH (W : Wd) (P : HH → Prop) (G : Gh) (s : Shared) (u : Unit) (s' : Shared) : Prop
 | mk (G' : Gh) (H' : HH) (e : ky [] G s G' s') (hr : HR W G' H' s') (q : P H')
inductive lJ (x : Str) (p : PV) (r : jr) (K : jr → Prop) : Prop
 | mk (r' : jr) (u : lk x p r r') (k : K r')
noncomputable def uz (W : Wd) (n : Nat) (H : HH) (ov iv v : PV) (P : HH → Prop) : Prop :=
 ∀ A G s cv co ci, lb A n → HR W G H s → RV W G v cv → RV W G ov co → RV W G iv ci → wpAny (model W.prog W.w) A (setItem co ci cv) (yH W P G s) mL s
noncomputable def vr (W : Wd) (n : Nat) (H : HH) (ov : PV) (attr : Str) (v : PV) (P : HH → Prop) : Prop :=
 ∀ A G s cv co, lb A n → HR W G H s → RV W G v cv → RV W G ov co → wpAny (model W.prog W.w) A (setAttr co attr cv) (yH W P G s) mL s
noncomputable def nI : Expr → Bool
 | .ListComp .. | .SetComp .. | .DictComp .. => false
 | _ => true
theorem lK {value t line env} (h : nI value = true) : swapsWith value t line env = pure false := by
 cases value <;> first | rfl | cases h
noncomputable abbrev kAs (x : Str) (r : jr) (Q : jH) : CV := fun p H => lJ x p r (Ho Q H)
theorem lv {e pos} (hc : nI e = true) (h : Ev W n r H e (Hq r Q)) : Ex W n r H (.Expr e pos) Q := fun A env fa G s R hr f => by
 refine wpAny_Expr (ay (h A env fa G s R hr f) (fun v s1 h1 => ?_) fun _ _ x => x) (by unfold interactive; rw [f.kind]; rfl) (lK hc)
 obtain ⟨G1, p, H1, e1, r1, v1, q1, q2⟩ := h1
 subst q1
 have : v = .none := by exact v1
 subst this
 exact ⟨G1, .next, r, H1, e1.weak, r1, f.ext e1, rfl, q2⟩
theorem jB {x pos' e pos} (hc : nI e = true) (h : Ev W n r H e (kAs x r Q)) : Ex W n r H (.Assign [.Name x pos'] e pos) Q := fun A env fa G s R hr f => by
 refine wpAny_Assign_Name (ay (h A env fa G s R hr f) (fun v s1 h1 => ?_) fun _ _ x => x) (lK hc)
 obtain ⟨G1, p, H1, e1, r1, v1, ⟨r', U, q2⟩⟩ := h1
 exact mt r1 (f.ext e1) U v1 fun s' e' hr' f' => ⟨G1, .next, r', H1, e1.weak.trans e', hr', f', rfl, q2⟩
theorem AA {x pos' op e pos c} {v0 : PV} (hm : (x, Bd.loc c (some v0)) ∈ r) (h : Ev W n r H e fun p H1 => lA W n H1 (inplaceOp op) v0 p fun q H2 => lJ x q r fun r' => Q .next r' H2) : Ex W n r H (.AugAssign (.Name x pos') op e pos) Q := fun A env fa G s R hr f => by
 refine wpAny_AugAssign_Name (vm f hm fun cv hcv => ?_)
 refine ay (h A env fa G s R hr f) (fun v s1 h1 => ?_) fun _ _ x => x
 obtain ⟨G1, p, H1, e1, r1, v1, q1⟩ := h1
 refine ay (q1 A G1 s1 cv v R r1 (e1.rv hcv) v1) (fun w s2 h2 => ?_) fun _ _ x => x
 obtain ⟨G2, q, H2, e2, r2, v2, ⟨r', U, q2⟩⟩ := h2
 exact mt r2 (f.ext (e1.trans e2)) U v2 fun s' e' hr' f' => ⟨G2, .next, r', H2, (e1.trans e2).weak.trans e', hr', f', rfl, q2⟩
noncomputable abbrev Hr (W : Wd) (n : Nat) (r : jr) (v o : PV) (Q : jH) : CV := fun i H => uz W n H o i v (kHx Q r)
noncomputable abbrev Hs (W : Wd) (n : Nat) (r : jr) (i : Expr) (v : PV) (Q : jH) : CV := fun o H => Ev W n r H i (Hr W n r v o Q)
noncomputable abbrev Ht (W : Wd) (n : Nat) (r : jr) (o i : Expr) (Q : jH) : CV := fun v H => Ev W n r H o (Hs W n r i v Q)
theorem oe {o i pos' e pos} (hc : nI e = true) (h : Ev W n r H e (Ht W n r o i Q)) :
  Ex W n r H (.Assign [.Subscript o i pos'] e pos) Q := fun A env fa G s R hr f => by
 refine wpAny_Assign_Subscript (ay (h A env fa G s R hr f) (fun v s1 h1 => ?_) fun _ _ x => x) (lK hc)
 obtain ⟨G1, p, H1, e1, r1, v1, q1⟩ := h1
 refine ay (q1 A env fa G1 s1 R r1 (f.ext e1)) (fun vo s2 h2 => ?_) fun _ _ x => x
 obtain ⟨G2, po, H2, e2, r2, v2, q2⟩ := h2
 refine ay (q2 A env fa G2 s2 R r2 ((f.ext e1).ext e2)) (fun vi s3 h3 => ?_) fun _ _ x => x
 obtain ⟨G3, pi, H3, e3, r3, v3, q3⟩ := h3
 refine ay (q3 A G3 s3 v vo vi R r3 (e3.rv (e2.rv v1)) (e3.rv v2) v3) (fun _ s4 h4 => ?_) fun _ _ x => x
 obtain ⟨G4, H4, e4, r4, q4⟩ := h4
 exact ⟨G4, .next, r, H4, (((e1.trans e2).trans e3).trans e4).weak, r4, (((f.ext e1).ext e2).ext e3).ext e4, rfl, q4⟩
noncomputable abbrev Hu (W : Wd) (n : Nat) (r : jr) (a : Str) (v : PV) (Q : jH) : CV := fun o H => vr W n H o a v (kHx Q r)
noncomputable abbrev Hv (W : Wd) (n : Nat) (r : jr) (o : Expr) (a : Str) (Q : jH) : CV := fun v H => Ev W n r H o (Hu W n r a v Q)
theorem sr {o attr pos' e pos} (hc : nI e = true) (h : Ev W n r H e (Hv W n r o attr Q)) :
  Ex W n r H (.Assign [.Attribute o attr pos'] e pos) Q := fun A env fa G s R hr f => by
 refine plainObj_wpAny_Assign_Attribute (ay (h A env fa G s R hr f) (fun v s1 h1 => ?_) fun _ _ x => x) (lK hc)
 obtain ⟨G1, p, H1, e1, r1, v1, q1⟩ := h1
 refine ay (q1 A env fa G1 s1 R r1 (f.ext e1)) (fun vo s2 h2 => ?_) fun _ _ x => x
 obtain ⟨G2, po, H2, e2, r2, v2, q2⟩ := h2
 refine ay (q2 A G2 s2 v vo R r2 (e2.rv v1) v2) (fun _ s4 h4 => ?_) fun _ _ x => x
 obtain ⟨G4, H4, e4, r4, q4⟩ := h4
 exact ⟨G4, .next, r, H4, ((e1.trans e2).trans e4).weak, r4, ((f.ext e1).ext e2).ext e4, rfl, q4⟩
end
theorem kF.own {W G h a o} (x : kF W G h a o) : G.own a = some a := by
 cases o with
 | lst xs => obtain ⟨_, _, _, h2, _⟩ := x; exact h2
 | dct xs => obtain ⟨_, _, _, h2, _⟩ := x; exact h2
 | ins c xs => obtain ⟨_, _, _, _, _, _, _, h2, _⟩ := x; exact h2
theorem HR.notSys {W G H} {s : Shared} {a i : Addr} (x : HR W G H s) (h : G.own a = some i) : (a == sysModules) = false := by
 rw [beq_eq_false_iff_ne]
 rintro rfl
 obtain ⟨o, ho⟩ := W.hsys
 rw [(x.bown _ _ h).1] at ho; cases ho
inductive Vw (H : HH) : PV → PV → Prop
 | refl {v} : Vw H v v
 | lst {a xs} : (a, HO.lst xs) ∈ H → Vw H (.ref a) (.lst xs)
 | dct {a es} : (a, HO.dct es) ∈ H → Vw H (.ref a) (.dct es)
 | ins {a c fs} : (a, HO.ins c fs) ∈ H → Vw H (.ref a) (.ins c fs)
section
variable {W : Wd} {G : Gh} {H : HH} {s : Shared} {p : PV} {v : Value}
theorem Vw.lstAt {xs} (w : Vw H p (.lst xs)) (x : HR W G H s) (h : RV W G p v) : Aq s.heap.get? (jY W G xs) v := by
 generalize hq : PV.lst xs = q at w
 cases w with
 | refl => subst hq; obtain ⟨a, vs, n, e, e1, r⟩ := h; exact ⟨a, vs, n, e, (x.imm _ _ e1).1, r⟩
 | lst hm => cases hq; obtain ⟨vs, n, h1, _, r⟩ := x.slot _ _ hm; exact ⟨_, vs, n, h, h1, r⟩
 | dct hm => cases hq
 | ins hm => cases hq
theorem Vw.dctAt {xs} (w : Vw H p (.dct xs)) (x : HR W G H s) (h : RV W G p v) : As s.heap.get? (xs.map ai).Nodup (oK W G xs) v := by
 generalize hq : PV.dct xs = q at w
 cases w with
 | refl => subst hq; obtain ⟨a, vs, n, e, e1, nd, r⟩ := h; exact ⟨a, vs, n, e, (x.imm _ _ e1).1, nd, r⟩
 | lst hm => cases hq
 | dct hm => cases hq; obtain ⟨vs, n, h1, ho, nd, r⟩ := x.slot _ _ hm; exact ⟨_, vs, n, h, h1, ⟨x.notSys ho, nd⟩, r⟩
 | ins hm => cases hq
theorem Vw.insAt {c xs} (w : Vw H p (.ins c xs)) (x : HR W G H s) (h : RV W G p v) : At s.heap.get? (W.mg c) (xs.map ai).Nodup (qf W G xs) v := by
 generalize hq : PV.ins c xs = q at w
 cases w with
 | refl => subst hq; obtain ⟨a, C, dx, vs, n, e, e0, e1, e2, nd, r⟩ := h; exact ⟨a, C, dx, vs, n, e, e0, (x.imm _ _ e1).1, (x.imm _ _ e2).1, nd, r⟩
 | lst hm => cases hq
 | dct hm => cases hq
 | ins hm => cases hq; obtain ⟨C, dx, vs, n, h0, h1, h2, _, _, nd, r⟩ := x.slot _ _ hm; exact ⟨_, C, dx, vs, n, h, h0, h1, h2, nd, r⟩
inductive Hw (h : Heap) (R : List Value → Prop) (v : Value) : Prop
 | mk (a : Addr) (vs : List Value) (e : v = .ref a) (it : IsTup h a vs.toArray) (r : R vs)
theorem Vw.tupAt {xs} (w : Vw H p (.tup xs)) (x : HR W G H s) (h : RV W G p v) : Hw s.heap (jY W G xs) v := by
 generalize hq : PV.tup xs = q at w
 cases w with
 | refl => subst hq; obtain ⟨a, vs, e, ⟨o, e1, e2⟩, r⟩ := h; exact ⟨a, vs, e, ⟨o, (x.imm _ _ e1).1, e2⟩, r⟩
 | lst hm => cases hq
 | dct hm => cases hq
 | ins hm => cases hq
end
theorem jY.length {W G} : ∀ {xs : List PV} {vs : List Value}, jY W G xs vs → vs.length = xs.length
 | [], vs, h => by rw [h]; rfl
 | x :: xs, vs, h => by
  obtain ⟨v, r, e, _, h2⟩ := h
  rw [e, dE, dE, jY.length h2]
theorem jY.get {W G} : ∀ {xs : List PV} {vs : List Value}, jY W G xs vs → ∀ {i : Nat} {x : PV}, xs[i]? = some x → ∃ v, vs[i]? = some v ∧ RV W G x v
 | [], vs, h, i, x, e => by simp at e
 | x :: xs, vs, h, i, y, e => by
  obtain ⟨v, r, e', h1, h2⟩ := h
  subst e'
  cases i with
  | zero => simp only [List.getElem?_cons_zero, ii] at e ⊢; subst e; exact ⟨v, rfl, h1⟩
  | succ i => simp only [fV] at e ⊢; exact jY.get h2 e
theorem jY.append {W G} : ∀ {xs ys : List PV} {vs ws : List Value}, jY W G xs vs → jY W G ys ws → jY W G (xs ++ ys) (vs ++ ws)
 | [], ys, vs, ws, h, h' => by subst h; exact h'
 | x :: xs, ys, vs, ws, h, h' => by
  obtain ⟨v, r, e', h1, h2⟩ := h
  subst e'
  simp only [ef, jY]
  exact ⟨v, _, rfl, h1, jY.append h2 h'⟩
theorem jY.one {W G x v} (h : RV W G x v) : jY W G [x] [v] := tX.mk v [] rfl h rfl
theorem jY.cons {W G x v xs vs} (h : RV W G x v) (h' : jY W G xs vs) : jY W G (x :: xs) (v :: vs) := tX.mk v vs rfl h h'
theorem jY.nil {W G} : jY W G [] [] := rfl
theorem jY.set {W G} : ∀ {xs : List PV} {vs : List Value}, jY W G xs vs → ∀ {i : Nat} {x : PV} {v : Value}, RV W G x v → jY W G (xs.set i x) (vs.set i v)
 | [], vs, h, i, x, v, hv => by subst h; rfl
 | x :: xs, vs, h, i, y, w, hv => by
  obtain ⟨v, r, e', h1, h2⟩ := h
  subst e'
  cases i with
  | zero => exact jY.cons hv h2
  | succ i => exact jY.cons h1 (jY.set h2 hv)
theorem jY.take {W G} : ∀ {xs : List PV} {vs : List Value}, jY W G xs vs → ∀ n : Nat, jY W G (xs.take n) (vs.take n)
 | [], vs, h, n => by subst h; cases n <;> rfl
 | x :: xs, vs, h, n => by
  obtain ⟨v, r, e', h1, h2⟩ := h
  subst e'
  cases n with
  | zero => rfl
  | succ i => exact jY.cons h1 (jY.take h2 i)
theorem jY.drop {W G} : ∀ {xs : List PV} {vs : List Value}, jY W G xs vs → ∀ n : Nat, jY W G (xs.drop n) (vs.drop n)
 | [], vs, h, n => by subst h; cases n <;> rfl
 | x :: xs, vs, h, n => by
  cases n with
  | zero => exact h
  | succ i =>
   obtain ⟨v, r, e', h1, h2⟩ := h
   subst e'
   exact jY.drop h2 i
inductive kO (a : Addr) (o o' : HO) : HH → HH → Prop
 | head {r} : kO a o o' ((a, o) :: r) ((a, o') :: r)
 | tail {p r r'} : kO a o o' r r' → kO a o o' (p :: r) (p :: r')
theorem kO.keys {a o o' H H'} (h : kO a o o' H H') : H'.map (·.1) = H.map ai := by
 induction h with
 | head => rfl
 | tail _ ih => simp only [aC, ih]
theorem kO.there {a o o' H H'} (h : kO a o o' H H') : (a, o) ∈ H := by
 induction h with
 | head => exact .head _
 | tail _ ih => exact .tail _ ih
theorem kO.mem {a o o' H H'} (h : kO a o o' H H') (hn : (H.map ai).Nodup) {b ob} (hm : (b, ob) ∈ H') : (b = a ∧ ob = o') ∨ (b ≠ a ∧ (b, ob) ∈ H) := by
 induction h with
 | head =>
  rw [aC, aY] at hn
  rcases au.mp hm with e | hm
  ·cases e; exact .inl ⟨rfl, rfl⟩
  ·exact .inr ⟨fun q => hn.1 (az.mpr ⟨_, hm, q⟩), .tail _ hm⟩
 | @tail p r0 r0' h0 ih =>
  rw [aC, aY] at hn
  rcases au.mp hm with e | hm
  ·refine .inr ⟨fun q => hn.1 ?_, e ▸ .head _⟩
   have : p.1 = a := by rw [← e]; exact q
   rw [this]; exact aO (f := ai) h0.there
  ·rcases ih hn.2 hm with h | h
   ·exact .inl h
   ·exact .inr ⟨h.1, .tail _ h.2⟩
theorem HR.upd {W G H H' a o o'} {s : Shared} (x : HR W G H s) (U : kO a o o' H H') {h' : Heap} {tk : Nat} (hk : ∀ b ob, s.heap.get? b = some ob → G.own b ≠ some a → h'.get? b = some ob)
  (hsl : kF W G h' a o') (hth : ∀ b, k9 s.heap b → k9 h' b) : HR W G H' { s with heap := h', toks := tk } ∧ ky [] G s G { s with heap := h', toks := tk } := by
 refine ⟨⟨x.bas, fun b i e => ⟨(x.bown b i e).1, hth b (x.bown b i e).2⟩, fun b ob e => ⟨hk b ob (x.imm b ob e).1 fun q => ?_, (x.imm b ob e).2⟩, by rw [show (H'.map fun z => z.1) = H'.map ai from rfl, U.keys]; exact x.nodup, fun b ob hm => ?_, x.os, x.gens⟩,
  ⟨fun _ _ e => e, fun _ _ => .inl rfl, fun _ _ _ => rfl, fun b ob e ho _ => hk b ob e (fun q => by rw [ho] at q; cases q), hth⟩⟩
 ·rw [(x.imm b ob e).2] at q; cases q
 ·rcases U.mem x.nodup hm with ⟨e, e'⟩ | ⟨e, hm⟩
  ·rw [e, e']; exact hsl
  ·exact (x.slot b ob hm).mono (fun _ _ e => e) (fun c oc hc e' => hk c oc e' (fun q => e (by rw [hc] at q; cases q; rfl))) fun _ e => e
theorem ss {h : Heap} {a : Addr} {f : Obj → Obj} (ha : k9 (h.update a f) a) {b : Addr} (hb : k9 h b) : k9 (h.update a f) b := by
 by_cases e : b = a
 ·exact e ▸ ha
 ·obtain ⟨o, ho⟩ := hb; exact ⟨o, (cx _ _ _ _ (fun z => e (by first | exact z | exact z.symm))).trans ho⟩
inductive jI : HH → HH → HH → Prop
 | nil : jI [] [] []
 | l {e H K S} : jI H K S → jI (e :: H) (e :: K) S
 | r {e H K S} : jI H K S → jI (e :: H) K (e :: S)
theorem jI.mem {H K S} (h : jI H K S) : (∀ e ∈ K, e ∈ H) ∧ (∀ e ∈ S, e ∈ H) := by
 induction h with
 | nil => exact ⟨fun _ h => h, fun _ h => h⟩
 | l _ ih => exact ⟨fun e he => by (rcases au.mp he with rfl | he; exact .head _; exact .tail _ (ih.1 e he)), fun e he => .tail _ (ih.2 e he)⟩
 | r _ ih => exact ⟨fun e he => .tail _ (ih.1 e he), fun e he => by (rcases au.mp he with rfl | he; exact .head _; exact .tail _ (ih.2 e he))⟩
theorem jI.all {H : HH} : jI H [] H := by
 induction H with
 | nil => exact .nil
 | cons _ _ ih => exact .r ih
theorem jI.none {H : HH} : jI H H [] := by
 induction H with
 | nil => exact .nil
 | cons _ _ ih => exact .l ih
theorem jI.keys {H K S} (h : jI H K S) (hn : (H.map ai).Nodup) : (K.map ai).Nodup ∧ (S.map ai).Nodup ∧ ∀ a, a ∈ K.map ai → a ∈ S.map ai → False := by
 induction h with
 | nil => exact ⟨by simp, by simp, fun a h => by simp at h⟩
 | @l e H K S h ih =>
  rw [aC, aY] at hn
  obtain ⟨i1, i2, i3⟩ := ih hn.2
  have hs : ∀ a, a ∈ K.map ai → a ∈ H.map ai := fun a ha => by obtain ⟨e', he, rfl⟩ := az.mp ha; exact aO (h.mem.1 _ he)
  have hs' : ∀ a, a ∈ S.map ai → a ∈ H.map ai := fun a ha => by obtain ⟨e', he, rfl⟩ := az.mp ha; exact aO (h.mem.2 _ he)
  refine ⟨by rw [aC, aY]; exact ⟨fun q => hn.1 (hs _ q), i1⟩, i2, fun a ha hb => ?_⟩
  rw [aC] at ha
  rcases au.mp ha with rfl | ha
  ·exact hn.1 (hs' _ hb)
  ·exact i3 a ha hb
 | @r e H K S h ih =>
  rw [aC, aY] at hn
  obtain ⟨i1, i2, i3⟩ := ih hn.2
  have hs : ∀ a, a ∈ K.map ai → a ∈ H.map ai := fun a ha => by obtain ⟨e', he, rfl⟩ := az.mp ha; exact aO (h.mem.1 _ he)
  have hs' : ∀ a, a ∈ S.map ai → a ∈ H.map ai := fun a ha => by obtain ⟨e', he, rfl⟩ := az.mp ha; exact aO (h.mem.2 _ he)
  refine ⟨i1, by rw [aC, aY]; exact ⟨fun q => hn.1 (hs' _ q), i2⟩, fun a ha hb => ?_⟩
  rw [aC] at hb
  rcases au.mp hb with rfl | hb
  ·exact hn.1 (hs _ ha)
  ·exact i3 a ha hb
mutual
inductive pp (S : HH) : PV → PV → Prop
 | refl {p} : pp S p p
 | lst {a xs ys} : (a, HO.lst xs) ∈ S → ny S xs ys → pp S (.ref a) (.lst ys)
 | dct {a es fs} : (a, HO.dct es) ∈ S → tI S es fs → pp S (.ref a) (.dct fs)
 | ins {a c es fs} : (a, HO.ins c es) ∈ S → tJ S es fs → pp S (.ref a) (.ins c fs)
 | tup {xs ys} : ny S xs ys → pp S (.tup xs) (.tup ys)
inductive ny (S : HH) : List PV → List PV → Prop
 | refl {xs} : ny S xs xs
 | cons {x y xs ys} : pp S x y → ny S xs ys → ny S (x :: xs) (y :: ys)
inductive tI (S : HH) : List (PV × PV) → List (PV × PV) → Prop
 | refl {xs} : tI S xs xs
 | cons {k x y xs ys} : pp S x y → tI S xs ys → tI S ((k, x) :: xs) ((k, y) :: ys)
inductive tJ (S : HH) : List (Str × PV) → List (Str × PV) → Prop
 | refl {xs} : tJ S xs xs
 | cons {k x y xs ys} : pp S x y → tJ S xs ys → tJ S ((k, x) :: xs) ((k, y) :: ys)
end
theorem tI.keys {S xs ys} (h : tI S xs ys) : ys.map ai = xs.map ai :=
 tI.rec (motive_1 := fun _ _ _ => True) (motive_2 := fun _ _ _ => True) (motive_3 := fun xs ys _ => ys.map ai = xs.map ai) (motive_4 := fun _ _ _ => True)
  trivial (fun _ _ _ => trivial) (fun _ _ _ => trivial) (fun _ _ _ => trivial) (fun _ _ => trivial) trivial (fun _ _ _ _ => trivial) rfl (fun {k _ _ _ _} _ _ _ ih => congrArg (jg k) ih) trivial (fun _ _ _ _ => trivial) h
theorem tJ.keys {S xs ys} (h : tJ S xs ys) : ys.map ai = xs.map ai :=
 tJ.rec (motive_1 := fun _ _ _ => True) (motive_2 := fun _ _ _ => True) (motive_3 := fun _ _ _ => True) (motive_4 := fun xs ys _ => ys.map ai = xs.map ai)
  trivial (fun _ _ _ => trivial) (fun _ _ _ => trivial) (fun _ _ _ => trivial) (fun _ _ => trivial) trivial (fun _ _ _ _ => trivial) trivial (fun _ _ _ _ => trivial) rfl (fun {k _ _ _ _} _ _ _ ih => congrArg (jg k) ih) h
structure Hx (W : Wd) (G G' : Gh) (S : HH) : Prop where
 g : ∀ b o, G.g b = some o → G'.g b = some o
 s : ∀ a xs, (a, HO.lst xs) ∈ S → Aq G'.g (jY W G xs) (.ref a)
 d : ∀ a es, (a, HO.dct es) ∈ S → As G'.g (es.map ai).Nodup (oK W G es) (.ref a)
 i : ∀ a c fs, (a, HO.ins c fs) ∈ S → At G'.g (W.mg c) (fs.map ai).Nodup (qf W G fs) (.ref a)
theorem pp.rv {W G G' S} (x : Hx W G G' S) {p t : PV} {v : Value} (h : pp S p t) (hv : RV W G p v) : RV W G' t v := by
 refine pp.rec (motive_1 := fun p t _ => ∀ v, RV W G p v → RV W G' t v) (motive_2 := fun p t _ => ∀ v, jY W G p v → jY W G' t v) (motive_3 := fun p t _ => ∀ v, oK W G p v → oK W G' t v) (motive_4 := fun p t _ => ∀ v, qf W G p v → qf W G' t v)
  (fun v h => h.mono x.g) (fun {a xs ys} hm _ ih v h => ?_) (fun {a xs ys} hm hr ih v h => ?_) (fun {a c xs ys} hm hr ih v h => ?_) (fun {xs ys} _ ih v h => ?_)
  (fun v h => h.mono x.g) (fun {y z ys zs} _ _ i1 i2 v h => ?_) (fun v h => h.mono x.g) (fun {k y z ys zs} _ _ i1 i2 v h => ?_) (fun v h => h.mono x.g) (fun {k y z ys zs} _ _ i1 i2 v h => ?_) h v hv
 ·cases (show v = .ref a from h); obtain ⟨a', vs, n, e, g, r⟩ := x.s _ _ hm; exact Aq.mk a' vs n e g (ih _ r)
 ·cases (show v = .ref a from h); obtain ⟨a', vs, n, e, g, nd, r⟩ := x.d _ _ hm; exact As.mk a' vs n e g ⟨nd.1, by rw [hr.keys]; exact nd.2⟩ (ih _ r)
 ·cases (show v = .ref a from h); obtain ⟨a', C, dx, vs, n, e, hc, g, g', nd, r⟩ := x.i _ _ _ hm; exact At.mk a' C dx vs n e hc g g' (by rw [hr.keys]; exact nd) (ih _ r)
 ·obtain ⟨a, vs, e, ⟨o, e1, e2⟩, r⟩ := h; exact vl.mk a vs e ⟨o, x.g _ _ e1, e2⟩ (ih _ r)
 ·obtain ⟨u, r, e, q1, q2⟩ := h; exact tX.mk u r e (i1 _ q1) (i2 _ q2)
 ·obtain ⟨u, r, e, q0, q1, q2, q3⟩ := h; exact xw.mk u r e q0 (q1.mono x.g) (i1 _ q2) (i2 _ q3)
 ·obtain ⟨u, r, t, e, q0, q1, q2, q3⟩ := h; exact tY.mk u r t e q0 q1 (i1 _ q2) (i2 _ q3)
noncomputable def Gh.frz (G : Gh) (h : Heap) (S : HH) : Gh :=
 ⟨fun b => match G.own b with | some a => if a ∈ S.map ai then h.get? b else G.g b | none => G.g b,
  fun b => match G.own b with | some a => if a ∈ S.map ai then none else some a | none => none⟩
theorem HR.freeze {W G H K S} {s : Shared} (x : HR W G H s) (sp : jI H K S) : ky [] G s (G.frz s.heap S) s ∧ HR W (G.frz s.heap S) K s ∧ ∀ p t v, pp S p t → RV W G p v → RV W (G.frz s.heap S) t v := by
 obtain ⟨nk, ns, dj⟩ := sp.keys x.nodup
 have own0 : ∀ b, G.own b = none → (G.frz s.heap S).g b = G.g b := fun b hb => by show (match G.own b with | some a => _ | none => _) = _; rw [hb]
 have hle : ∀ b o, G.g b = some o → (G.frz s.heap S).g b = some o := fun b o e => by rw [own0 b (x.imm b o e).2]; exact e
 have gS : ∀ a b o, G.own b = some a → a ∈ S.map ai → s.heap.get? b = some o → (G.frz s.heap S).g b = some o := fun a b o hb ha e => by
  show (match G.own b with | some a => _ | none => _) = _
  rw [hb]; simp only; rw [if_pos ha]; exact e
 refine ⟨⟨hle, fun b _ => ?_, fun b _ hb => own0 b hb, fun b o e _ _ => e, fun _ h => h⟩, ⟨fun b o e => hle _ _ (x.bas b o e), fun b i e => ?_, fun b o e => ?_, nk, fun a o hm => ?_, x.os, x.gens⟩, fun p t v hr hv => ?_⟩
 ·show (match G.own b with | some a => _ | none => _) = _ ∨ (match G.own b with | some a => _ | none => _) = _
  cases hb : G.own b with
  | none => exact .inl rfl
  | some a =>
   simp only
   by_cases ha : a ∈ S.map ai
   ·right; rw [if_pos ha]
   ·left; rw [if_neg ha]
 ·have e' : (match G.own b with | some a => if a ∈ S.map ai then none else some a | none => none) = some i := e
  cases hb : G.own b with
  | none => rw [hb] at e'; cases e'
  | some a => exact x.bown b a hb
 ·have e' : (match G.own b with | some a => if a ∈ S.map ai then s.heap.get? b else G.g b | none => G.g b) = some o := e
  show _ ∧ (match G.own b with | some a => if a ∈ S.map ai then none else some a | none => none) = none
  cases hb : G.own b with
  | none => rw [hb] at e'; exact ⟨(x.imm b o e').1, rfl⟩
  | some a =>
   rw [hb] at e'
   simp only at e' ⊢
   by_cases ha : a ∈ S.map ai
   ·rw [if_pos ha] at e' ⊢; exact ⟨e', rfl⟩
   ·rw [if_neg ha] at e'
    have := (x.imm b o e').2
    rw [hb] at this; cases this
 ·refine (x.slot a o (sp.mem.1 _ hm)).mono hle (fun b ob _ e => e) fun b hb => ?_
  show (match G.own b with | some a => if a ∈ S.map ai then none else some a | none => none) = _
  rw [hb]; simp only
  rw [if_neg (fun q => dj a (aO (f := ai) hm) q)]
 ·have key : ∀ a o, (a, o) ∈ S → a ∈ S.map ai := fun a o h => aO (f := ai) h
  refine pp.rv ⟨hle, fun a xs hm => ?_, fun a xs hm => ?_, fun a c xs hm => ?_⟩ hr hv
  ·obtain ⟨vs, n, h1, h2, h3⟩ := x.slot _ _ (sp.mem.2 _ hm)
   exact ⟨a, vs, n, rfl, gS a a _ h2 (key _ _ hm) h1, h3⟩
  ·obtain ⟨vs, n, h1, h2, nd, h3⟩ := x.slot _ _ (sp.mem.2 _ hm)
   exact ⟨a, vs, n, rfl, gS a a _ h2 (key _ _ hm) h1, ⟨x.notSys h2, nd⟩, h3⟩
  ·obtain ⟨C, dx, vs, n, h0, h1, h1', h2, h2', nd, h3⟩ := x.slot _ _ (sp.mem.2 _ hm)
   exact ⟨a, C, dx, vs, n, rfl, h0, gS a a _ h2 (key _ _ hm) h1, gS a dx _ h2' (key _ _ hm) h1', nd, h3⟩
noncomputable def Gh.hid (G : Gh) (R : HH) : Gh := ⟨G.g, fun b => match G.own b with | some a => if a ∈ R.map ai then none else some a | none => none⟩
noncomputable def Gh.show_ (G1 : Gh) (G : Gh) (R : HH) : Gh := ⟨G1.g, fun b => match G.own b with | some a => if a ∈ R.map ai then some a else G1.own b | none => G1.own b⟩
theorem Gh.hid_own {G : Gh} {R : HH} {b a} (h : G.own b = some a) : (G.hid R).own b = if a ∈ R.map ai then none else some a := by
 show (match G.own b with | some a => if a ∈ R.map ai then none else some a | none => none) = _
 rw [h]
theorem Gh.hid_none {G : Gh} {R : HH} {b} (h : G.own b = none) : (G.hid R).own b = none := by
 show (match G.own b with | some a => if a ∈ R.map ai then none else some a | none => none) = _
 rw [h]
theorem Gh.show_own {G1 G : Gh} {R : HH} {b a} (h : G.own b = some a) : (G1.show_ G R).own b = if a ∈ R.map ai then some a else G1.own b := by
 show (match G.own b with | some a => if a ∈ R.map ai then some a else G1.own b | none => G1.own b) = _
 rw [h]
theorem Gh.show_none {G1 G : Gh} {R : HH} {b} (h : G.own b = none) : (G1.show_ G R).own b = G1.own b := by
 show (match G.own b with | some a => if a ∈ R.map ai then some a else G1.own b | none => G1.own b) = _
 rw [h]
theorem HR.hide {W G H P R} {s : Shared} (x : HR W G H s) (sp : jI H P R) : HR W (G.hid R) P s := by
 obtain ⟨nk, ns, dj⟩ := sp.keys x.nodup
 refine ⟨x.bas, fun b i e => ?_, fun b o e => ⟨(x.imm b o e).1, Gh.hid_none (x.imm b o e).2⟩, nk, fun a o hm => (x.slot a o (sp.mem.1 _ hm)).mono (fun _ _ e => e) (fun _ _ _ e => e) fun b hb => ?_, x.os, x.gens⟩
 ·cases hb : G.own b with
  | none => rw [Gh.hid_none hb] at e; cases e
  | some a => exact x.bown b a hb
 ·rw [Gh.hid_own hb, if_neg (fun q => dj a (aO (f := ai) hm) q)]
theorem HR.unhide {W G H P R P' G1} {s s1 : Shared} (x : HR W G H s) (sp : jI H P R) (e : ky [] (G.hid R) s G1 s1) (y : HR W G1 P' s1) : ky [] G s (G1.show_ G R) s1 ∧ HR W (G1.show_ G R) (P' ++ R) s1 := by
 obtain ⟨nk, ns, dj⟩ := sp.keys x.nodup
 have hR : ∀ b a, G.own b = some a → a ∈ R.map ai → (G.hid R).own b = none := fun b a h h' => by rw [Gh.hid_own h, if_pos h']
 have hR1 : ∀ b a, G.own b = some a → a ∈ R.map ai → G1.own b = none := fun b a h h' => by
  rcases e.own b (x.bown b a h).2 with q | q
  ·rw [q, hR b a h h']
  ·exact q
 have R0 : ∀ b a, G.own b = some a → a ∈ R.map ai → G1.g b = none := fun b a h h' => by
  rw [e.gnew b (x.bown b a h).2 (hR b a h h')]
  cases q : G.g b with
  | none => show G.g b = _; exact q
  | some o => have := (x.imm b o q).2; rw [h] at this; cases this
 refine ⟨⟨e.gle, fun b hb => ?_, fun b hb ho => e.gnew b hb (Gh.hid_none ho), fun b o q ho _ => e.keep b o q (Gh.hid_none ho) (by simp), e.there⟩, ⟨fun b o e => y.bas b o e, fun b i q => ?_, fun b o q => ⟨(y.imm b o q).1, ?_⟩, ?_, fun a o hm => ?_, y.os, y.gens⟩⟩
 ·cases h : G.own b with
  | none =>
   rw [Gh.show_none h]
   rcases e.own b hb with q | q
   ·left; rw [q]; exact Gh.hid_none h
   ·exact .inr q
  | some a =>
   rw [Gh.show_own h]
   by_cases ha : a ∈ R.map ai
   ·rw [if_pos ha]; exact .inl rfl
   ·rw [if_neg ha]
    rcases e.own b hb with q | q
    ·left; rw [q, Gh.hid_own h, if_neg ha]
    ·exact .inr q
 ·cases h : G.own b with
  | none => rw [Gh.show_none h] at q; exact y.bown b i q
  | some a =>
   rw [Gh.show_own h] at q
   by_cases ha : a ∈ R.map ai
   ·exact ⟨(x.bown b a h).1, e.there b (x.bown b a h).2⟩
   ·rw [if_neg ha] at q; exact y.bown b i q
 ·cases h : G.own b with
  | none => rw [Gh.show_none h]; exact (y.imm b o q).2
  | some a =>
   rw [Gh.show_own h]
   by_cases ha : a ∈ R.map ai
   ·rw [show (G1.show_ G R).g b = G1.g b from rfl, R0 b a h ha] at q; cases q
   ·rw [if_neg ha]; exact (y.imm b o q).2
 ·rw [aJ, du]
  refine ⟨y.nodup, ns, fun a ha b hb q => ?_⟩
  subst q
  obtain ⟨⟨a1, o1⟩, h1, q1⟩ := az.mp ha
  obtain ⟨⟨a2, o2⟩, h2, q2⟩ := az.mp hb
  have q1' : a1 = a := q1
  have q2' : a2 = a := q2
  subst q1'
  subst q2'
  have w1 := (y.slot _ _ h1).own
  have w2 := (x.slot _ _ (sp.mem.2 _ h2)).own
  rw [hR1 _ _ w2 hb] at w1; cases w1
 ·rcases aQ.mp hm with hm | hm
  ·refine (y.slot a o hm).mono (fun _ _ e => e) (fun _ _ _ e => e) fun b hb => ?_
   cases h : G.own b with
   | none => rw [Gh.show_none h]; exact hb
   | some c =>
    rw [Gh.show_own h]
    by_cases hc : c ∈ R.map ai
    ·rw [hR1 b c h hc] at hb; cases hb
    ·rw [if_neg hc]; exact hb
  ·have key : a ∈ R.map ai := aO (f := ai) hm
   refine (x.slot a o (sp.mem.2 _ hm)).mono e.gle (fun b ob ho q => e.keep b ob q (hR b a ho key) (by simp)) fun b hb => ?_
   rw [Gh.show_own hb, if_pos key]
inductive Hy (W : Wd) (Q : CV) (G : Gh) (s : Shared) (r : Result) (s' : Shared) : Prop
 | mk (v : Value) (e : r = .ok (.ret v)) (f : Fin W Q G s v s')
noncomputable def jX (W : Wd) (n : Nat) (H : HH) (f : Value) (ps : List PV) (Q : CV) : Prop :=
 ∀ A G s vs, lb A n → HR W G H s → jY W G ps vs → codeAny (model W.prog W.w) A (.call f ⟨vs, []⟩) (Hy W Q G s) s
theorem jX.toN {W n H f ps Q} (h : jX W n H f ps Q) : mM W n H (fun vs => call f vs) ps Q := fun A G s vs R hr hv =>
 wpAny_call (gf (h A G s vs R hr hv) fun r s' ⟨v, e, x⟩ => by subst e; exact x)
theorem jX.frame {W n H P R} {f : Value} {ps : List PV} {Q : CV} (sp : jI H P R) (h : jX W n P f ps fun p P' => Q p (P' ++ R)) : jX W n H f ps Q := fun A G s vs Rm hr hv => by
 refine gf (h A (G.hid R) s vs Rm (hr.hide sp) (hv.mono (G' := G.hid R) fun b o (e : G.g b = some o) => e)) fun r s1 ⟨v, e, h1⟩ => ⟨v, e, ?_⟩
 obtain ⟨G1, p, P', e1, r1, v1, q1⟩ := h1
 obtain ⟨e2, r2⟩ := hr.unhide sp e1 r1
 exact ⟨_, p, _, e2, r2, v1.mono (G' := G1.show_ G R) (fun b o (e : G1.g b = some o) => e), q1⟩
noncomputable def jE : Expr → Bool
 | .Starred .. => false
 | _ => true
theorem FI {e : Expr} {es : List Expr} {env : Env} (h : jE e = true) : starEach (e :: es) env = (false, eval e env) :: starEach es env := by
 cases e with
 | Starred => exact (dO h).elim
 | _ => rfl
theorem sv {es : List Expr} {env : Env} : es.all jE = true → starEach es env = es.map fun e => (false, eval e env) := by
 induction es with
 | nil => exact fun _ => rfl
 | cons e es ih =>
  intro h
  rw [i9, aX] at h
  rw [FI h.1, ih h.2]; rfl
theorem qi {pos : Pos} : ∀ {es : List Expr} {env : Env}, backTo pos (es.map fun e => (false, eval e env)) = es.map fun e => (false, eval e env)
 | [], _ => rfl
 | e :: es, env => by
  have ih := qi (pos := pos) (es := es) (env := env)
  show (false, _) :: backTo pos (es.map fun e => (false, eval e env)) = _
  rw [ih]; rfl
noncomputable abbrev pL (es : List Expr) (env : Env) : List (Bool × Sem Value) := es.map fun e => (false, eval e env)
theorem nU {pos es env} (h : es.all jE = true) : backTo pos (starEach es env) = pL es env := by rw [sv h, qi]
theorem nV {es env} : (pL es env).any (·.1) = false := by
 induction es with
 | nil => rfl
 | cons e es ih => simp [pL]
inductive Hz (W : Wd) (Q : CL) (G : Gh) (s : Shared) (vs : List Value) (s' : Shared) : Prop
 | mk (G' : Gh) (ps : List PV) (H' : HH) (e : ky [] G s G' s') (hr : HR W G' H' s') (hv : jY W G' ps vs) (q : Q ps H')
noncomputable def nR (W : Wd) (n : Nat) (r : jr) (H : HH) (es : List Expr) (Q : CL) : Prop :=
 ∀ A env fa G s, lb A n → HR W G H s → FR W env fa r G s.heap → wpAny (model W.prog W.w) A (spliced (pL es env)) (Hz W Q G s) mL s
section
variable {W : Wd} {n : Nat} {r : jr} {H : HH} {Q : CV}
theorem mh {Q : CL} (h : Q [] H) : nR W n r H [] Q := fun A env fa G s R hr f => Calls.spliced_nil ⟨G, [], H, ky.refl, hr, jY.nil, h⟩
noncomputable abbrev HA (p : PV) (Q : CL) : CL := fun ps H => Q (p :: ps) H
noncomputable abbrev kEc (W : Wd) (n : Nat) (r : jr) (es : List Expr) (Q : CL) : CV := fun p H => nR W n r H es (HA p Q)
theorem jy {e es} {Q : CL} (h : Ev W n r H e (kEc W n r es Q)) : nR W n r H (e :: es) Q := fun A env fa G s R hr f => by
 refine Calls.spliced_cons (ay (h A env fa G s R hr f) (fun v s1 h1 => ?_) fun _ _ x => x)
 obtain ⟨G1, p, H1, e1, r1, v1, q1⟩ := h1
 refine ay (q1 A env fa G1 s1 R r1 (f.ext e1)) (fun vs s2 h2 => ?_) fun _ _ x => x
 obtain ⟨G2, ps, H2, e2, r2, v2, q2⟩ := h2
 exact ⟨G2, p :: ps, H2, e1.trans e2, r2, jY.cons (e2.rv v1) v2, q2⟩
theorem vt {A G} {s : Shared} {vs : List Value} {ps : List PV} (hr : HR W G H s) (hv : jY W G ps vs) (h : Q (.tup ps) H) (hsz : ps.length ≤ sizeLine) : wpAny (model W.prog W.w) A (newTuple vs) (Fin W Q G s) mL s := by
 obtain ⟨x, e⟩ := hr.allocG (Ap vs 0) rfl (tk := s.toks)
 refine fF ⟨_, .tup ps, H, e, x, ?_, h⟩ (by show vs.toArray.size ≤ sizeLine; rw [aH, hv.length]; exact hsz)
 exact vl.mk _ vs rfl ⟨_, if_pos rfl, rfl, 0, rfl⟩ (e.rvs hv)
theorem sw {A G} {s : Shared} {vs : List Value} {ps : List PV} (hr : HR W G H s) (hv : jY W G ps vs) (h : ∀ a, Q (.ref a) ((a, .lst ps) :: H)) (hsz : ps.length ≤ sizeLine) : wpAny (model W.prog W.w) A (newList vs) (Fin W Q G s) mL s := by
 obtain ⟨x, e⟩ := hr.allocO (lI vs 0) (.lst ps) (tk := s.toks) ⟨vs, 0, aV _ rfl, if_pos rfl, hv.mono (G' := G.addO s.heap.objs.size s.heap.objs.size) (fun b o (e : G.g b = some o) => e)⟩
 exact fF ⟨_, .ref s.heap.objs.size, _, e, x, by wtm_at "rv", h _⟩ (by show vs.toArray.size ≤ sizeLine; rw [aH, hv.length]; exact hsz)
theorem sx {es k pos} (hs : es.all jE = true) (h : nR W n r H es fun ps H1 => ps.length ≤ sizeLine ∧ Q (.tup ps) H1) : Ev W n r H (.Tuple es k pos) Q := fun A env fa G s R hr f => by
 refine Tuple_ ?_
 rw [nU hs]
 refine ay (h A env fa G s R hr f) (fun vs s1 h1 => ?_) fun _ _ x => x
 obtain ⟨G1, ps, H1, e1, r1, v1, hz, q1⟩ := h1
 exact ay (vt r1 v1 q1 hz) (fun _ _ h => h.trans e1) fun _ _ x => x
theorem uA {es pos} (hs : es.all jE = true) (h : nR W n r H es fun ps H1 => ps.length ≤ sizeLine ∧ ∀ a, Q (.ref a) ((a, .lst ps) :: H1)) : Ev W n r H (.List es pos) Q := fun A env fa G s R hr f => by
 refine List_ ?_
 rw [nU hs]
 refine ay (h A env fa G s R hr f) (fun vs s1 h1 => ?_) fun _ _ x => x
 obtain ⟨G1, ps, H1, e1, r1, v1, hz, q1⟩ := h1
 exact ay (sw r1 v1 q1 hz) (fun _ _ h => h.trans e1) fun _ _ x => x
noncomputable def oM (W : Wd) (n : Nat) (H : HH) (po pi : PV) (Q : CV) : Prop :=
 ∀ A G s co ci, lb A n → HR W G H s → RV W G po co → RV W G pi ci → (∃ T id, s.TypeIs co T ∧ typeLookup (.type T) "__getitem__" = pure (some (.builtin id))) ∧ wpAny (model W.prog W.w) A (getItem co ci) (Fin W Q G s) mL s
theorem nA (slice : Expr) (o i : Value) : ∃ ops, subscripted slice false o i = operate ops (getItem o i) := by
 cases slice with
 | Slice a b c p => cases c <;> exact ⟨_, rfl⟩
 | _ => exact ⟨_, rfl⟩
noncomputable abbrev kGi (W : Wd) (n : Nat) (o : PV) (Q : CV) : CV := fun i H => oM W n H o i Q
noncomputable abbrev HB (W : Wd) (n : Nat) (r : jr) (i : Expr) (Q : CV) : CV := fun o H => Ev W n r H i (kGi W n o Q)
theorem og {value slice pos} (h : Ev W n r H value (HB W n r slice Q)) : Ev W n r H (.Subscript value slice pos) Q := fun A env fa G s R hr f => by
 refine Subscript_ (ay (h A env fa G s R hr f) (fun vo s1 h1 => ?_) fun _ _ x => x)
 obtain ⟨G1, po, H1, e1, r1, v1, q1⟩ := h1
 refine ay (q1 A env fa G1 s1 R r1 (f.ext e1)) (fun vi s2 h2 => ?_) fun _ _ x => x
 obtain ⟨G2, pi, H2, e2, r2, v2, q2⟩ := h2
 obtain ⟨⟨T, id, hT, hl⟩, hg⟩ := q2 A G2 s2 vo vi R r2 (e2.rv v1) v2
 obtain ⟨ops, hs⟩ := nA slice vo vi
 exact tail_any hT hl (ay hg (fun _ _ h => (h.trans e2).trans e1) fun _ _ x => x) hs
theorem jq {h : Heap} {a : Addr} {vs : List Value} {k : Nat} (e : h.get? a = some (lI vs k)) : h.IsList a vs.toArray := ⟨_, e, rfl, k, rfl⟩
theorem jx {po : PV} {k : Int} {xs : List PV} {x : PV} (w : Vw H po (.lst xs)) (h0 : 0 ≤ k) (hx : xs[k.toNat]? = some x) (hk : k < 2 ^ 63) (h : Q x H) : oM W n H po (.int k) Q := fun A G s co ci R hr v1 v2 => by
 obtain ⟨a, vs, m, e, e1, rs⟩ := w.lstAt hr v1
 obtain ⟨t, e2⟩ : ∃ t, ci = .int k t := by exact v2
 obtain ⟨v, hv, rv⟩ := rs.get hx
 subst e; subst e2
 exact ⟨⟨_, _, (jq e1).typeIs, fG.lookup⟩, wpAny_getItem_list (jq e1) h0 hk (by simpa using hv) (so hr rv h)⟩
theorem nW {po : PV} {k : Int} {xs : List PV} {x : PV} (w : Vw H po (.lst xs)) (h0 : k < 0) (h1 : -(xs.length : Int) ≤ k) (hx : xs[(k + xs.length).toNat]? = some x) (hk : -(2 ^ 63) ≤ k) (h : Q x H) : oM W n H po (.int k) Q := fun A G s co ci R hr v1 v2 => by
 obtain ⟨a, vs, m, e, e1, rs⟩ := w.lstAt hr v1
 obtain ⟨t, e2⟩ : ∃ t, ci = .int k t := by exact v2
 obtain ⟨v, hv, rv⟩ := rs.get hx
 subst e; subst e2
 have hl := rs.length
 exact ⟨⟨_, _, (jq e1).typeIs, fG.lookup⟩, wpAny_getItem_list_neg (jq e1) h0 (by rw [aH, hl]; exact h1) hk (by rw [aH, hl]; simpa using hv) (so hr rv h)⟩
theorem kH {po : PV} {k : Int} {xs : List PV} {x : PV} (w : Vw H po (.tup xs)) (h0 : 0 ≤ k) (hx : xs[k.toNat]? = some x) (hk : k < 2 ^ 63) (h : Q x H) : oM W n H po (.int k) Q := fun A G s co ci R hr v1 v2 => by
 obtain ⟨a, vs, e, e1, rs⟩ := w.tupAt hr v1
 obtain ⟨t, e2⟩ : ∃ t, ci = .int k t := by exact v2
 obtain ⟨v, hv, rv⟩ := rs.get hx
 subst e; subst e2
 have hlt : k.toNat < vs.length := (aA.mp hv).1
 refine ⟨⟨_, _, e1.typeIs, slot_tuple_getitem.lookup⟩, PyProof.Rows.getItem_tuple e1 (by lia) hk (j := k.toNat) ?_ (by simpa using hv) (so hr rv h)⟩
 rw [aH]
 unfold seqIndex?
 have q1 : ¬ k < 0 := by exact J13 17 h0
 have q2 : k < (vs.length : Int) := by exact J3 17 hlt
 simp only [q1, if_false, h0, q2, decide_true, Bool.and_true, if_true]
theorem rq (vs : List Value) (m : Nat) (f : Array Value → Array Value) : ∃ m', bZ f (lI vs m) = lI (f vs.toArray).toList m' := by
 refine ⟨if (f vs.toArray).size == vs.toArray.size then m else m + 1, ?_⟩
 show Obj.mk _ _ _ _ = Obj.mk _ _ _ _
 simp
theorem rS {A} {E : Value → Shared → Prop} {s : Shared} {a : Addr} {vs : List Value} {m : Nat} {k : Int} {t : Tok} {v : Value} {P : Unit → Shared → Prop} (e : s.heap.get? a = some (lI vs m)) (h0 : 0 ≤ k) (hk : k < 2 ^ 63) (hn : k < vs.length)
  (hQ : ∀ m', (s.heap.update a (bZ (·.setIfInBounds k.toNat v))).get? a = some (lI (vs.set k.toNat v) m') → P () { s with heap := s.heap.update a (bZ (·.setIfInBounds k.toNat v)) }) :
  wpAny (model W.prog W.w) A (setItem (.ref a) (.int k t) v) P E s := by
 have hl := jq e
 unfold setItem
 try with_reducible refine bv ?_
 refine aj (wpAny_sequenceKey hl.typeIs (by decide) ?_)
 refine aj (wpAny_callSpecial?_slot (name := eS "__setitem__") hl.typeIs slot_list_setitem
  (cR slot_list_setitem hl.typeIs entry_list_setitem ?_ (args_list_setitem _ _ _)))
 show wpAny _ _ (Builtin.List.listSubscript? (.int k t) >>= _) _ _ s
 refine aj (wpAny_listSubscript_int (fitsIndex_of h0 hk) ?_)
 clear hk
 obtain ⟨j, rfl⟩ := Int.eq_ofNat_of_zero_le h0
 have hj : j < vs.toArray.size := by rw [aH]; exact J0 21 hn
 have hx' : vs.toArray[j]? = some vs.toArray[j] := dH hj
 show wpAny _ _ ((seqItemAt a j >>= fun r => pure (r.map (j, ·))) >>= _) _ _ s
 refine aj (aj (wpAny_seqItemAt e rfl (aB ?_)))
 rw [hx']
 show wpAny _ _ (setSeqItemAt a j v >>= _) _ _ s
 obtain ⟨m', hm'⟩ := rq vs m (·.setIfInBounds j v)
 have hm2 : bZ (·.setIfInBounds j v) (lI vs m) = lI (vs.set j v) m' := by rw [hm']; simp
 have hfin := cz (h := s.heap) (bZ (·.setIfInBounds j v)) e (by rw [hm2]; rfl)
 rw [hm2] at hfin
 refine aj (wpAny_setSeqItemAt e rfl ?_)
 first
  | exact aj (aB (aB ⟨.none, rfl, aB (hQ m' hfin)⟩))
  | exact aB ⟨.none, rfl, aB (hQ m' hfin)⟩
theorem HR.updL {G H H' a xs ys} {s : Shared} {f : Obj → Obj} {vs : List Value} {m tk : Nat} (x : HR W G H s) (U : kO a (.lst xs) (.lst ys) H H') (e : (s.heap.update a f).get? a = some (lI vs m)) (hv : jY W G ys vs) :
  HR W G H' { s with heap := s.heap.update a f, toks := tk } ∧ ky [] G s G { s with heap := s.heap.update a f, toks := tk } := by
 have ho := (x.slot _ _ U.there).own
 exact x.upd U (fun b ob q hb => (cx _ _ _ _ (fun z => hb (by subst z; exact ho))).trans q) ⟨vs, m, e, ho, hv⟩ fun b hb => ss ⟨_, e⟩ hb
theorem mu {a : Addr} {k : Int} {v : PV} {xs : List PV} {H' : HH} {P : HH → Prop} (U : kO a (.lst xs) (.lst (xs.set k.toNat v)) H H') (h0 : 0 ≤ k) (hk : k < 2 ^ 63) (hn : k < xs.length) (h : P H') : uz W n H (.ref a) (.int k) v P := fun A G s cv co ci R hr vv vo vi => by
 have e0 : co = .ref a := by exact vo
 obtain ⟨t, e2⟩ : ∃ t, ci = .int k t := by exact vi
 obtain ⟨vs, m, e1, ho, rs⟩ := hr.slot _ _ U.there
 subst e0; subst e2
 refine rS e1 h0 hk (by rw [rs.length]; exact hn) fun m' hm' => ?_
 obtain ⟨y, e⟩ := hr.updL (tk := s.toks) U hm' (rs.set vv)
 exact ⟨G, H', e, y, h⟩
theorem sy {a : Addr} {v : PV} {xs : List PV} {H' : HH} (U : kO a (.lst xs) (.lst (xs ++ [v])) H H') (hn : xs.length ≤ sizeLine) (h : Q .none H') : mM W n H (fun vs => call (.builtin "list.append") vs) [.ref a, v] Q := fun A G s vs R hr hv => by
 obtain ⟨co, _, rfl, vo, cv, _, rfl, vv, rfl⟩ := hv
 have e0 : co = .ref a := by exact vo
 subst e0
 obtain ⟨vs, m, e1, ho, rs⟩ := hr.slot _ _ U.there
 refine gZ F.slot_list_append ⟨_, e1, rfl⟩ F.entry_list_append (F.args_list_append_2 _ _) (PySem.list_append a vs.toArray m cv (by rw [aH, rs.length]; exact hn)) ⟨e1, ?_⟩
 obtain ⟨m', hm'⟩ := rq vs m (·.push cv)
 have hm2 : bZ (·.push cv) (lI vs m) = lI (vs ++ [cv]) m' := by rw [hm']; simp
 have hfin := cz (h := s.heap) (bZ (·.push cv)) e1 (by rw [hm2]; rfl)
 rw [hm2] at hfin
 obtain ⟨y, e⟩ := hr.updL (tk := s.toks) U hfin (rs.append (jY.one vv))
 exact ⟨G, .none, H', e, y, by wtm_at "rv", h⟩
end
section
variable {α : Type}
noncomputable def Dk (f : α → PV) (d : List (Int × α)) : List (PV × PV) := d.map fun p => (PV.int p.1, f p.2)
noncomputable def jz (d : List (Int × α)) (k : Int) : Option α := (d.find? fun p => p.1 = k).map (·.2)
noncomputable def dset (d : List (Int × α)) (k : Int) (x : α) : List (Int × α) := if d.any (fun p => p.1 = k) then d.map (fun p => if p.1 = k then (p.1, x) else p) else d ++ [(k, x)]
noncomputable def KV (W : Wd) (G : Gh) (f : α → PV) : List (Int × α) → List (Int × Value) → Prop
 | [], kvs => kvs = []
 | p :: d, kvs => ∃ v r, kvs = (p.1, v) :: r ∧ RV W G (f p.2) v ∧ KV W G f d r
variable {W : Wd} {G : Gh} {f : α → PV}
theorem KV.keys : ∀ {d : List (Int × α)} {kvs}, KV W G f d kvs → kvs.map ai = d.map ai
 | [], kvs, h => by rw [h]; rfl
 | p :: d, kvs, h => by
  obtain ⟨v, r, e, _, h2⟩ := h
  rw [e, aC, aC, KV.keys h2]
theorem KV.length {d : List (Int × α)} {kvs} (h : KV W G f d kvs) : kvs.length = d.length := by
 have := congrArg eF h.keys
 simpa using this
theorem KV.valueAt : ∀ {d : List (Int × α)} {kvs}, KV W G f d kvs → ∀ k, (jz d k = none → valueAt kvs k = none) ∧ ∀ x, jz d k = some x → ∃ v, valueAt kvs k = some v ∧ RV W G (f x) v
 | [], kvs, h, k => by subst h; exact ⟨fun _ => rfl, fun x e => by cases e⟩
 | p :: d, kvs, h, k => by
  obtain ⟨v, r, e, h1, h2⟩ := h
  subst e
  obtain ⟨i1, i2⟩ := KV.valueAt h2 k
  unfold jz PySem.valueAt at *
  by_cases hk : p.1 = k
  ·refine ⟨fun e => ?_, fun x e => ⟨v, ?_, ?_⟩⟩
   ·simp [di, hk] at e
   ·simp [di, hk]
   ·simp [di, hk] at e; subst e; exact h1
  ·rw [ba (by simpa using hk), ba (by simpa using hk)]
   exact ⟨i1, i2⟩
theorem KV.append : ∀ {d e : List (Int × α)} {kvs lvs}, KV W G f d kvs → KV W G f e lvs → KV W G f (d ++ e) (kvs ++ lvs)
 | [], e, kvs, lvs, h, h' => by subst h; exact h'
 | p :: d, e, kvs, lvs, h, h' => by
  obtain ⟨v, r, e', h1, h2⟩ := h
  subst e'
  simp only [ef, KV]
  exact ⟨v, _, rfl, h1, KV.append h2 h'⟩
theorem KV.mapSet : ∀ {d : List (Int × α)} {kvs}, KV W G f d kvs → ∀ {k : Int} {x : α} {v : Value}, RV W G (f x) v → KV W G f (d.map (fun p => if p.1 = k then (p.1, x) else p)) (kvs.map fun kv => if kv.1 = k then (kv.1, v) else kv)
 | [], kvs, h, k, x, v, hv => by subst h; simp [KV]
 | p :: d, kvs, h, k, x, v, hv => by
  obtain ⟨u, r, e', h1, h2⟩ := h
  subst e'
  simp only [aC, KV]
  by_cases hk : p.1 = k
  ·exact ⟨v, _, by rw [if_pos hk, if_pos hk], by rw [if_pos hk]; exact hv, KV.mapSet h2 hv⟩
  ·exact ⟨u, _, by rw [if_neg hk, if_neg hk], by rw [if_neg hk]; exact h1, KV.mapSet h2 hv⟩
theorem KV.stored {d : List (Int × α)} {kvs} (h : KV W G f d kvs) {k : Int} {x : α} {v : Value} (hv : RV W G (f x) v) : KV W G f (dset d k x) (stored kvs k v) := by
 have he : kvs.any (fun kv => decide (kv.1 = k)) = d.any (fun p => decide (p.1 = k)) := by
  have := congrArg (fun l => l.any fun i => decide (i = k)) h.keys
  simp only [List.any_map] at this
  exact this
 unfold dset ji
 rw [he]
 split
 ·exact h.mapSet hv
 ·exact h.append (⟨v, [], rfl, hv, rfl⟩)
theorem AB : ∀ {d : List (Int × α)} {ds : List DictEntry}, oK W G (Dk f d) ds → ∃ kvs, KV W G f d kvs ∧ Pairs (intKind W.prog W.w) ds kvs ∧ (∀ e ∈ ds, ∃ k : Int, (intKind W.prog W.w).is k e.key = true ∧ e.hash = (intKind W.prog W.w).hash k)
 | [], ds, h => by
  simp only [Dk, cX, oK] at h
  subst h; exact ⟨[], rfl, .nil, fun e he => by cases he⟩
 | p :: d, ds, h => by
  simp only [Dk, aC, oK] at h
  obtain ⟨e, r, e', hh, h1, h2, h3⟩ := h
  obtain ⟨kvs, k1, k2, k3⟩ := AB (d := d) h3
  obtain ⟨t, ht⟩ : ∃ t, e.key = .int p.1 t := by exact h1
  subst e'
  have hi : (intKind W.prog W.w).is p.1 e.key = true := by rw [ht]; exact dz _ _ _ _
  refine ⟨(p.1, e.val) :: kvs, ⟨_, _, rfl, h2, k1⟩, .cons hi rfl k2, fun e' he => ?_⟩
  rcases au.mp he with rfl | he
  ·exact ⟨p.1, hi, by rw [hh]; rfl⟩
  ·exact k3 e' he
theorem AC : ∀ {d : List (Int × α)} {kvs} {ds : List DictEntry}, KV W G f d kvs → Pairs (intKind W.prog W.w) ds kvs → (∀ e ∈ ds, ∃ k : Int, (intKind W.prog W.w).is k e.key = true ∧ e.hash = (intKind W.prog W.w).hash k) → oK W G (Dk f d) ds
 | [], kvs, ds, h, hp, hk => by
  subst h; cases hp; simp [Dk, oK]
 | p :: d, kvs, ds, h, hp, hk => by
  obtain ⟨v, r, e, h1, h2⟩ := h
  subst e
  cases hp with
  | @cons e _ es _ q1 q2 q3 =>
   simp only [Dk, aC, oK]
   obtain ⟨t, ht⟩ := fH q1
   refine ⟨e, es, rfl, ?_, by exact ⟨t, ht⟩, by rw [q2]; exact h1, AC h2 q3 fun e' he => hk e' (.tail _ he)⟩
   obtain ⟨k, k1, k2⟩ := hk e (.head _)
   have : k = p.1 := (intKind W.prog W.w).inj _ _ _ k1 q1
   rw [k2, this]; rfl
theorem qj {d : List (Int × α)} : ((Dk f d).map ai).Nodup ↔ (d.map ai).Nodup := by
 have : (Dk f d).map ai = (d.map ai).map PV.int := by simp [Dk, aW, cI]
 rw [this]
 unfold gh
 rw [bU]
 exact ⟨fun h => h.imp fun q e => q (congrArg _ e), fun h => h.imp fun q e => q (PV.int.inj e)⟩
theorem j8 {h : Heap} {a : Addr} {d : List (Int × α)} {ds : List DictEntry} {m : Nat} (e : h.get? a = some (nS ds m)) (nd : ((Dk f d).map ai).Nodup) (r : oK W G (Dk f d) ds) : ∃ kvs, KV W G f d kvs ∧ h.DictOf (intKind W.prog W.w) a kvs := by
 obtain ⟨kvs, k1, k2, k3⟩ := AB r
 exact ⟨kvs, k1, _, ds.toArray, m, e, ⟨rfl, rfl, rfl⟩, rfl, fun e he => k3 e (by simpa using he), by simpa using k2, by rw [show (kvs.map fun x => x.1) = kvs.map ai from rfl, k1.keys]; exact qj.mp nd⟩
theorem tZ {h : Heap} {a : Addr} {d : List (Int × α)} {kvs} (k : KV W G f d kvs) (x : h.DictOf (intKind W.prog W.w) a kvs) : ∃ ds m, h.get? a = some (nS ds m) ∧ ((Dk f d).map ai).Nodup ∧ oK W G (Dk f d) ds := by
 obtain ⟨o, es, ep, ho, ⟨h1, h2, h3⟩, hd, hk, hp, hn⟩ := x
 refine ⟨es.toList, ep, ?_, qj.mpr (by rw [← k.keys]; exact hn), AC k hp fun e he => hk e (by simpa using he)⟩
 rw [ho]
 obtain ⟨c, dd, dt, sl⟩ := o
 simp only at h1 h2 h3 hd
 subst h1; subst h2; subst h3; subst hd
 rfl
end
section
variable {W : Wd} {n : Nat} {r : jr} {H : HH} {Q : CV} {α : Type} {f : α → PV}
theorem rt {G : Gh} {k : Int} {v : Value} (h : RV W G (.int k) v) : ∃ t, v = .int k t := by exact h
theorem mv {po : PV} {k : Int} {d : List (Int × α)} {x : α} (w : Vw H po (.dct (Dk f d))) (hx : jz d k = some x) (h : Q (f x) H) : oM W n H po (.int k) Q := fun A G s co ci R hr v1 v2 => by
 obtain ⟨a, ds, m, e, e1, ⟨hs, nd⟩, rs⟩ := w.dctAt hr v1
 obtain ⟨t, e2⟩ := rt v2
 subst e; subst e2
 obtain ⟨kvs, k1, k2⟩ := j8 e1 nd rs
 obtain ⟨v, q1, q2⟩ := (k1.valueAt k).2 x hx
 exact ⟨⟨_, _, k2.typeIs, slot_dict_getitem.lookup⟩, wpAny_getItem_of (dz _ _ _ _) k2.mapOf q1 (n8 hr q2 h)⟩
theorem Et {po : PV} {k : Int} {d : List (Int × α)} (w : Vw H po (.dct (Dk f d))) (h : Q (.bool (jz d k).isSome) H) : lA W n H (compareOp .In) (.int k) po Q := fun A G s ci co R hr v2 v1 => by
 obtain ⟨a, ds, m, e, e1, ⟨hs, nd⟩, rs⟩ := w.dctAt hr v1
 obtain ⟨t, e2⟩ := rt v2
 subst e; subst e2
 obtain ⟨kvs, k1, k2⟩ := j8 e1 nd rs
 have : (valueAt kvs k).isSome = (jz d k).isSome := by
  obtain ⟨i1, i2⟩ := k1.valueAt k
  cases q : jz d k with
  | none => rw [i1 q]; rfl
  | some x => obtain ⟨v, q1, _⟩ := i2 x q; rw [q1]; rfl
 exact wpAny_in_of (dz _ _ _ _) hs k2.mapOf (n8 hr (by rw [this]; simp [RV]) h)
theorem AD {po : PV} {k : Int} {d : List (Int × α)} (w : Vw H po (.dct (Dk f d))) (h : Q (match jz d k with | some x => f x | none => .none) H) : mM W n H (fun vs => call (.builtin "dict.get") vs) [po, .int k] Q := fun A G s vs R hr hv => by
 obtain ⟨co, _, rfl, v1, ci, _, rfl, v2, rfl⟩ := hv
 obtain ⟨a, ds, m, e, e1, ⟨hs, nd⟩, rs⟩ := w.dctAt hr v1
 obtain ⟨t, e2⟩ := rt v2
 subst e; subst e2
 obtain ⟨kvs, k1, k2⟩ := j8 e1 nd rs
 refine call_meetsIn gt k2.typeIs iz (F.args_dict_get_2 _ _) (meets_dict_get _ a (dz _ _ k t) hs) ⟨_, k2.mapOf, ?_⟩
 obtain ⟨i1, i2⟩ := k1.valueAt k
 cases q : jz d k with
 | none => rw [q] at h; rw [i1 q]; exact n8 hr (by wtm_at "rv") h
 | some x => rw [q] at h; obtain ⟨v, q1, q2⟩ := i2 x q; rw [q1]; exact n8 hr q2 h
theorem yI {po pd : PV} {k : Int} {d : List (Int × α)} (w : Vw H po (.dct (Dk f d))) (h : Q (match jz d k with | some x => f x | none => pd) H) : mM W n H (fun vs => call (.builtin "dict.get") vs) [po, .int k, pd] Q := fun A G s vs R hr hv => by
 obtain ⟨co, _, rfl, v1, ci, _, rfl, v2, cd, _, rfl, v3, rfl⟩ := hv
 obtain ⟨a, ds, m, e, e1, ⟨hs, nd⟩, rs⟩ := w.dctAt hr v1
 obtain ⟨t, e2⟩ := rt v2
 subst e; subst e2
 obtain ⟨kvs, k1, k2⟩ := j8 e1 nd rs
 refine call_meetsIn gt k2.typeIs iz (F.args_dict_get_3 _ _ _) (meets_dict_get_default _ a (dz _ _ k t) hs cd) ⟨_, k2.mapOf, ?_⟩
 obtain ⟨i1, i2⟩ := k1.valueAt k
 cases q : jz d k with
 | none => rw [q] at h; rw [i1 q]; exact n8 hr v3 h
 | some x => rw [q] at h; obtain ⟨v, q1, q2⟩ := i2 x q; rw [q1]; exact n8 hr q2 h
theorem AE {po : PV} {d : List (Int × α)} (w : Vw H po (.dct (Dk f d))) (hl : d.length ≤ sizeLine) (h : Q (.int d.length) H) : mM W n H (fun vs => call (.builtin "len") vs) [po] Q := fun A G s vs R hr hv => by
 obtain ⟨co, _, rfl, v1, rfl⟩ := hv
 obtain ⟨a, ds, m, e, e1, ⟨hs, nd⟩, rs⟩ := w.dctAt hr v1
 subst e
 obtain ⟨kvs, k1, k2⟩ := j8 e1 nd rs
 have hz : sizeLine = 16777216 := rfl
 exact call_len_dict hs k2 (by rw [k1.length]; lia) (n8 hr (by rw [k1.length]; simp [RV]) h)
theorem sA {po : PV} {xs : List PV} (w : Vw H po (.lst xs)) (hl : xs.length ≤ sizeLine) (h : Q (.int xs.length) H) : mM W n H (fun vs => call (.builtin "len") vs) [po] Q := fun A G s vs R hr hv => by
 obtain ⟨co, _, rfl, v1, rfl⟩ := hv
 obtain ⟨a, ds, m, e, e1, rs⟩ := w.lstAt hr v1
 subst e
 have hz : sizeLine = 16777216 := rfl
 exact call_len_list (jq e1) (by rw [aH, rs.length]; lia) (n8 hr (by rw [aH, rs.length]; simp [RV]) h)
theorem HR.updD {G H H' a es fs} {s : Shared} {h' : Heap} {ds : List DictEntry} {m tk : Nat} (x : HR W G H s) (U : kO a (.dct es) (.dct fs) H H') (hs : dW a s.heap h') (e : h'.get? a = some (nS ds m)) (nd : (fs.map ai).Nodup) (hv : oK W G fs ds) :
  HR W G H' { s with heap := h', toks := tk } ∧ ky [] G s G { s with heap := h', toks := tk } := by
 have ho := (x.slot _ _ U.there).own
 exact x.upd U (fun b ob q hb => (hs.2 b (fun z => hb (by subst z; exact ho))).trans q) ⟨ds, m, e, ho, nd, hv⟩ fun b hb => mr hs ⟨_, e⟩ hb
theorem kI {a : Addr} {k : Int} {v : PV} {x : α} {d : List (Int × α)} {H' : HH} {P : HH → Prop} (hv : v = f x) (U : kO a (.dct (Dk f d)) (.dct (Dk f (dset d k x))) H H') (hl : d.length ≤ sizeLine) (h : P H') : uz W n H (.ref a) (.int k) v P := fun A G s cv co ci R hr vv vo vi => by
 have e0 : co = .ref a := by exact vo
 obtain ⟨t, e2⟩ := rt vi
 obtain ⟨ds, m, e1, ho, nd, rs⟩ := hr.slot _ _ U.there
 subst e0; subst e2; subst hv
 obtain ⟨kvs, k1, k2⟩ := j8 e1 nd rs
 refine gR (dz _ _ _ _) k2 (fun h' hd hs => ?_) (by rw [k1.length]; exact hl)
 obtain ⟨ds', m', q1, q2, q3⟩ := tZ (k1.stored vv) hd
 obtain ⟨y, e⟩ := hr.updD (tk := s.toks + 1) U hs q1 q2 q3
 exact ⟨G, H', e, y, h⟩
theorem vu {pos} (h : ∀ a, Q (.ref a) ((a, .dct []) :: H)) : Ev W n r H (.Dict [] [] pos) Q := fun A env fa G s R hr f => by
 obtain ⟨x, e⟩ := hr.allocO (nS [] 0) (.dct []) (tk := s.toks) ⟨[], 0, aV _ rfl, if_pos rfl, iY, rfl⟩
 show wpAny _ _ (do standAt pos; dictDisplay []) _ _ _
 refine aj (cH ?_)
 show wpAny _ _ (newDict) _ _ _
 exact aj (wpAny_alloc (aB ⟨_, .ref s.heap.objs.size, _, e, x, by wtm_at "rv", h _⟩))
end
section
variable {W : Wd} {n : Nat} {r : jr} {H : HH} {Q : CV}
theorem kY {f : Value → Value → Sem Value} {i j : Int} (h : ∀ A G s t u, lb A n → HR W G H s → wpAny (model W.prog W.w) A (f (.int i t) (.int j u)) (Fin W Q G s) mL s) : lA W n H f (.int i) (.int j) Q := fun A G s u v R hr h1 h2 => by
 obtain ⟨t, e1⟩ := rt h1
 obtain ⟨t', e2⟩ := rt h2
 subst e1; subst e2
 exact h A G s t t' R hr
theorem rT {G} {s : Shared} {i : Int} {t tk} (x : HR W G H s) (h : Q (.int i) H) : Fin W Q G s (.int i t) { s with toks := tk } := n8 x (by wtm_at "rv") h
theorem lq {G} {s : Shared} {b} (x : HR W G H s) (h : Q (.bool b) H) : Fin W Q G s (.bool b) s := so x (by wtm_at "rv") h
theorem AF {i j : Int} (h : Q (.int (i + j)) H) : lA W n H (binaryOp .Add) (.int i) (.int j) Q := kY fun A G s t u R hr => by with_reducible refine PyProof.Rows.add_int ?_; exact rT hr h
theorem xE {i j : Int} (h : Q (.int (i + j)) H) : lA W n H (inplaceOp .Add) (.int i) (.int j) Q := kY fun A G s t u R hr => by with_reducible refine PyProof.Rows.iadd_int ?_; exact rT hr h
theorem AG {i j : Int} (h : Q (.int (i - j)) H) : lA W n H (binaryOp .Sub) (.int i) (.int j) Q := kY fun A G s t u R hr => by with_reducible refine PyProof.Rows.sub_int ?_; exact rT hr h
theorem oR {i j : Int} (hj : j ≠ 0) (h : Q (.int (i.fmod j)) H) : lA W n H (binaryOp .Mod) (.int i) (.int j) Q := kY fun A G s t u R hr => by with_reducible refine PyProof.Rows.mod_int hj ?_; exact rT hr h
theorem AH {i j : Int} (h : Q (.int (fh i j)) H) : lA W n H (binaryOp .BitAnd) (.int i) (.int j) Q := kY fun A G s t u R hr => by with_reducible refine PyProof.Rows.and_int ?_; exact rT hr h
theorem DR {i j : Int} (h : Q (.int (eC i j)) H) : lA W n H (binaryOp .BitOr) (.int i) (.int j) Q := kY fun A G s t u R hr => by with_reducible refine PyProof.Rows.or_int ?_; exact rT hr h
theorem AI {i j : Int} (hj : 0 ≤ j) (h : Q (.int (i.fdiv (2 ^ j.toNat))) H) : lA W n H (binaryOp .RShift) (.int i) (.int j) Q := kY fun A G s t u R hr => by with_reducible refine PyProof.Rows.rshift_int hj ?_; exact rT hr h
theorem Eu {i j : Int} (hj : 0 ≤ j) (hj2 : j ≤ 1000000) (hi : i.natAbs < 2 ^ 64) (h : Q (.int (i * 2 ^ j.toNat)) H) : lA W n H (binaryOp .LShift) (.int i) (.int j) Q := kY fun A G s t u R hr => by with_reducible refine PyProof.Rows.lshift_int_small hj hj2 hi ?_; exact rT hr h
theorem qP {i j : Int} (hj : 0 ≤ j) (hj2 : j ≤ 1000000) (hi : i.natAbs < 2 ^ 64) (h : Q (.int (i ^ j.toNat)) H) : lA W n H (binaryOp .Pow) (.int i) (.int j) Q := kY fun A G s t u R hr => by with_reducible refine PyProof.Rows.pow_int_small hj hj2 hi ?_; exact rT hr h
theorem ly {i j : Int} (hm : IntMulOk i j) (h : Q (.int (i * j)) H) : lA W n H (binaryOp .Mult) (.int i) (.int j) Q := kY fun A G s t u R hr => by with_reducible refine PySem.P.mul_int ?_ hm; exact rT hr h
theorem uB {i j : Int} (hj : j ≠ 0) (hj2 : j.natAbs < 1073741824) (h : Q (.int (i.fdiv j)) H) : lA W n H (binaryOp .FloorDiv) (.int i) (.int j) Q := kY fun A G s t u R hr => by with_reducible refine PyProof.Rows.floordiv_int hj ?_ (.inl (PyProof.noPylong_small hj2)); exact rT hr h
theorem DS {i : Int} (h : Q (.int (-i)) H) : FE W n H (unaryOp .USub) (.int i) Q := fun A G s v R hr h1 => by
 obtain ⟨t, e1⟩ := rt h1
 subst e1
 with_reducible refine PySem.P.neg_int ?_
 exact rT hr h
theorem DT {i j : Int} (h : Q (.bool (decide (i = j))) H) : lA W n H (compareOp .Eq) (.int i) (.int j) Q := kY fun A G s t u R hr => by
 with_reducible refine PySem.P.eq_int ?_
 have : (i == j) = decide (i = j) := by by_cases q : i = j <;> simp [q]
 rw [this]; exact lq hr h
theorem DU {i j : Int} (h : Q (.bool (decide (i ≠ j))) H) : lA W n H (compareOp .NotEq) (.int i) (.int j) Q := kY fun A G s t u R hr => by
 with_reducible refine PySem.P.ne_int ?_
 have : decide (i ≠ j) = (i != j) := by by_cases q : i = j <;> simp [q]
 rw [← this]; exact lq hr h
theorem DV {i j : Int} (h : Q (.bool (decide (i < j))) H) : lA W n H (compareOp .Lt) (.int i) (.int j) Q := kY fun A G s t u R hr => by with_reducible refine gD ?_; exact lq hr h
theorem DW {i j : Int} (h : Q (.bool (decide (i ≤ j))) H) : lA W n H (compareOp .LtE) (.int i) (.int j) Q := kY fun A G s t u R hr => by with_reducible refine PySem.P.le_int ?_; exact lq hr h
theorem DX {i j : Int} (h : Q (.bool (decide (i > j))) H) : lA W n H (compareOp .Gt) (.int i) (.int j) Q := kY fun A G s t u R hr => by with_reducible refine PySem.P.gt_int ?_; exact lq hr h
theorem DY {i j : Int} (h : Q (.bool (decide (i ≥ j))) H) : lA W n H (compareOp .GtE) (.int i) (.int j) Q := kY fun A G s t u R hr => by with_reducible refine PySem.P.ge_int ?_; exact lq hr h
noncomputable def isNone : PV → Bool
 | .none => true
 | _ => false
theorem sB {G : Gh} {p : PV} {v : Value} (h : RV W G p v) : (v == eg) = isNone p := by
 cases p with
 | none => subst h; rfl
 | bool b => subst h; rfl
 | int i => obtain ⟨t, e⟩ := h; subst e; rfl
 | str i => obtain ⟨t, e⟩ := h; subst e; rfl
 | tup xs => obtain ⟨a, _, e, _⟩ := h; subst e; rfl
 | lst xs => obtain ⟨a, _, _, e, _⟩ := h; subst e; rfl
 | dct xs => obtain ⟨a, _, _, e, _⟩ := h; subst e; rfl
 | ins c xs => obtain ⟨a, _, _, _, _, e, _⟩ := h; subst e; rfl
 | rng x y => obtain ⟨a, _, _, _, e, _⟩ := h; subst e; rfl
 | ref a => subst h; rfl
theorem HC {p : PV} (h : Q (.bool (isNone p)) H) : lA W n H (compareOp .Is) p .none Q := fun A G s u v R hr h1 h2 => by
 have : v = .none := by exact h2
 subst this
 show wpAny _ A (do return Value.bool (← isSame u .none)) _ _ s
 rw [isSame_none, sB h1]
 exact aj (aB (aB (lq hr h)))
theorem Cy {p : PV} (h : Q (.bool (!isNone p)) H) : lA W n H (compareOp .IsNot) p .none Q := fun A G s u v R hr h1 h2 => by
 have : v = .none := by exact h2
 subst this
 show wpAny _ A (do return Value.bool (!(← isSame u .none))) _ _ s
 rw [isSame_none, sB h1]
 exact aj (aB (aB (lq hr h)))
theorem wp_release {M A E s vs keep} {P : Unit → Shared → Prop} (h : P () s) : wpAny M A (release vs keep) P E s := fun Γ p _ => by rw [Sem.wp_release]; exact h
theorem wp_operate {M A E s vs} {m : Sem Value} {P : Value → Shared → Prop} (h : wpAny M A m P E s) : wpAny M A (operate vs m) P E s := fun Γ p hΓ => by rw [Sem.wp_operate]; exact h Γ p hΓ
theorem Cz {l op1 m op2 e pos} {Q : CB}
  (h : Ev W n r H l fun a H1 => Ev W n r H1 m fun b H2 => lA W n H2 (compareOp op1) a b fun c H3 => Ah W n H3 c fun t H4 => jA t (Ev W n r H4 e fun d H5 => lA W n H5 (compareOp op2) b d fun c' H6 => Ah W n H6 c' Q) (Q false H4))
  (hm : autoParam (behindInMarks op2 e = false) aR) : Tv W n r H (.Compare l [op1, op2] [m, e] pos) Q := fun A env fa G s R hr f => by
 show wpAny _ _ (do testChain pos (← eval l env) [op1, op2] (markedEach [op1, op2] [m, e] (evalEach [m, e] env))) _ _ _
 refine aj (ay (h A env fa G s R hr f) (fun va s1 h1 => ?_) fun _ _ x => x)
 obtain ⟨G1, a, H1, e1, r1, v1, q1⟩ := h1
 show wpAny _ _ (testChain pos va [op1, op2] [eval m env, markedBehindIn op2 e (eval e env)]) _ _ _
 rw [markedBehindIn_of_false hm]
 ·refine aj (bv (ay (q1 A env fa G1 s1 R r1 (f.ext e1)) (fun vb s2 h2 => ?_) fun _ _ x => x))
  obtain ⟨G2, b, H2, e2, r2, v2, q2⟩ := h2
  refine aj (cH (aj (bv (ay (q2 A G2 s2 va vb R r2 (e2.rv v1) v2) (fun vc s3 h3 => ?_) fun _ _ x => x))))
  obtain ⟨G3, c, H3, e3, r3, v3, q3⟩ := h3
  refine aj (wp_release ?_)
  refine aj (bv (ay (q3 A G3 s3 vc R r3 v3) (fun t s4 h4 => ?_) fun _ _ x => x))
  obtain ⟨G4, H4, e4, r4, q4⟩ := h4
  have e14 := ((e1.trans e2).trans e3).trans e4
  cases t with
  | false => exact aB ⟨G4, H4, e14, r4, q4.2 rfl⟩
  | true =>
   show wpAny _ _ (testChain pos vb [op2] [eval e env]) _ _ _
   refine aj (bv (ay (q4.1 rfl A env fa G4 s4 R r4 (f.ext e14)) (fun vd s5 h5 => ?_) fun _ _ x => x))
   obtain ⟨G5, d, H5, e5, r5, v5, q5⟩ := h5
   refine aj (cH (aj (wp_operate ?_)))
   refine ay (q5 A G5 s5 vb vd R r5 (e5.rv (e4.rv (e3.rv v2))) v5) (fun vc' s6 h6 => ?_) fun _ _ x => x
   obtain ⟨G6, c', H6, e6, r6, v6, q6⟩ := h6
   exact bv (ay (q6 A G6 s6 vc' R r6 v6) (fun t s7 h7 => ((h7.trans e6).trans e5).trans e14) fun _ _ x => x)
end
theorem vx {α β : Type} {f g : α → Option β} : ∀ {l : List α}, (∀ a ∈ l, f a = g a) → l.filterMap f = l.filterMap g
 | [], _ => rfl
 | a :: l, h => by rw [eO, eO, h a (.head _), vx fun b hb => h b (.tail _ hb)]
theorem oF {n : Str} : ∀ {ns : List Str} {vs : List Value}, n ∉ ns → (ns.zip vs).lookup n = none
 | [], _, _ => rfl
 | m :: ns, [], _ => rfl
 | m :: ns, v :: vs, h => by
  rw [cY, dF]
  have : (n == m) = false := beq_eq_false_iff_ne.mpr fun e => h (e ▸ .head _)
  rw [this]; exact oF fun e => h (.tail _ e)
theorem mj : ∀ {ns : List Str} {vs : List Value}, ns.Nodup → vs.length = ns.length → ns.filterMap (fun n => ((ns.zip vs).lookup n).map (n, ·)) = ns.zip vs
 | [], vs, _, _ => by simp
 | n :: ns, [], _, h => by simp at h
 | n :: ns, v :: vs, hn, h => by
  rw [aY] at hn
  have ih := mj (ns := ns) (vs := vs) hn.2 (by simpa using h)
  rw [eO]
  simp only [cY, dF, beq_self_eq_true, gu]
  congr 1
  refine (vx fun m hm => ?_).trans ih
  have : (m == n) = false := beq_eq_false_iff_ne.mpr fun e => hn.1 (e ▸ hm)
  rw [this]
theorem pS : ∀ {ns : List Str} {vs : List Value}, vs.length = ns.length → ∀ n ∈ ns, ((ns.zip vs).lookup n).isSome = true
 | [], _, _, n, h => by cases h
 | m :: ns, [], h, _, _ => by simp at h
 | m :: ns, v :: vs, h, n, hn => by
  rw [cY, dF]
  cases e : n == m with
  | true => rfl
  | false =>
   rcases au.mp hn with rfl | hn
   ·simp at e
   ·exact pS (by simpa using h) n hn
theorem rx {ns : List Str} {vs : List Value} (hl : vs.length = ns.length) : (ns.filter fun n => ((ns.zip vs).lookup n).isNone) = [] := by
 rw [cw]
 intro n hn'
 have := pS hl n hn'
 rw [cN]
 intro q; rw [q] at this; cases this
theorem tK {α β : Type} {M : Model} {A : Around} {E : Value → Shared → Prop} {s : Shared} {l : List α} {i : β} {f : α → β → Sem (ForInStep β)} {g : β → α → β} {Q : β → Shared → Prop} (e : ∀ x r, f x r = pure (.yield (g r x))) (h : Q (l.foldl g i) s) : wpAny M A (forIn l i f) Q E s := by
 induction l generalizing i with
 | nil => exact aB h
 | cons x l ih =>
  rw [eI, e]
  exact aj (aB (ih h))
noncomputable def pT (N : List Str) (vals D : List Value) : List (Str × Value) := (List.zip (iA (N.length - (D.drop (D.length - N.length)).length) N) (D.drop (D.length - N.length))).foldl (fun S (x : Str × Value) => if (S.lookup x.1).isNone = true then S ++ [(x.1, x.2)] else S) (N.zip vals)
theorem sC {s : Shared} {fd : FuncData} {N : List Str} {ps : List Arg} {vals D : List Value} {es : List Expr} {bs : List (Str × Value)} (hp : fd.params = ⟨[], ps, none, [], [], none, es⟩) (hN : ps.map (·.arg) = N)
  (hd : ∀ {M : Model} {A : Around} {E : Value → Shared → Prop} {Q : Option (Array Value) → Shared → Prop}, (∀ o, (o.getD #[]).toList = D → Q o s) → wpAny M A (seqItems? fd.defaults) Q E s) (hl : vals.length ≤ N.length)
  (hm : (iB (N.length - (D.drop (D.length - N.length)).length) N).filter (fun n => ((N.zip vals).lookup n).isNone) = [])
  (hz : N.filterMap (fun n => ((pT N vals D).lookup n).map (n, ·)) = bs) : BindsTo s fd ⟨vals, []⟩ bs := by
 intro M A E Q hQ
 subst hN
 unfold bindArgs
 rw [hp]
 refine aj (aB (aj (hd fun o ho => ?_)))
 subst ho
 refine bM (decide_eq_false fun q => absurd (of_decide_eq_true (cn.mp q).1) (dN.mpr hl)) ?_
 refine bM (decide_eq_false fun q => fU ((congrArg (fun l => !List.isEmpty l) hm).symm.trans q)) ?_
 refine aj (tK (g := fun S (x : Str × Value) => if (S.lookup x.1).isNone = true then S ++ [(x.1, x.2)] else S) (fun x r => ?_) ?_)
 ·show (if (r.lookup x.1).isNone = true then _ else _) = _
  split <;> rfl
 refine aj (aB ?_)
 refine bM rfl (aB ?_)
 show Q (iZ (fun n => i4 (fun x => (n, x)) (List.lookup n (pT (ps.map (·.arg)) vals _))) (ps.map (·.arg) ++ [])) s
 rw [bl, hz]
 exact hQ
theorem qk {s : Shared} {da : Addr} {o : Obj} {dv : Value} {m : Nat} {d : Value} (hd : d = .ref da) (ho : s.heap.get? da = some o) (hod : o.data = .seq #[dv] m) {M : Model} {A : Around} {E : Value → Shared → Prop} {Q : Option (Array Value) → Shared → Prop} (h : ∀ o, (o.getD #[]).toList = [dv] → Q o s) : wpAny M A (seqItems? d) Q E s := by
 rw [hd]; exact cS ho hod (h _ rfl)
theorem wD {s : Shared} {fd : FuncData} {ps : List Arg} {vals : List Value} {es : List Expr} (hp : fd.params = ⟨[], ps, none, [], [], none, es⟩) (hd : fd.defaults = .none) (hn : (ps.map (·.arg)).Nodup) (hl : vals.length = ps.length) :
  BindsTo s fd ⟨vals, []⟩ ((ps.map (·.arg)).zip vals) := by
 generalize hN : ps.map (·.arg) = N at hn
 have hl' : vals.length = N.length := by rw [← hN, aa]; exact hl
 have e : iA (([] : List Value).length - N.length) ([] : List Value) = [] := List.drop_nil
 refine sC (D := []) hp hN (fun h => by rw [hd]; exact aB (h _ rfl)) (eT hl') ?_ ?_
 ·rw [e]; exact (congrArg _ aZ).trans (rx hl')
 ·unfold pT
  rw [e, List.zip_nil_right]
  exact mj hn hl'
theorem t5 {α : Type} {ns : List α} {x : α} {d : Value} : iA (([d] : List Value).length - (ns ++ [x]).length) [d] = [d] ∧ iB ((ns ++ [x]).length - ([d] : List Value).length) (ns ++ [x]) = ns ∧ iA ((ns ++ [x]).length - ([d] : List Value).length) (ns ++ [x]) = [x] := by
 refine ⟨?_, ?_, ?_⟩ <;> simp
theorem xF {α : Type} {N : List α} (h : 0 < N.length) : ∃ ns x, N = ns ++ [x] := by
 rcases cA N with e | ⟨ns, x, e⟩
 ·rw [e] at h; cases h
 ·exact ⟨ns, x, by rw [e, cB]⟩
theorem yJ {s : Shared} {fd : FuncData} {ps : List Arg} {vals : List Value} {es : List Expr} {da : Addr} {dv : Value} {m : Nat} {o : Obj} (hp : fd.params = ⟨[], ps, none, [], [], none, es⟩) (hd : fd.defaults = .ref da) (ho : s.heap.get? da = some o) (hod : o.data = .seq #[dv] m)
  (hn : (ps.map (·.arg)).Nodup) (hl : vals.length + 1 = ps.length) : BindsTo s fd ⟨vals, []⟩ ((ps.map (·.arg)).zip (vals ++ [dv])) := by
 generalize hN : ps.map (·.arg) = N at hn
 have hl' : vals.length + 1 = N.length := by rw [← hN, aa]; exact hl
 obtain ⟨ns, x, rfl⟩ := xF (N := N) (by rw [← hl']; exact Nat.succ_pos _)
 have hl2 : vals.length = ns.length := ic (hl'.trans ce)
 obtain ⟨hn1, _, hn2⟩ := du.mp hn
 have hx : x ∉ ns := fun h => hn2 x h x (.head _) rfl
 have hz1 : (ns ++ [x]).zip vals = ns.zip vals := by
  have := gv (l₁ := ns) (r₁ := [x]) (l₂ := vals) (r₂ := []) hl2.symm
  rw [bl] at this; rw [this]; exact bl _
 obtain ⟨t1, t2, t3⟩ := t5 (ns := ns) (x := x) (d := dv)
 refine sC (D := [dv]) hp hN (fun h => qk hd ho hod h) (bj (cW _) (eT hl')) ?_ ?_
 ·rw [t1, t2, hz1]; exact rx hl2
 ·have hS : pT (ns ++ [x]) vals [dv] = (ns ++ [x]).zip (vals ++ [dv]) := by
   unfold pT
   rw [t1, t3, hz1, gv hl2.symm]
   show (if ((ns.zip vals).lookup x).isNone = true then _ else _) = _
   rw [oF hx]; rfl
  rw [hS]
  exact mj hn (by rw [ce]; exact hl')
theorem yK {s : Shared} {fd : FuncData} {ps : List Arg} {vals : List Value} {es : List Expr} {da : Addr} {dv : Value} {m : Nat} {o : Obj} (hp : fd.params = ⟨[], ps, none, [], [], none, es⟩) (hd : fd.defaults = .ref da) (ho : s.heap.get? da = some o) (hod : o.data = .seq #[dv] m)
  (hn : (ps.map (·.arg)).Nodup) (hl : vals.length = ps.length) (hpos : 0 < ps.length) : BindsTo s fd ⟨vals, []⟩ ((ps.map (·.arg)).zip vals) := by
 generalize hN : ps.map (·.arg) = N at hn
 have hl' : vals.length = N.length := by rw [← hN, aa]; exact hl
 obtain ⟨ns, x, rfl⟩ := xF (N := N) (by rw [← hl', hl]; exact hpos)
 have hs := pS hl'
 obtain ⟨t1, t2, t3⟩ := t5 (ns := ns) (x := x) (d := dv)
 refine sC (D := [dv]) hp hN (fun h => qk hd ho hod h) (eT hl') ?_ ?_
 ·rw [t1, t2, cw]
  intro a ha q
  have := hs a (bu _ ha)
  rw [cN.mp q] at this; cases this
 ·have hS : pT (ns ++ [x]) vals [dv] = (ns ++ [x]).zip vals := by
   unfold pT
   rw [t1, t3]
   show (if (((ns ++ [x]).zip vals).lookup x).isNone = true then _ else _) = _
   have := hs x (cy _ (.head _))
   cases q : ((ns ++ [x]).zip vals).lookup x with
   | none => rw [q] at this; cases this
   | some v => rfl
  rw [hS]
  exact mj hn hl'
theorem rz {kf : Str → Option NameKind} {x : Str} : ∀ {bs : List (Str × Value)} {m : Str → Option Value}, x ∉ bs.map ai → bindL kf bs m x = m x
 | [], _, _ => rfl
 | (y, v) :: bs, m, h => by
  rw [aC, au, not_or] at h
  unfold bindL
  rw [rz h.2]
  split
  ·exact if_neg h.1
  ·rfl
theorem rA {kf : Str → Option NameKind} {x : Str} : ∀ {bs : List (Str × Value)} {m : Str → Option Value}, x ∉ bs.map ai → bindC kf bs m x = m x
 | [], _, _ => rfl
 | (y, v) :: bs, m, h => by
  rw [aC, au, not_or] at h
  unfold bindC
  rw [rA h.2]
  split
  ·rfl
  ·exact if_neg h.1
theorem t6 {kf : Str → Option NameKind} {x : Str} {v : Value} (hk : kf x = some .local) : ∀ {bs : List (Str × Value)} {m : Str → Option Value}, (bs.map ai).Nodup → (x, v) ∈ bs → bindL kf bs m x = some v
 | (y, w) :: bs, m, hn, hm => by
  rw [aC, aY] at hn
  unfold bindL
  rcases au.mp hm with e | hm
  ·cases e
   rw [rz hn.1, if_pos hk]; exact if_pos rfl
  ·exact t6 hk hn.2 hm
theorem t7 {kf : Str → Option NameKind} {x : Str} {v : Value} (hk : kf x = some .cell) : ∀ {bs : List (Str × Value)} {m : Str → Option Value}, (bs.map ai).Nodup → (x, v) ∈ bs → bindC kf bs m x = some v
 | (y, w) :: bs, m, hn, hm => by
  rw [aC, aY] at hn
  unfold bindC
  rcases au.mp hm with e | hm
  ·cases e
   rw [rA hn.1, if_neg (by rw [hk]; simp)]; exact if_pos rfl
  ·exact t7 hk hn.2 hm
inductive lU : List (Str × NameKind) → List (Str × PV) → jr → Prop
 | nil {bs} : lU [] bs []
 | glb {x ns bs r} : lU ns bs r → lU ((x, .globalImplicit) :: ns) bs ((x, .glb) :: r)
 | parL {x ns bs r p} : (x, p) ∈ bs → lU ns bs r → lU ((x, .local) :: ns) bs ((x, .loc false (some p)) :: r)
 | parC {x ns bs r p} : (x, p) ∈ bs → lU ns bs r → lU ((x, .cell) :: ns) bs ((x, .loc true (some p)) :: r)
 | locL {x ns bs r} : lU ns bs r → lU ((x, .local) :: ns) bs ((x, .loc false none) :: r)
 | locC {x ns bs r} : lU ns bs r → lU ((x, .cell) :: ns) bs ((x, .loc true none) :: r)
theorem lU.keys {ns bs r} (h : lU ns bs r) : r.map ai = ns.map ai := by
 induction h with
 | nil => rfl
 | glb _ ih => simp only [aC, ih]
 | parL _ _ ih => simp only [aC, ih]
 | parC _ _ ih => simp only [aC, ih]
 | locL _ ih => simp only [aC, ih]
 | locC _ ih => simp only [aC, ih]
inductive uC (ns : List (Str × NameKind)) (bs : List (Str × PV)) (x : Str) (b : Bd) : Prop
 | g (e : b = .glb) (h : (x, fW) ∈ ns)
 | l (c : Bool) (ov : Option PV) (e : b = .loc c ov) (k : (c = false ∧ (x, NameKind.local) ∈ ns) ∨ (c = true ∧ (x, fN) ∈ ns)) (p : ∀ p, ov = some p → (x, p) ∈ bs)
theorem uC.tl {ns bs x b p} (h : uC ns bs x b) : uC (p :: ns) bs x b := by
 cases h with
 | g e h => exact .g e (.tail _ h)
 | l c ov e k q => exact .l c ov e (k.imp (fun h => ⟨h.1, .tail _ h.2⟩) (fun h => ⟨h.1, .tail _ h.2⟩)) q
theorem lU.mem {ns bs r} (h : lU ns bs r) {x b} (hm : (x, b) ∈ r) : uC ns bs x b := by
 induction h with
 | nil => cases hm
 | glb _ ih => cases hm with
  | head => exact .g rfl (.head _)
  | tail _ hm => exact (ih hm).tl
 | parL hb _ ih => cases hm with
  | head => exact .l _ _ rfl (.inl ⟨rfl, .head _⟩) fun p e => by cases e; exact hb
  | tail _ hm => exact (ih hm).tl
 | parC hb _ ih => cases hm with
  | head => exact .l _ _ rfl (.inr ⟨rfl, .head _⟩) fun p e => by cases e; exact hb
  | tail _ hm => exact (ih hm).tl
 | locL _ ih => cases hm with
  | head => exact .l _ _ rfl (.inl ⟨rfl, .head _⟩) nofun
  | tail _ hm => exact (ih hm).tl
 | locC _ ih => cases hm with
  | head => exact .l _ _ rfl (.inr ⟨rfl, .head _⟩) nofun
  | tail _ hm => exact (ih hm).tl
theorem jC {α : Type} {ns : List (Str × α)} (hn : (ns.map ai).Nodup) {x : Str} {k : α} (h : (x, k) ∈ ns) : ns.lookup x = some k := by
 induction ns with
 | nil => cases h
 | cons p r ih =>
  rw [aC, aY] at hn
  obtain ⟨y, k'⟩ := p
  rw [dF]
  rcases au.mp h with e | h'
  ·cases e; simp
  ·have : (x == y) = false := beq_eq_false_iff_ne.mpr fun e => hn.1 (az.mpr ⟨_, h', e⟩)
   rw [this]; exact ih hn.2 h'
theorem pU : ∀ (names : List (Str × NameKind)) (n : Nat) (acc : List (Str × Addr)), (names.map ai).Nodup → (acc.map ai).Nodup → (∀ x ∈ names.map ai, x ∉ acc.map ai) → ((cellsFrom n names acc).map ai).Nodup
 | [], n, acc, _, h, _ => h
 | (y, k) :: r, n, acc, h1, h2, h3 => by
  rw [aC, aY] at h1
  unfold cellsFrom
  split
  ·refine pU r (n + 1) _ h1.2 (by rw [aC, aY]; exact ⟨h3 y (.head _), h2⟩) fun x hx hq => ?_
   rw [aC] at hq
   rcases au.mp hq with e | hq
   ·exact h1.1 (e ▸ hx)
   ·exact h3 x (.tail _ hx) hq
  ·exact pU r n acc h1.2 h2 fun x hx => h3 x (.tail _ hx)
theorem rB {names : List (Str × NameKind)} {n : Nat} (h : (names.map ai).Nodup) : ((cellsFrom n names []).map ai).Nodup := pU names n [] h (by simp) (fun _ _ => by simp)
theorem wE {W G} : ∀ {ns : List Str} {ps : List PV} {vs : List Value}, jY W G ps vs → ∀ {x p}, (x, p) ∈ ns.zip ps → ∃ v, (x, v) ∈ ns.zip vs ∧ RV W G p v
 | [], ps, vs, _, x, p, h => by simp at h
 | n :: ns, [], vs, _, x, p, h => by simp at h
 | n :: ns, q :: ps, vs, hv, x, p, h => by
  obtain ⟨v, r, e, h1, h2⟩ := hv
  subst e
  rw [cY] at h ⊢
  rcases au.mp h with e | h
  ·cases e; exact ⟨v, .head _, h1⟩
  ·obtain ⟨w, q1, q2⟩ := wE h2 h
   exact ⟨w, .tail _ q1, q2⟩
theorem lw : ∀ (names : List (Str × NameKind)) (n : Nat) (acc : List (Str × Addr)) {x : Str} {c : Addr}, (x, c) ∈ cellsFrom n names acc → (x, c) ∈ acc ∨ n ≤ c
 | [], n, acc, x, c, h => .inl h
 | (y, k) :: r, n, acc, x, c, h => by
  unfold cellsFrom at h
  split at h
  ·rcases lw r (n + 1) _ h with h | h
   ·rcases au.mp h with e | h
    ·cases e; exact .inr (aU _)
    ·exact .inl h
   ·exact .inr (by exact J0 9 h)
  ·exact lw r n acc h
noncomputable def vy (Q : CV) : jH := fun fl _ H' => match fl with
 | .ret p => Q p H'
 | .next => Q .none H'
 | _ => False
theorem lb.deeper {A n env} (x : lb A (n + 1)) : lb (A.deeper env) n := ⟨x.hd, by have := x.depth; show A.depth + 1 + _ < _; exact J6 8 this, by have := x.units; show A.units + 3 + _ + _ < _; exact J13 18 this⟩
theorem qQ {W : Wd} {n : Nat} {H : HH} {Q : CV} {f : Addr} {name qual : Str} {ps : List Arg} {es : List Expr} {body : List Stmt} {scope : Scope} {kV doc pm cdv ct oc : Value} {an od : Option Addr} {osl : Array (Option Value)} {dV : Value} {pvs pvs0 : List PV} {r0 : jr}
  (ho : W.K.lookup f = some ⟨oc, od, .func (fnX name qual ⟨[], ps, none, [], [], none, es⟩ body scope [] dV kV doc pm an cdv ct), osl⟩) (hcd : codeIn W.K cdv qual = true)
  (hn : (ps.map (·.arg)).Nodup) (hnn : (scope.names.map ai).Nodup) (hkd : ((ps.map (·.arg)).all fun y => scope.names.lookup y == some .local || scope.names.lookup y == some .cell) = true)
  (hl : pvs.length = ps.length)
  (hB : ∀ G s vs0, HR W G H s → jY W G pvs0 vs0 → ∃ vs, jY W G pvs vs ∧ BindsTo s (fnX name qual ⟨[], ps, none, [], [], none, es⟩ body scope [] dV kV doc pm an cdv ct) ⟨vs0, []⟩ ((ps.map (·.arg)).zip vs)) (hr0 : lU scope.names ((ps.map (·.arg)).zip pvs) r0) (h : lj W n r0 H body (vy Q))
  (hk : autoParam (scope.kind = .function) aF) (hco : autoParam (scope.isCoroutine = false) aF) (hgen : autoParam (scope.isGenerator = false) aF) :
  jX W (n + 1) H (.ref f) pvs0 Q := fun A G s vs0 R hr hv0 => by
 obtain ⟨vs, hv, hbnd⟩ := hB G s vs0 hr hv0
 have hlv : vs.length = ps.length := by rw [hv.length, hl]
 have hcr := codeRec_of (W.inK.keeps hr.base) hcd
 refine codeAny_call_function R.dlt (hr.base _ _ (W.inK _ _ ho)) rfl hco hgen rfl hcr ?_
 refine hbnd _ _ _ _ ?_
 have hkk : ∀ n, ∀ x ∈ (ps.map (·.arg)).zip vs, scope.names.lookup x.1 = some .local ∨ (scope.names.lookup x.1 = some .cell ∧ ((cellsFrom n scope.names []).lookup x.1).isSome = true) :=
  kindsX (by
   rw [a8] at hkd ⊢
   intro x hx
   exact hkd x.1 (List.of_mem_zip hx).1)
 refine wpAny_newFunctionEnv_cells hk (hkk _) fun env he s' x => ?_
 subst he
 refine ⟨(W.nolimit.keeps hr.base).keeps x.toInCall.keep, codeAny_func ?_⟩
 obtain ⟨h₁, tk, rfl, hk1⟩ := x.done
 have hns := x.toInCall.ns
 have hsz : s.heap.objs.size < h₁.objs.size := bq hns.choose_spec.choose_spec.choose_spec.1
 have hns' : h₁.Ns s.heap.objs.size _ := hns
 have hr1 : HR W G H { s with heap := h₁, toks := tk } := hr.kept (dr := s.drawn) hk1
 have he1 : ky [] G s G { s with heap := h₁, toks := tk } := ky.kept (dr := s.drawn) hk1
 generalize hE : newEnv scope s.heap.objs.size mainGlobals (cellsFrom (s.heap.objs.size + 1) scope.names []) (qual ++ ".<locals>.") (some f) cdv none builtinsNs = env at *
 have hsc : env.scope = scope := by rw [← hE]; rfl
 have hL : env.locals = s.heap.objs.size := by rw [← hE]; rfl
 have hC : env.cells = cellsFrom (s.heap.objs.size + 1) scope.names [] := by rw [← hE]; rfl
 have hkof : ∀ y, env.kindOf y = scope.names.lookup y := fun y => by unfold Env.kindOf; rw [hsc]
 have hzk : ((ps.map (·.arg)).zip vs).map ai = ps.map (·.arg) := by
  rw [List.map_fst_zip]; simp [hlv]
 let fa : List Addr := env.locals :: env.cells.map bB
 have hfr : FR W env fa r0 G h₁ := by
  refine { kind := by rw [hsc]; exact hk, glo := by rw [← hE]; rfl, blt := by rw [← hE]; rfl, nodup := by rw [show (r0.map fun x => x.1) = r0.map ai from rfl, hr0.keys]; exact hnn, ns := ⟨_, hns, fun y yb v hy hkl => ?_⟩, glb := fun y hy => ?_, loc := fun y yb ov hy => ?_, fre := fun y w hy => ?_, locf := .head _, ownf := fun a ha => ?_, apart := fun y z c h1 h2 => ?_ }
  ·rcases hr0.mem hy with ⟨q, _⟩ | ⟨_, ov, q, _, hp⟩
   ·cases q
   ·cases q
    obtain ⟨cv, q1, q2⟩ := wE hv (hp v rfl)
    exact ⟨cv, t6 hkl (by rw [hzk]; exact hn) q1, q2⟩
  ·rcases hr0.mem hy with ⟨_, q⟩ | ⟨_, ov, q, _⟩
   ·rw [hkof]; exact jC hnn q
   ·cases q
  ·rcases hr0.mem hy with ⟨q, _⟩ | ⟨_, ov', q, hq, hp⟩
   ·cases q
   ·cases q
    rcases hq with ⟨hb, hq⟩ | ⟨hb, hq⟩
    ·left; refine ⟨hb, ?_⟩; rw [hkof]; exact jC hnn hq
    ·right
     have hkc : env.kindOf y = some .cell := by rw [hkof]; exact jC hnn hq
     have hsome : (env.cells.lookup y).isSome = true := by
      rw [hC]; exact cellsFrom_some _ _ _ (.inl (jC hnn hq))
     obtain ⟨c, hc⟩ := fO.mp hsome
     refine ⟨hb, hkc, c, _, hc, x.cell y c hc, .tail _ (aO (f := bB) (mem_of_lookup hc)), fun v e => ?_⟩
     obtain ⟨cv, q1, q2⟩ := wE hv (hp v e)
     exact ⟨cv, t7 hkc (by rw [hzk]; exact hn) q1, q2⟩
  ·rcases hr0.mem hy with ⟨q, _⟩ | ⟨_, ov', q, _⟩ <;> cases q
  ·have hge : s.heap.objs.size ≤ a ∧ k9 h₁ a := by
    rcases au.mp ha with e | ha
    ·rw [e, hL]; exact ⟨aU _, sq hns'⟩
    ·obtain ⟨⟨y, c⟩, hm, rfl⟩ := az.mp ha
     refine ⟨?_, ?_⟩
     ·rw [hC] at hm
      rcases lw _ _ _ hm with hm | hm
      ·cases hm
      ·exact bj (cW _) hm
     ·have hnd : (env.cells.map ai).Nodup := by
       rw [hC]; exact rB hnn
      exact nT (x.cell y c (jC hnd hm))
   exact ⟨hr.noOwn (ke hge.1), hr.noG (ke hge.1), hr.noB (ke hge.1), hge.2⟩
  ·exact name_of_addr x.apart (mem_of_lookup h1) (mem_of_lookup h2)
 refine ay (h (A.deeper env) env fa G _ R.deeper hr1 hfr) (fun fl s2 h2 => ?_) fun _ _ q => q.elim
 obtain ⟨G2, fl2, r2, H2, e2, hr2, f2, hfl, q2⟩ := h2
 have e3 : ky [] G s G2 s2 := by
  refine ⟨e2.gle, fun b hb => e2.own b (he1.there b hb), fun b hb => e2.gnew b (he1.there b hb), fun b o e ho _ => e2.keep b o (hk1 b o e) ho fun hf => ?_, fun b hb => e2.there b (he1.there b hb)⟩
  have := bq e
  rcases au.mp hf with q | hf
  ·rw [q, hL] at this; exact dm _ this
  ·obtain ⟨⟨y, c⟩, hm, rfl⟩ := az.mp hf
   rw [hC] at hm
   rcases lw _ _ _ hm with hm | hm
   ·cases hm
   ·exact absurd (cf this (bj (cW _) hm)) (dm _)
 cases fl2 with
 | next => cases hfl; exact ⟨_, rfl, G2, .none, H2, e3, hr2, by wtm_at "rv", q2⟩
 | brk => exact q2.elim
 | cont => exact q2.elim
 | ret p => obtain ⟨v, rfl, hv2⟩ := hfl; exact ⟨_, rfl, G2, p, H2, e3, hr2, hv2, q2⟩
theorem AJ {W : Wd} {n : Nat} {H : HH} {Q : CV} {f : Addr} {name qual : Str} {ps : List Arg} {es : List Expr} {body : List Stmt} {scope : Scope} {kV doc pm cdv ct oc : Value} {an od : Option Addr} {osl : Array (Option Value)} {pvs : List PV} {r0 : jr}
  (ho : W.K.lookup f = some ⟨oc, od, .func (fnX name qual ⟨[], ps, none, [], [], none, es⟩ body scope [] .none kV doc pm an cdv ct), osl⟩) (hcd : codeIn W.K cdv qual = true)
  (hn : (ps.map (·.arg)).Nodup) (hnn : (scope.names.map ai).Nodup) (hkd : ((ps.map (·.arg)).all fun y => scope.names.lookup y == some .local || scope.names.lookup y == some .cell) = true)
  (hl : pvs.length = ps.length) (hr0 : lU scope.names ((ps.map (·.arg)).zip pvs) r0) (h : lj W n r0 H body (vy Q))
  (hk : autoParam (scope.kind = .function) aF) (hco : autoParam (scope.isCoroutine = false) aF) (hgen : autoParam (scope.isGenerator = false) aF) :
  jX W (n + 1) H (.ref f) pvs Q :=
 qQ ho hcd hn hnn hkd hl (fun G s vs hr hv => ⟨vs, hv, wD (s := s) rfl rfl hn (by rw [hv.length, hl])⟩) hr0 h hk hco hgen
section
variable {W : Wd} {n : Nat} {r : jr} {H : HH} {Q : CV}
theorem kK {M A E s env} {f : Value} {es : List Expr} {P : Args → Shared → Prop} (h : wpAny M A (spliced (pL es env)) (fun vs s' => P ⟨vs, []⟩ s') E s) : wpAny M A (evalArgs f true (pL es env) []) P E s := by
 cases es with
 | nil =>
  unfold evalArgs
  show wpAny M A (spliced [] >>= _) P E s
  refine aj (ay h (fun vs s' h' => ?_) fun _ _ x => x)
  refine aj (aB ?_)
  refine bv ?_
  exact aj (aB (aj (aB (aB h'))))
 | cons e es => exact Calls.evalArgs_plain h
noncomputable def Ew (W : Wd) (x : Str) (f : Addr) : Prop := W.mg x = some (.ref f) ∧ ∃ o fd, W.B0.get? f = some o ∧ o.data = .func fd
noncomputable def HD (W : Wd) (f : Addr) : Prop := ∃ o fd, W.B0.get? f = some o ∧ o.data = .func fd
theorem mw {M A E s env} {x : Str} {p pos : Pos} {args : List Expr} {P : Value → Shared → Prop} (hs : args.all jE = true)
  (h : wpAny M A (eval (.Name x p) env) (fun f s₁ => wpAny M A (callWith pos f [] (pL args env) []) P E s₁) E s) : wpAny M A (eval (.Call (.Name x p) args [] pos) env) P E s :=
 PyProof.Rows.Call_Name (nU hs) h
noncomputable abbrev FJ (W : Wd) (n : Nat) (f : Value) (Q : CV) : CL := fun ps H => jX W n H f ps Q
noncomputable abbrev xH (W : Wd) (n : Nat) (f : Value) (Q : CV) : CL := fun ps H => mM W n H (fun vs => call f vs) ps Q
theorem vz {x p args pos f} (hm : (x, Bd.glb) ∈ r) (hf : Ew W x f) (hs : args.all jE = true) (h : nR W n r H args (FJ W n (.ref f) Q)) (hd : autoParam ((x == ("__debug__" : Str)) = false) aD) :
  Ev W n r H (.Call (.Name x p) args [] pos) Q := fun A env fa G s R hr fr => by
 obtain ⟨hmg, o, fd, hb, hfd⟩ := hf
 refine mw hs (pn hr fr hm hmg ?_ p hd)
 refine dR (o := o) (fd := fd) (kK (ay (h A env fa G s R hr fr) (fun vs s1 h1 => ?_) fun _ _ x => x))
 obtain ⟨G1, ps, H1, e1, r1, v1, q1⟩ := h1
 exact ⟨⟨r1.base _ _ hb, hfd⟩, ay (q1.toN A G1 s1 vs R r1 v1) (fun _ _ h => h.trans e1) fun _ _ x => x⟩
theorem nX {x p args pos id} (hm : (x, Bd.glb) ∈ r) (hv : W.mg x = none) (hb : bootBuiltins x = some (.builtin id)) (hs : args.all jE = true) (h : nR W n r H args (xH W n (.builtin id) Q)) (hne : x ≠ "__name__") (hd : autoParam ((x == ("__debug__" : Str)) = false) aD) :
  Ev W n r H (.Call (.Name x p) args [] pos) Q := fun A env fa G s R hr fr => by
 refine mw hs (pR hr fr hm hv hb ?_ p hne hd)
 refine gi nV (kK (ay (h A env fa G s R hr fr) (fun vs s1 h1 => ?_) fun _ _ x => x))
 obtain ⟨G1, ps, H1, e1, r1, v1, q1⟩ := h1
 exact ay (q1 A G1 s1 vs R r1 v1) (fun _ _ h => h.trans e1) fun _ _ x => x
theorem nY {x p args pos T} (hm : (x, Bd.glb) ∈ r) (hv : W.mg x = none) (hb : bootBuiltins x = some (.type T)) (hs : args.all jE = true) (h : nR W n r H args (xH W n (.type T) Q)) (hne : x ≠ "__name__") (hd : autoParam ((x == ("__debug__" : Str)) = false) aD) :
  Ev W n r H (.Call (.Name x p) args [] pos) Q := fun A env fa G s R hr fr => by
 refine mw hs (pR hr fr hm hv hb ?_ p hne hd)
 refine fi nV (kK (ay (h A env fa G s R hr fr) (fun vs s1 h1 => ?_) fun _ _ x => x))
 obtain ⟨G1, ps, H1, e1, r1, v1, q1⟩ := h1
 exact ay (q1 A G1 s1 vs R r1 v1) (fun _ _ h => h.trans e1) fun _ _ x => x
theorem sD {x p args pos C} (hm : (x, Bd.glb) ∈ r) (hmg : W.mg x = some (.ref C)) (hk : keepIn W.K (.ref C) = true) (hs : args.all jE = true) (h : nR W n r H args (FJ W n (.ref C) Q)) (hd : autoParam ((x == ("__debug__" : Str)) = false) aD) :
  Ev W n r H (.Call (.Name x p) args [] pos) Q := fun A env fa G s R hr fr => by
 refine mw hs (pn hr fr hm hmg ?_ p hd)
 refine callWith_of (P := W.K.In) (by rw [nV]; rfl) (keeps_K hk) (kK (ay (h A env fa G s R hr fr) (fun vs s1 h1 => ?_) fun _ _ x => x))
 obtain ⟨G1, ps, H1, e1, r1, v1, q1⟩ := h1
 exact ⟨W.inK.keeps r1.base, ay (q1.toN A G1 s1 vs R r1 v1) (fun _ _ h => h.trans e1) fun _ _ x => x⟩
theorem ql {c : Str} {C fI : Addr} {ps : List PV} (hmg : W.mg c = some (.ref C)) (hm : makesIn W.K C = true) (hi : findIn W.K (.ref C) "__init__" = some (some (.ref fI))) (hf : typeIn W.K (.ref fI) = some (.type "function"))
  (h : ∀ a, jX W n ((a, .ins c []) :: H) (.ref fI) (.ref a :: ps) fun p H1 => p = .none ∧ Q (.ref a) H1) : jX W (n + 1) H (.ref C) ps Q := fun A G s vs R hr hv => by
 obtain ⟨hh, g, d, t, os⟩ := s
 have X := W.inK.keeps hr.base
 refine make_core (makes_of X hm) (looks_findIn X hi) (fun self => bind_fn X self hf) (.inl rfl) ?_
 have hnh : ¬ k9 hh hh.objs.size := ke (aU _)
 have a1 : HR W (G.addO hh.objs.size (hh.objs.size + 1)) H ⟨hh.push emptyDict, g, d, t, os⟩ := by
  have hn := hr.noG hnh
  refine ⟨hr.bas, fun b i e => ?_, fun b ob e => ⟨ju _ _ _ (hr.imm b ob e).1, ?_⟩, hr.nodup, fun a ob hm => ?_, hr.os, hr.gens⟩
  ·have e' : (if b = hh.objs.size then some (hh.objs.size + 1) else G.own b) = some i := e
   by_cases hb : b = hh.objs.size
   ·rw [hb]; exact ⟨hr.noB hnh, _, aV _ rfl⟩
   ·rw [if_neg hb] at e'; exact ⟨(hr.bown b i e').1, qg (hr.bown b i e').2⟩
  ·have e' : G.g b = some ob := e
   show (if b = _ then _ else _) = _
   rw [if_neg (fun q => by rw [q, hn] at e'; cases e')]; exact (hr.imm b ob e').2
  ·refine (hr.slot a ob hm).mono (fun _ _ e => e) (fun b ob _ e => ju _ _ _ e) fun b e => ?_
   show (if b = _ then _ else _) = _
   rw [if_neg (fun q => hnh (by rw [← q]; exact (hr.bown b a e).2))]; exact e
 have hsz1 : (hh.push emptyDict).objs.size = hh.objs.size + 1 := cL _ _
 have a2 := HR.allocO (s := ⟨hh.push emptyDict, g, d, t, os⟩) a1 (instObj C hh.objs.size) (.ins c []) (tk := t) (by
  show kF W _ ((hh.push emptyDict).push _) (hh.push emptyDict).objs.size _
  refine ⟨C, hh.objs.size, [], 0, hmg, aV _ rfl, ju _ _ _ (aV _ rfl), if_pos rfl, ?_, by simp, rfl⟩
  show (if hh.objs.size = (hh.push emptyDict).objs.size then _ else if hh.objs.size = hh.objs.size then some (hh.objs.size + 1) else _) = some (hh.push emptyDict).objs.size
  rw [hsz1, if_neg (by exact J13 19), if_pos rfl])
 obtain ⟨a2, e2⟩ := a2
 have e1 : ky [] G ⟨hh, g, d, t, os⟩ (G.addO hh.objs.size (hh.objs.size + 1)) ⟨hh.push emptyDict, g, d, t, os⟩ := by
  refine ⟨fun _ _ e => e, fun b hb => .inl ?_, fun _ _ _ => rfl, fun b ob e _ _ => ju _ _ _ e, fun b hb => qg hb⟩
  show (if b = _ then _ else _) = _
  rw [if_neg (fun q => hnh (by rw [← q]; exact hb))]
 have e12 := e1.trans e2
 have hq : (⟨hh.push emptyDict, g, d, t, os⟩ : Shared).heap.objs.size = hh.objs.size + 1 := hsz1
 rw [hq] at a2 e12
 have Rm : lb (A.under (.builtin "type.__call__" ⟨.ref C :: vs, []⟩)) n := by
  refine ⟨R.hd, ?_, ?_⟩
  ·have := R.depth; show A.depth + 1 + _ < _; exact J6 8 this
  ·have := R.units
   have hc : (gj "type.__call__" ⟨.ref C :: vs, []⟩).cUnits ≤ 4 := by
    show 1 + 3 * (gj "type.__call__" ⟨.ref C :: vs, []⟩).frames ≤ 4
    have : (gj "type.__call__" ⟨.ref C :: vs, []⟩).frames = 0 := rfl
    exact J13 20 this
   show A.units + (gj "type.__call__" ⟨.ref C :: vs, []⟩).cUnits + _ + _ < _; exact J13 21 hc this
 have := h (hh.objs.size + 1) _ _ _ (.ref (hh.objs.size + 1) :: vs) Rm a2 (jY.cons (by wtm_at "rv") (hv.mono (G' := _) e12.gle))
 refine gf this fun r s' ⟨v, e, G', p, H', e3, hr', hv', hp, hq'⟩ => ?_
 subst e; subst hp
 have : v = .none := by exact hv'
 subst this
 exact ⟨rfl, _, rfl, G', .ref (hh.objs.size + 1), H', e12.trans e3, hr', by wtm_at "rv", hq'⟩
end
noncomputable def pV (K : Frag) (C : Addr) (name : Str) : Bool :=
 plainGet K C name && hasDictIn K C && (findIn K (.ref C) name == some none) && (findIn K (.ref C) "__setattr__" == some (some (.builtin "object.__setattr__"))) && plainOver K C && (takerIn K C name == some none)
noncomputable def nJ (W : Wd) (c : Str) (name : Str) : Prop := ∃ C, W.mg c = some (.ref C) ∧ pV W.K C name = true
noncomputable def uD (K : Frag) (C : Addr) (name : Str) (f : Addr) : Bool :=
 plainGet K C name && (findIn K (.ref C) name == some (some (.ref f))) && (typeIn K (.ref f) == some (.type "function")) && fnIn K f
noncomputable def sE (W : Wd) (c : Str) (name : Str) (f : Addr) : Prop := ∃ C, W.mg c = some (.ref C) ∧ uD W.K C name f = true
inductive rC (W : Wd) (H : HH) (p : PV) (attr : Str) (K : PV → Prop) : Prop
 | mk (c : Str) (fs : List (Str × PV)) (v : PV) (w : Vw H p (.ins c fs)) (m : (attr, v) ∈ fs) (a : nJ W c attr) (k : K v)
inductive oS (W : Wd) (H : HH) (p : PV) (name : Str) (K : Addr → Prop) : Prop
 | mk (c : Str) (fs : List (Str × PV)) (f : Addr) (w : Vw H p (.ins c fs)) (m : (fs.map ai).contains name = false) (a : sE W c name f) (k : K f)
theorem uE {K : Frag} {h : Heap} {f : Addr} (X : K.In h) (e : fnIn K f = true) : ∃ o fd, h.get? f = some o ∧ o.data = .func fd := by
 unfold fnIn at e
 rcases q : K.lookup f with _ | ⟨c, d, dt, sl⟩
 ·rw [q] at e; cases e
 ·rw [q] at e
  cases dt <;> first | exact ⟨_, _, X _ _ q, rfl⟩ | cases e
theorem yL {W G} {p : PV} {v : Value} (h : RV W G p v) : handedIn v = true := by
 cases p with
 | none => subst h; rfl
 | bool b => subst h; rfl
 | int i => obtain ⟨t, e⟩ := h; subst e; rfl
 | str i => obtain ⟨t, e⟩ := h; subst e; rfl
 | tup xs => obtain ⟨a, _, e, _⟩ := h; subst e; rfl
 | lst xs => obtain ⟨a, _, _, e, _⟩ := h; subst e; rfl
 | dct xs => obtain ⟨a, _, _, e, _⟩ := h; subst e; rfl
 | ins c xs => obtain ⟨a, _, _, _, _, e, _⟩ := h; subst e; rfl
 | rng x y => obtain ⟨a, _, _, _, e, _⟩ := h; subst e; rfl
 | ref a => subst h; rfl
theorem qR {W G} : ∀ {fs : List (Str × PV)} {ds : List DictEntry}, qf W G fs ds → ds.any (·.refKey) = false
 | [], ds, h => by subst h; rfl
 | (k, x) :: fs, ds, h => by
  obtain ⟨d, r, t, e, h1, h2, h3, h4⟩ := h
  subst e
  rw [ja, qR h4, jb]
  unfold DictEntry.refKey
  rw [h2]
theorem vA {W G} {name : Str} : ∀ {fs : List (Str × PV)} {ds : List DictEntry}, qf W G fs ds → (fs.map ai).Nodup → ∀ {v}, (name, v) ∈ fs → ∃ e, ds.find? (·.key.isStr name) = some e ∧ RV W G v e.val
 | (k, x) :: fs, ds, h, nd, v, hm => by
  obtain ⟨d, r, t, e, h1, h2, h3, h4⟩ := h
  subst e
  rw [aC, aY] at nd
  rcases au.mp hm with e | hm
  ·cases e
   refine ⟨d, ?_, h3⟩
   rw [cG (by rw [h2]; simp [eG])]
  ·have hne : name ≠ k := fun e => nd.1 (az.mpr ⟨_, hm, e⟩)
   rw [ba (by rw [h2]; simp [eG]; exact fun e => hne e.symm)]
   exact vA h4 nd.2 hm
theorem vB {W G} {name : Str} : ∀ {fs : List (Str × PV)} {ds : List DictEntry}, qf W G fs ds → name ∉ fs.map ai → ds.find? (·.key.isStr name) = none
 | [], ds, h, _ => by subst h; rfl
 | (k, x) :: fs, ds, h, hm => by
  obtain ⟨d, r, t, e, h1, h2, h3, h4⟩ := h
  subst e
  rw [aC, au, not_or] at hm
  rw [ba (by rw [h2]; simp [eG]; exact fun e => hm.1 e.symm)]
  exact vB h4 hm.2
theorem AK {W G} {name : Str} {fs : List (Str × PV)} {ds : List DictEntry} (h : qf W G fs ds) (nd : (fs.map ai).Nodup) {v} (hm : (name, v) ∈ fs) : ∃ cv, getL name ds = some (some cv) ∧ RV W G v cv := by
 obtain ⟨e, h1, h2⟩ := vA h nd hm
 exact ⟨e.val, by unfold getL; rw [h1], h2⟩
theorem tL {W G} {name : Str} {fs : List (Str × PV)} {ds : List DictEntry} (h : qf W G fs ds) (hm : name ∉ fs.map ai) : getL name ds = some none := by
 unfold getL
 rw [vB h hm]
 simp [qR h]
inductive sF (name : Str) (v : PV) : List (Str × PV) → List (Str × PV) → Prop
 | head {o r} : sF name v ((name, o) :: r) ((name, v) :: r)
 | tail {p r r'} : sF name v r r' → sF name v (p :: r) (p :: r')
theorem sF.keys {name v r r'} (h : sF name v r r') : r'.map ai = r.map ai := by
 induction h with
 | head => rfl
 | tail _ ih => simp only [aC, ih]
theorem sF.there {name v r r'} (h : sF name v r r') : ∃ o, (name, o) ∈ r := by
 induction h with
 | head => exact ⟨_, .head _⟩
 | tail _ ih => obtain ⟨o, h⟩ := ih; exact ⟨o, .tail _ h⟩
theorem AL {W G} {name : Str} {v : PV} {cv : Value} {tk : Tok} (hv : RV W G v cv) {fs fs'} {ds : List DictEntry} (U : sF name v fs fs') (nd : (fs.map ai).Nodup) (h : qf W G fs ds) : qf W G fs' (putL name (bE W.w.params name) (.str name tk) cv ds) := by
 induction U generalizing ds with
 | head =>
  obtain ⟨d, r, t, e, h1, h2, h3, h4⟩ := h
  subst e
  unfold putL
  rw [if_pos (by rw [h2]; simp [eG])]
  exact tY.mk _ _ t rfl h1 h2 hv h4
 | tail U ih =>
  obtain ⟨d, r, t, e, h1, h2, h3, h4⟩ := h
  subst e
  rw [aC, aY] at nd
  obtain ⟨o, ho⟩ := U.there
  have hne : name ≠ _ := fun e => nd.1 (az.mpr ⟨_, ho, e⟩)
  unfold putL
  rw [if_neg (by rw [h2]; simp [eG]; exact fun e => hne e.symm)]
  exact tY.mk d _ t rfl h1 h2 h3 (ih nd.2 h4)
theorem sG {W G} {name : Str} {v : PV} {cv : Value} {tk : Tok} (hv : RV W G v cv) : ∀ {fs} {ds : List DictEntry}, name ∉ fs.map ai → qf W G fs ds → qf W G (fs ++ [(name, v)]) (putL name (bE W.w.params name) (.str name tk) cv ds)
 | [], ds, nd, h => by
  subst h
  simp only [gw, putL, qf]
  exact ⟨_, _, tk, rfl, rfl, rfl, hv, rfl⟩
 | (k, x) :: fs, ds, nd, h => by
  obtain ⟨d, r, t, e, h1, h2, h3, h4⟩ := h
  subst e
  rw [aC, au, not_or] at nd
  unfold putL
  rw [if_neg (by rw [h2]; simp [eG]; exact fun e => nd.1 e.symm)]
  simp only [ef, qf]
  exact ⟨d, _, t, rfl, h1, h2, h3, sG hv nd.2 h4⟩
theorem rD (name : Str) (k : Int) (key v : Value) : ∀ ds : List DictEntry, (putL name k key v ds).length ≤ ds.length + 1
 | [] => aU _
 | d :: ds => by
  unfold putL
  split
  ·simp
  ·have := rD name k key v ds; simp; exact J10 6 this
theorem sH {W G} : ∀ {fs : List (Str × PV)} {ds : List DictEntry}, qf W G fs ds → ds.length = fs.length
 | [], ds, h => by subst h; rfl
 | (k, x) :: fs, ds, h => by
  obtain ⟨d, r, t, e, h1, h2, h3, h4⟩ := h
  subst e
  simp [sH h4]
section
variable {W : Wd} {n : Nat} {r : jr} {H : HH} {Q : CV}
theorem pq {h : Heap} {a C dx : Addr} {ds m} (e1 : h.get? a = some (instObj C dx)) (e2 : h.get? dx = some (nS ds m)) : InstAt h a (instObj C dx) C (some (dictOf ds m)) := ⟨e1, rfl, rfl, e2⟩
theorem wF {A G s} {p v : PV} {c : Str} {fs : List (Str × PV)} {cv : Value} {attr : Str} {expr : Bool} (hr : HR W G H s) (hv : RV W G p cv) (w : Vw H p (.ins c fs)) (hm : (attr, v) ∈ fs) (ha : nJ W c attr) (h : Q v H) :
  wpAny (model W.prog W.w) A (getAttr cv attr expr) (Fin W Q G s) mL s := by
 obtain ⟨a, C, dx, ds, m, e, e0, e1, e2, nd, rs⟩ := w.insAt hr hv
 obtain ⟨C', q0, q1⟩ := ha
 rw [q0] at e0; cases e0
 unfold pV at q1
 simp only [aX, beq_iff_eq] at q1
 obtain ⟨⟨⟨⟨⟨a1, a2⟩, a3⟩, a4⟩, a5⟩, a6⟩ := q1
 obtain ⟨u, u1, u2⟩ := AK rs nd hm
 subst e
 exact get_value (W.inK.keeps hr.base) (pq e1 e2) (iM a1).1 (findObj_own a2 a3 rfl u1) (yL u2) (n8 hr u2 h)
theorem CA {x xp attr pos} {c : Str} (h : Ev W n r H (.Name x xp) fun p H1 => rC W H1 p attr fun v => Q v H1) : Ev W n r H (.Attribute (.Name x xp) attr pos) Q := fun A env fa G s R hr fr => by
 refine Attribute_name (ay (h A env fa G s R hr fr) (fun cv s1 h1 => ?_) fun _ _ x => x)
 obtain ⟨G1, p, H1, e1, r1, v1, ⟨c, fs, v, q1, q2, q3, q4⟩⟩ := h1
 exact ay (wF r1 v1 q1 q2 q3 q4) (fun _ _ h => h.trans e1) fun _ _ x => x
theorem CC {A s} {C dx x : Addr} {ds : List DictEntry} {m : Nat} {name : Str} {tk : Tok} {v : Value} {R : Result → Shared → Prop} (X : W.K.In s.heap) (e1 : s.heap.get? x = some (instObj C dx)) (e2 : s.heap.get? dx = some (nS ds m))
  (ha : pV W.K C name = true) (hl : ds.any (·.refKey) = false) (hz : ds.length ≤ 1000)
  (h : R (.ok (.ret .none)) { s with heap := s.heap.update dx (gE name (bE W.w.params name) (.str name s.toks) v), toks := s.toks + 1 }) :
  codeAny (model W.prog W.w) A (.call (.builtin "object.__setattr__") ⟨[.ref x, .str name tk, v], []⟩) R s := by
 unfold pV at ha
 simp only [aX, beq_iff_eq] at ha
 obtain ⟨⟨⟨⟨⟨a1, a2⟩, a3⟩, a4⟩, a5⟩, a6⟩ := ha
 refine osa_open X (pq e1 e2) a5 a6 fun b => ?_
 obtain ⟨cd, hc, hd'⟩ := any_some a2
 refine aj (aB (aj (aj (wpAny_loadPart e1 (aj ((looks_clsIn X hc).here ?_))))))
 rw [hd']
 refine aB (a := some dx) (aj (aB (aj ?_)))
 unfold nsSet
 refine aj (aj (wpAny_askSetting (aB (aj (wpAny_mkText (aj (wpAny_loadPart e2 ?_)))))))
 dsimp only
 have c : (!ds.toArray.any (·.key.isStr name) && ds.toArray.any (·.refKey)) = false := by
  rw [iC, iC, hl, i5]
 rw [aRefKeyMayBeTheName_at, c]
 have hp := putName_dict name (bE W.w.params name) (.str name s.toks) v ds m
 refine wpAny_updatePart e2 ?_
 refine aj (wpAny_lookBehind (o := dictOf (putL name (bE W.w.params name) (.str name s.toks) v ds) (putN name ds m)) ?_ ?_ ?_)
 ·have := cz (h := s.heap) (gE name (bE W.w.params name) (.str name s.toks) v) e2 (by rw [hp]; rfl)
  rw [hp] at this; exact this
 ·refine pastItsLine_dict ?_
  rw [aH]
  have : (putL name (bE W.w.params name) (.str name s.toks) v ds).length ≤ ds.length + 1 := rD _ _ _ _ _
  rw [am]; exact J10 7 this hz
 ·exact aB h
theorem sI {A G s} {a : Addr} {c : Str} {fs fs' : List (Str × PV)} {attr : Str} {v : PV} {cv : Value} {H' : HH} {P : HH → Prop} (hr : HR W G H s) (hv : RV W G v cv) (ha : nJ W c attr) (hz : fs.length ≤ 1000) (U : kO a (.ins c fs) (.ins c fs') H H') (nd' : (fs'.map ai).Nodup)
  (hf : ∀ ds tk, (fs.map ai).Nodup → qf W G fs ds → qf W G fs' (putL attr (bE W.w.params attr) (.str attr tk) cv ds)) (h : P H') : wpAny (model W.prog W.w) A (setAttr (.ref a) attr cv) (yH W P G s) mL s := by
 obtain ⟨C, dx, ds, m, e0, e1, e2, o1, o2, nd, rs⟩ := hr.slot _ _ U.there
 obtain ⟨C', q0, q1⟩ := ha
 rw [q0] at e0; cases e0
 have X := W.inK.keeps hr.base
 have q1' := q1
 unfold pV at q1'
 simp only [aX, beq_iff_eq] at q1'
 obtain ⟨⟨⟨⟨⟨a1, a2⟩, a3⟩, a4⟩, a5⟩, a6⟩ := q1'
 refine set_plain X (pq e1 e2) a4 (CC (s := { s with toks := s.toks + 1 }) X e1 e2 q1 (qR rs) (by rw [sH rs]; exact hz) ?_)
 have hp := putName_dict attr (bE W.w.params attr) (.str attr (s.toks + 1)) cv ds m
 have hfin := cz (h := s.heap) (gE attr (bE W.w.params attr) (.str attr (s.toks + 1)) cv) e2 (by rw [hp]; rfl)
 rw [hp] at hfin
 have hne : a ≠ dx := fun q => by subst q; rw [e1] at e2; cases e2
 obtain ⟨y, e⟩ := hr.upd (tk := s.toks + 1 + 1) U (h' := s.heap.update dx (gE attr (bE W.w.params attr) (.str attr (s.toks + 1)) cv))
  (fun b ob q hb => (cx _ _ _ _ (fun z => hb (by subst z; exact o2))).trans q)
  ⟨C, dx, _, _, q0, (cx _ _ _ _ (fun z => hne (by first | exact z | exact z.symm))).trans e1, hfin, o1, o2, nd', hf ds _ nd rs⟩ (fun b hb => ss ⟨_, hfin⟩ hb)
 exact ⟨G, H', e, y, h⟩
theorem AM {a : Addr} {c : Str} {fs fs' : List (Str × PV)} {attr : Str} {v : PV} {H' : HH} {P : HH → Prop} (U : kO a (.ins c fs) (.ins c fs') H H') (V : sF attr v fs fs') (ha : nJ W c attr) (hz : fs.length ≤ 1000) (h : P H') : vr W n H (.ref a) attr v P := fun A G s cv co R hr vv vo => by
 have e0 : co = .ref a := by exact vo
 subst e0
 have nd := hr.slot _ _ U.there
 obtain ⟨_, _, _, _, _, _, _, _, _, nd, _⟩ := nd
 exact sI hr vv ha hz U (by rw [V.keys]; exact nd) (fun ds tk nd rs => AL vv V nd rs) h
theorem AN {a : Addr} {c : Str} {fs : List (Str × PV)} {attr : Str} {v : PV} {H' : HH} {P : HH → Prop} (U : kO a (.ins c fs) (.ins c (fs ++ [(attr, v)])) H H') (V : attr ∉ fs.map ai) (ha : nJ W c attr) (hz : fs.length ≤ 1000) (h : P H') : vr W n H (.ref a) attr v P := fun A G s cv co R hr vv vo => by
 have e0 : co = .ref a := by exact vo
 subst e0
 have nd := hr.slot _ _ U.there
 obtain ⟨_, _, _, _, _, _, _, _, _, nd, _⟩ := nd
 refine sI hr vv ha hz U ?_ (fun ds tk nd rs => sG vv V rs) h
 rw [aJ, du]
 refine ⟨nd, by simp, fun x hx y hy => ?_⟩
 simp at hy
 subst hy
 exact fun q => V (q ▸ hx)
noncomputable def k4 : Expr → Bool
 | .Call (.Name ..) [] [] _ => false
 | _ => true
theorem yM {f as ks p} {name : Str} {env : Env} {whole : Sem Value} (h : k4 (.Call f as ks p) = true) : attributeBase (.Call f as ks p) name env whole = whole := by
 cases f with
 | Name a b =>
  cases as with
  | nil => cases ks with
   | nil => cases h
   | cons _ _ => rfl
  | cons _ _ => rfl
 | _ => rfl
theorem wG {o : Expr} {name : Str} {env : Env} {whole : Sem Value} (h : k4 o = true) : attributeBase o name env whole = whole := by
 cases o with
 | Call f as ks p => exact yM h
 | _ => rfl
theorem oT {A E s env} {o : Expr} {name : Str} {apos pos : Pos} {args : List Expr} {P : Value → Shared → Prop} (hb : k4 o = true) (hl : (apos.endLine == pos.line) = true) (hs : args.all jE = true) (hn : args.length < 29)
  (h : wpAny (model W.prog W.w) A (eval o env) (fun ov s₁ => ∀ pl, wpAny (model W.prog W.w) A (getMethod ov name pl) (fun fx s₂ => wpAny (model W.prog W.w) A (callWith pos fx.1 fx.2 (pL args env) []) P E s₂) E s₁) E s) :
  wpAny (model W.prog W.w) A (eval (.Call (.Attribute o name apos) args [] pos) env) P E s := by
 have hform : methodCallForm (args.length + ([] : List Keyword).length) (backTo pos (starEach args env)) (backToKw pos (keywordEach [] env)) = true := by
  rw [nU hs]
  unfold methodCallForm
  have h1 : (pL args env).all (fun x => !x.1) = true := by
   rw [a8]; intro x hx
   simp only [pL, az] at hx
   obtain ⟨e, _, rfl⟩ := hx; rfl
  rw [h1]
  show (true && (List.all [] _) && decide (args.length + 0 + 0 < 30)) = true
  simp; exact J10 8 hn
 have hpos : methodCallPos true o env apos pos = pure pos := by unfold methodCallPos; simp [hl]
 rw [arm_eval_Call, wG hb]
 refine aj (ay h (fun ov s₁ h₁ => ?_) fun _ _ e => e)
 refine aj (cH ?_)
 unfold methodCall
 rw [hform]
 refine aj (bv (ay (h₁ _) (fun fx s₂ h₂ => ?_) fun _ _ e => e))
 obtain ⟨f, first⟩ := fx
 refine aj (wpAny_of_eq hpos ?_)
 rw [nU hs] at *
 exact h₂
theorem CD {o name apos pos} {args : List Expr} (hb : k4 o = true) (hl : (apos.endLine == pos.line) = true) (hs : args.all jE = true) (hn : args.length < 29)
  (h : Ev W n r H o fun p H1 => oS W H1 p name fun f => nR W n r H1 args fun ps H2 => jX W n H2 (.ref f) (p :: ps) Q) : Ev W n r H (.Call (.Attribute o name apos) args [] pos) Q := fun A env fa G s R hr fr => by
 refine oT hb hl hs hn (ay (h A env fa G s R hr fr) (fun cv s1 h1 pl => ?_) fun _ _ x => x)
 obtain ⟨G1, p, H1, e1, r1, v1, c, fs, f, q1, q2, q3, q4⟩ := h1
 obtain ⟨a, C, dx, ds, m, e, e0, ee1, ee2, nd, rs⟩ := q1.insAt r1 v1
 obtain ⟨C', z0, z1⟩ := q3
 rw [z0] at e0; cases e0
 unfold uD at z1
 simp only [aX, beq_iff_eq] at z1
 obtain ⟨⟨⟨a1, a2⟩, a3⟩, a4⟩ := z1
 have X := W.inK.keeps r1.base
 subst e
 refine method_fn X (pq ee1 ee2) (iM a1).1 (iM a1).2 a2 a3 (by show (lookIn name (dictOf ds m)).map _ = _; rw [lookIn_dict, tL rs (fun hm => fU (q2.symm.trans (ec.mpr hm)))]; rfl) ?_
 obtain ⟨ob, fd, hb1, hb2⟩ := uE W.inK a4
 refine dR (o := ob) (fd := fd) (kK (ay (q4 A env fa G1 s1 R r1 (fr.ext e1)) (fun vs s2 h2 => ?_) fun _ _ x => x))
 obtain ⟨G2, ps, H2, e2, r2, v2, qq⟩ := h2
 exact ⟨⟨r2.base _ _ hb1, hb2⟩, ay (qq.toN A G2 s2 (.ref a :: vs) R r2 (jY.cons (e2.rv v1) v2)) (fun _ _ h => (h.trans e2).trans e1) fun _ _ x => x⟩
structure sJ (W : Wd) (H : HH) (T : String) (p : PV) : Prop where
 ok : ∀ G s v, HR W G H s → RV W G p v → s.TypeIs v T ∧ ∀ a, v = .ref a → ∃ ob, s.heap.get? a = some ob ∧ ob.dict = none
theorem Ey {p : PV} {xs} (w : Vw H p (.lst xs)) : sJ W H "list" p := ⟨fun G s v hr hv => by
 obtain ⟨a, vs, m, e, e1, _⟩ := w.lstAt hr hv
 subst e
 exact ⟨⟨_, e1, rfl⟩, fun b q => by cases q; exact ⟨_, e1, rfl⟩⟩⟩
theorem Ez {p : PV} {xs} (w : Vw H p (.dct xs)) : sJ W H "dict" p := ⟨fun G s v hr hv => by
 obtain ⟨a, vs, m, e, e1, _⟩ := w.dctAt hr hv
 subst e
 exact ⟨⟨_, e1, rfl⟩, fun b q => by cases q; exact ⟨_, e1, rfl⟩⟩⟩
theorem sK {o name apos pos} {args : List Expr} (T id : String) (pa : PlainAttrs T) (slot : Slot T name id) (hty : typeOf (.builtin id) = pure (.type "method_descriptor")) (hb : k4 o = true) (hl : (apos.endLine == pos.line) = true) (hs : args.all jE = true) (hn : args.length < 29)
  (h : Ev W n r H o fun p H1 => sJ W H1 T p ∧ nR W n r H1 args fun ps H2 => mM W n H2 (fun vs => call (.builtin id) vs) (p :: ps) Q) : Ev W n r H (.Call (.Attribute o name apos) args [] pos) Q := fun A env fa G s R hr fr => by
 refine oT hb hl hs hn (ay (h A env fa G s R hr fr) (fun cv s1 h1 pl => ?_) fun _ _ x => x)
 obtain ⟨G1, p, H1, e1, r1, v1, q1, q4⟩ := h1
 obtain ⟨hT, hd⟩ := q1.ok G1 s1 cv r1 v1
 refine getMethod_builtin hT pa slot hty hd ?_
 refine gi nV (kK (ay (q4 A env fa G1 s1 R r1 (fr.ext e1)) (fun vs s2 h2 => ?_) fun _ _ x => x))
 obtain ⟨G2, ps, H2, e2, r2, v2, qq⟩ := h2
 exact ay (qq A G2 s2 (cv :: vs) R r2 (jY.cons (e2.rv v1) v2)) (fun _ _ h => (h.trans e2).trans e1) fun _ _ x => x
end
noncomputable def my (W : Wd) (r : jr) (H : HH) (r' : jr) (H' : HH) : Prop := ∀ env fa G s, HR W G H s → FR W env fa r G s.heap → ∃ G', ky [] G s G' s ∧ HR W G' H' s ∧ FR W env fa r' G' s.heap
inductive mz (S : HH) : jr → jr → Prop
 | nil : mz S [] []
 | same {p r r'} : mz S r r' → mz S (p :: r) (p :: r')
 | rfy {x c p q r r'} : pp S p q → mz S r r' → mz S ((x, .loc c (some p)) :: r) ((x, .loc c (some q)) :: r')
 | drop {x c p r r'} : mz S r r' → mz S ((x, .loc c p) :: r) ((x, .loc c none) :: r')
theorem mz.keys {S r r'} (h : mz S r r') : r'.map ai = r.map ai := by
 induction h with
 | nil => rfl
 | same _ ih => simp only [aC, ih]
 | rfy _ _ ih => simp only [aC, ih]
 | drop _ ih => simp only [aC, ih]
theorem mz.refl {S} : ∀ {r : jr}, mz S r r
 | [] => .nil
 | _ :: _ => .same mz.refl
inductive CE (S : HH) (r : jr) (x : Str) (b : Bd) : Prop
 | same (h : (x, b) ∈ r)
 | rfy (c : Bool) (p q : PV) (e : b = .loc c (some q)) (h : (x, Bd.loc c (some p)) ∈ r) (k : pp S p q)
 | drop (c : Bool) (e : b = .loc c none) (p : Option PV) (h : (x, Bd.loc c p) ∈ r)
theorem CE.tl {S r x b p} (h : CE S r x b) : CE S (p :: r) x b := by
 cases h with
 | same h => exact .same (.tail _ h)
 | rfy c p q e h k => exact .rfy c p q e (.tail _ h) k
 | drop c e p h => exact .drop c e p (.tail _ h)
theorem mz.mem {S r r'} (h : mz S r r') {x b} (hm : (x, b) ∈ r') : CE S r x b := by
 induction h with
 | nil => cases hm
 | same _ ih => cases hm with
  | head => exact .same (.head _)
  | tail _ hm => exact (ih hm).tl
 | rfy hr _ ih => cases hm with
  | head => exact .rfy _ _ _ rfl (.head _) hr
  | tail _ hm => exact (ih hm).tl
 | drop _ ih => cases hm with
  | head => exact .drop _ rfl _ (.head _)
  | tail _ hm => exact (ih hm).tl
theorem FR.reread {W env fa r r' G S h} (x : FR W env fa r G h) (w : mz S r r') (hr : ∀ p t v, pp S p t → RV W G p v → RV W G t v) : FR W env fa r' G h where
 kind := x.kind
 glo := x.glo
 blt := x.blt
 nodup := by rw [show (r'.map fun y => y.1) = r'.map ai from rfl, w.keys]; exact x.nodup
 ns := by
  obtain ⟨m, hn, hm⟩ := x.ns
  refine ⟨m, hn, fun y yb v hy hk => ?_⟩
  rcases w.mem hy with a | ⟨z, p, q, a, b, c⟩ | ⟨z, a, p, b⟩
  ·exact hm y yb v a hk
  ·cases a
   obtain ⟨cv, q1, q2⟩ := hm y _ p b hk
   exact ⟨cv, q1, hr _ _ _ c q2⟩
  ·cases a
 glb := fun y hy => by
  rcases w.mem hy with a | ⟨z, p, q, a, b, c⟩ | ⟨z, a, p, b⟩
  ·exact x.glb y a
  ·cases a
  ·cases a
 loc := fun y yb ov hy => by
  rcases w.mem hy with a | ⟨z, p, q, a, b, c⟩ | ⟨z, a, p, b⟩
  ·exact x.loc y yb ov a
  ·cases a
   rcases x.loc y _ _ b with h | ⟨hb, hk, c', u, h1, h2, h6, h7⟩
   ·exact .inl h
   ·refine .inr ⟨hb, hk, c', u, h1, h2, h6, fun v e => ?_⟩
    cases e
    obtain ⟨cv, q1, q2⟩ := h7 p rfl
    exact ⟨cv, q1, hr _ _ _ c q2⟩
  ·cases a
   rcases x.loc y _ _ b with h | ⟨hb, hk, c', u, h1, h2, h6, h7⟩
   ·exact .inl h
   ·exact .inr ⟨hb, hk, c', u, h1, h2, h6, fun v e => by cases e⟩
 fre := fun y v hy => by
  rcases w.mem hy with a | ⟨z, p, q, a, b, c⟩ | ⟨z, a, p, b⟩
  ·exact x.fre y v a
  ·cases a
  ·cases a
 locf := x.locf
 ownf := x.ownf
 apart := x.apart
inductive mS (S : HH) : HH → HH → Prop
 | nil : mS S [] []
 | same {p r r'} : mS S r r' → mS S (p :: r) (p :: r')
 | lst {a xs ys r r'} : ny S xs ys → mS S r r' → mS S ((a, .lst xs) :: r) ((a, .lst ys) :: r')
 | dct {a xs ys r r'} : tI S xs ys → mS S r r' → mS S ((a, .dct xs) :: r) ((a, .dct ys) :: r')
 | ins {a c xs ys r r'} : tJ S xs ys → mS S r r' → mS S ((a, .ins c xs) :: r) ((a, .ins c ys) :: r')
theorem mS.keys {S r r'} (h : mS S r r') : r'.map ai = r.map ai := by
 induction h with
 | nil => rfl
 | same _ ih => simp only [aC, ih]
 | lst _ _ ih => simp only [aC, ih]
 | dct _ _ ih => simp only [aC, ih]
 | ins _ _ ih => simp only [aC, ih]
theorem mS.refl {S} : ∀ {r : HH}, mS S r r
 | [] => .nil
 | _ :: _ => .same mS.refl
theorem ny.rv' {W G S} (hr : ∀ p t v, pp S p t → RV W G p v → RV W G t v) : ∀ {xs ys : List PV} {vs}, ny S xs ys → jY W G xs vs → jY W G ys vs := fun {xs} => by
 induction xs with
 | nil => intro ys vs q h; cases q; exact h
 | cons x xs ih =>
  intro ys vs q h
  cases q with
  | refl => exact h
  | cons h1 h2 => obtain ⟨u, r, e, q1, q2⟩ := h; exact tX.mk u r e (hr _ _ _ h1 q1) (ih h2 q2)
theorem tI.rv' {W G S} (hr : ∀ p t v, pp S p t → RV W G p v → RV W G t v) : ∀ {xs ys : List (PV × PV)} {vs}, tI S xs ys → oK W G xs vs → oK W G ys vs := fun {xs} => by
 induction xs with
 | nil => intro ys vs q h; cases q; exact h
 | cons x xs ih =>
  intro ys vs q h
  cases q with
  | refl => exact h
  | cons h1 h2 => obtain ⟨u, r, e, q0, q1, q2, q3⟩ := h; exact xw.mk u r e q0 q1 (hr _ _ _ h1 q2) (ih h2 q3)
theorem tJ.rv' {W G S} (hr : ∀ p t v, pp S p t → RV W G p v → RV W G t v) : ∀ {xs ys : List (Str × PV)} {vs}, tJ S xs ys → qf W G xs vs → qf W G ys vs := fun {xs} => by
 induction xs with
 | nil => intro ys vs q h; cases q; exact h
 | cons x xs ih =>
  intro ys vs q h
  cases q with
  | refl => exact h
  | cons h1 h2 => obtain ⟨u, r, t, e, q0, q1, q2, q3⟩ := h; exact tY.mk u r t e q0 q1 (hr _ _ _ h1 q2) (ih h2 q3)
theorem mS.slot {W G S} {h : Heap} (hr : ∀ p t v, pp S p t → RV W G p v → RV W G t v) {K K' : HH} (w : mS S K K') : (∀ a o, (a, o) ∈ K → kF W G h a o) → ∀ a o, (a, o) ∈ K' → kF W G h a o := by
 have go : ∀ {a : Addr} {o o' : HO} {r r' : HH}, (kF W G h a o → kF W G h a o') → ((∀ a o, (a, o) ∈ r → kF W G h a o) → ∀ a o, (a, o) ∈ r' → kF W G h a o) → (∀ b u, (b, u) ∈ (a, o) :: r → kF W G h b u) → ∀ b u, (b, u) ∈ (a, o') :: r' → kF W G h b u := fun q ih hs b u hm => by
  rcases au.mp hm with e | hm
  ·cases e; exact q (hs _ _ (.head _))
  ·exact ih (fun a o hm => hs a o (.tail _ hm)) b u hm
 induction w with
 | nil => exact fun hs => hs
 | same _ ih => exact go id ih
 | lst q _ ih => exact go (fun ⟨vs, n, h1, h2, h3⟩ => ⟨vs, n, h1, h2, q.rv' hr h3⟩) ih
 | dct q _ ih => exact go (fun ⟨vs, n, h1, h2, nd, h3⟩ => ⟨vs, n, h1, h2, by rw [q.keys]; exact nd, q.rv' hr h3⟩) ih
 | ins q _ ih => exact go (fun ⟨C, dx, vs, n, h0, h1, h1', h2, h2', nd, h3⟩ => ⟨C, dx, vs, n, h0, h1, h1', h2, h2', by rw [q.keys]; exact nd, q.rv' hr h3⟩) ih
theorem HR.freeze2 {W G H K K' S} {s : Shared} (x : HR W G H s) (sp : jI H K S) (k : mS S K K') : ky [] G s (G.frz s.heap S) s ∧ HR W (G.frz s.heap S) K' s ∧ (∀ p t v, pp S p t → RV W G p v → RV W (G.frz s.heap S) t v) ∧ ∀ p t v, pp S p t → RV W (G.frz s.heap S) p v → RV W (G.frz s.heap S) t v := by
 obtain ⟨e, y, hr⟩ := x.freeze sp
 have hrr : ∀ p t v, pp S p t → RV W (G.frz s.heap S) p v → RV W (G.frz s.heap S) t v := fun p t v h1 h2 =>
  pp.rv ⟨fun _ _ e => e, fun a xs hm => hr (.ref a) (.lst xs) (.ref a) (.lst hm .refl) rfl, fun a xs hm => hr (.ref a) (.dct xs) (.ref a) (.dct hm .refl) rfl, fun a c xs hm => hr (.ref a) (.ins c xs) (.ref a) (.ins hm .refl) rfl⟩ h1 h2
 exact ⟨e, ⟨y.bas, y.bown, y.imm, by rw [show (K'.map fun z => z.1) = K'.map ai from rfl, k.keys]; exact y.nodup, k.slot hrr y.slot, y.os, y.gens⟩, hr, hrr⟩
theorem my.frz {W r r' H K S K'} (sp : jI H K S) (w : mz S r r') (k : mS S K K') : my W r H r' K' := fun env fa G s x f => by
 obtain ⟨e, y, _, hrr⟩ := x.freeze2 sp k
 exact ⟨_, e, y, (f.ext e).reread w hrr⟩
theorem mG {W n r H r' H' c Q} (w : my W r H r' H') (h : lj W n r' H' c Q) : lj W n r H c Q := fun A env fa G s R hr f => by
 obtain ⟨G1, e1, r1, f1⟩ := w env fa G s hr f
 exact ay (h A env fa G1 s R r1 f1) (fun _ _ h => h.trans e1.weak) fun _ _ x => x
theorem CF {W n r H c} {Q Q' : jH} (h : Ex W n r H c Q') (hq : ∀ fl r' H', Q' fl r' H' → Q fl r' H' ∨ (fl = .next ∨ fl = .cont ∨ fl = .brk) ∧ ∃ r2 H2, my W r' H' r2 H2 ∧ Q fl r2 H2) : Ex W n r H c Q := fun A env fa G s R hr f => by
 refine ay (h A env fa G s R hr f) (fun v s1 ⟨G1, fl, r1, H1, e1, hr1, f1, hf, q⟩ => ?_) fun _ _ x => x
 rcases hq _ _ _ q with q | ⟨hfl, r2, H2, w, q⟩
 ·exact ⟨G1, fl, r1, H1, e1, hr1, f1, hf, q⟩
 ·obtain ⟨G2, e2, hr2, f2⟩ := w env fa G1 s1 hr1 f1
  refine ⟨G2, fl, r2, H2, e1.trans e2.weak, hr2, f2, ?_, q⟩
  rcases hfl with rfl | rfl | rfl <;> exact hf
theorem uF {W n r H c} {Q Q' : jH} (h : Ex W n r H c Q') (hq : ∀ fl r' H', Q' fl r' H' → Q fl r' H') : Ex W n r H c Q := fun A env fa G s R hr f =>
 ay (h A env fa G s R hr f) (fun v s1 ⟨G1, fl, r1, H1, e1, hr1, f1, hf, q⟩ => ⟨G1, fl, r1, H1, e1, hr1, f1, hf, hq _ _ _ q⟩) fun _ _ x => x
set_option backward.match.sparseCases true
inductive lL : List Str → List PV → jr → jr → Prop
 | nil {r} : lL [] [] r r
 | cons {x p xs ps r r1 r2} : lk x p r r1 → lL xs ps r1 r2 → lL (x :: xs) (p :: ps) r r2
theorem lk.swap {x y p q} (hne : x ≠ y) {r r1 r2} (a : lk x p r r1) (b : lk y q r1 r2) : ∃ r1', lk y q r r1' ∧ lk x p r1' r2 := by
 induction a generalizing r2 with
 | head => cases b with
  | head => exact absurd rfl hne
  | tail b => exact ⟨_, .tail b, .head⟩
 | tail a ih => cases b with
  | head => exact ⟨_, .head, .tail a⟩
  | tail b => obtain ⟨r1', c, d⟩ := ih b; exact ⟨_, .tail c, .tail d⟩
theorem lL.snoc {y q xs ps r r1 r2} (a : lL xs ps r r1) (b : lk y q r1 r2) : lL (xs ++ [y]) (ps ++ [q]) r r2 := by
 induction a with
 | nil => exact .cons b .nil
 | cons a c ih => exact .cons a (ih b)
theorem lL.push {y q xs ps r r1 r2} (a : lk y q r r1) (b : lL xs ps r1 r2) (h : y ∉ xs) : ∃ r1', lL xs ps r r1' ∧ lk y q r1' r2 := by
 induction b generalizing r with
 | nil => exact ⟨_, .nil, a⟩
 | cons b c ih =>
  rw [au, not_or] at h
  obtain ⟨r', d, e⟩ := lk.swap h.1 a b
  obtain ⟨r'', f, g⟩ := ih e h.2
  exact ⟨_, .cons d f, g⟩
theorem lL.rev {xs ps r r'} (b : lL xs ps r r') (h : xs.Nodup) : lL xs.reverse ps.reverse r r' := by
 induction b with
 | nil => exact .nil
 | cons a b ih =>
  rw [aY] at h
  rw [dX, dX]
  obtain ⟨r1, c, d⟩ := lL.push a (ih h.2) (fun q => h.1 (List.mem_reverse.mp q))
  exact c.snoc d
theorem lL.length {xs ps r r'} (h : lL xs ps r r') : ps.length = xs.length := by
 induction h with
 | nil => rfl
 | cons _ _ ih => exact congrArg ie ih
theorem jY.reverse {W G} : ∀ {ps : List PV} {vs : List Value}, jY W G ps vs → jY W G ps.reverse vs.reverse
 | [], vs, h => by subst h; exact jY.nil
 | p :: ps, vs, h => by
  obtain ⟨v, r, e, h1, h2⟩ := h
  subst e
  rw [dX, dX]
  exact (jY.reverse h2).append (jY.one h1)
noncomputable def oU : Expr → Option Str
 | .Name x _ => some x
 | _ => none
section
variable {W : Wd} {n : Nat} {r : jr} {H : HH}
noncomputable def Fo (W : Wd) (n : Nat) (t : Expr) (p : PV) (r : jr) (H : HH) (Q : CR) : Prop :=
 ∀ A env fa G s cv, lb A n → HR W G H s → FR W env fa r G s.heap → RV W G p cv → wpAny (model W.prog W.w) A (assign t env cv) (fun _ s' => ∃ G' r' H', ky fa G s G' s' ∧ HR W G' H' s' ∧ FR W env fa r' G' s'.heap ∧ Q r' H') mL s
theorem m6 {x pos p r'} {Q : CR} (U : lk x p r r') (h : Q r' H) : Fo W n (.Name x pos) p r H Q := fun A env fa G s cv R hr f hv =>
 dY (mt hr f U hv fun s' e hr' f' => ⟨G, r', H, e, hr', f', h⟩)
theorem yN {A env fa} {xs : List Str} {ps : List PV} {r r' : jr} {G} {s : Shared} {vs : List Value} {P : Unit → Shared → Prop} (u : lL xs ps r r') (hr : HR W G H s) (f : FR W env fa r G s.heap) (hv : jY W G ps vs) (h : ∀ s', ky fa G s G s' → HR W G H s' → FR W env fa r' G s'.heap → P () s') :
  wpAny (model W.prog W.w) A (assignInOrder (xs.map fun x => bindName env x) vs) P mL s := by
 induction u generalizing s vs with
 | nil => cases (show vs = [] from hv); exact fP (h s ky.refl hr f)
 | cons U _ ih =>
  obtain ⟨v, vs', e, h1, h2⟩ := hv
  subst e
  refine fQ (wpAny_bindName (mt hr f U h1 fun s1 e1 hr1 f1 => ?_))
  exact ih hr1 f1 h2 fun s2 e2 hr2 f2 => h s2 (e1.trans e2) hr2 f2
theorem yO {α : Type} {x : α} {P : Prop} (h : none = some x) : P := nomatch h
theorem pW {t : Expr} {x : Str} (h : oU t = some x) : ∃ p, t = .Name x p := by
 cases t with
 | Name y p => cases h; exact ⟨p, rfl⟩
 | _ => exact yO h
theorem qS {env : Env} {ts : List Expr} : ∀ {xs : List Str}, ts.map oU = xs.map some → (assignEach ts env).map (·.2) = ts.map fun t => assign t env := by
 induction ts with
 | nil => exact fun _ => rfl
 | cons t ts ih =>
  intro xs h
  cases xs with
  | nil => cases h
  | cons x xs =>
   obtain ⟨h1, h2⟩ := fR h
   obtain ⟨p, rfl⟩ := pW h1
   show _ :: _ = _ :: _; rw [ih h2]
theorem qT {env : Env} {ts : List Expr} : ∀ {xs : List Str}, ts.map oU = xs.map some → (assignEach ts env).findIdx? (·.1) = none ∧ (assignEach ts env).length = ts.length := by
 induction ts with
 | nil => exact fun _ => ⟨rfl, rfl⟩
 | cons t ts ih =>
  intro xs h
  cases xs with
  | nil => cases h
  | cons x xs =>
   obtain ⟨h1, h2⟩ := fR h
   obtain ⟨p, rfl⟩ := pW h1
   obtain ⟨i1, i2⟩ := ih h2
   show ((false, _) :: assignEach ts env).findIdx? _ = none ∧ ((false, _) :: assignEach ts env).length = _
   rw [List.findIdx?_cons, i1]
   exact ⟨rfl, congrArg ie i2⟩
theorem wH {A env fa} {ts : List Expr} {xs : List Str} {ps : List PV} {r r' : jr} {G} {s : Shared} {vs : List Value} {P : Unit → Shared → Prop} (hn : ts.map oU = xs.map some) (u : lL xs ps r r') (hr : HR W G H s) (f : FR W env fa r G s.heap) (hv : jY W G ps vs) (h : ∀ s', ky fa G s G s' → HR W G H s' → FR W env fa r' G s'.heap → P () s') :
  wpAny (model W.prog W.w) A (assignInOrder (ts.map fun t => assign t env) vs) P mL s := by
 induction u generalizing s vs ts with
 | nil => cases (show vs = [] from hv); cases (eP.mp hn); exact fP (h s ky.refl hr f)
 | cons U _ ih =>
  obtain ⟨v, vs', e, h1, h2⟩ := hv
  subst e
  cases ts with
  | nil => cases hn
  | cons t ts =>
   obtain ⟨hn1, hn2⟩ := fR hn
   cases t with
   | Name y p =>
    cases hn1
    refine fQ (dY (mt hr f U h1 fun s1 e1 hr1 f1 => ?_))
    exact ih hn2 hr1 f1 h2 fun s2 e2 hr2 f2 => h s2 (e1.trans e2) hr2 f2
   | _ => cases hn1
theorem mU {ts : List Expr} {k pos p} {xs : List Str} {ps : List PV} {r' : jr} {Q : CR} (w : Vw H p (.tup ps)) (hn : ts.map oU = xs.map some) (U : lL xs ps r r') (h : Q r' H) : Fo W n (.Tuple ts k pos) p r H Q := fun A env fa G s cv R hr f hv => by
 obtain ⟨a, vs, e, e1, rs⟩ := w.tupAt hr hv
 subst e
 show wpAny _ _ (do standAt pos; unpack (.ref a) (assignEach ts env)) _ _ _
 refine aj (cH ?_)
 unfold PySem.unpack
 obtain ⟨q1, q2⟩ := qT (env := env) hn
 rw [q1, q2, qS hn]
 have hlen : vs.length = ts.length := by
  rw [rs.length, U.length]
  have := congrArg eF hn
  simpa using this.symm
 have hk : vs.toArray.size = ts.length := by simpa using hlen
 rw [← hk]
 refine aj (bv (et R.hd e1 fun h' hx => ?_))
 have hk : ∀ b o, s.heap.get? b = some o → h'.get? b = some o := fun b o e => hx b o (bK (bq e)) e
 have e1 : ky [] G s G { s with heap := h' } := ky.kept (tk := s.toks) (dr := s.drawn) hk
 rw [b7]
 exact wH hn U (hr.kept (tk := s.toks) (dr := s.drawn) hk) (f.ext e1) rs fun s' e' hr' f' => ⟨G, r', H, e1.weak.trans e', hr', f', h⟩
noncomputable def EA : Expr → Bool
 | .Tuple .. => true
 | _ => false
theorem pX {t value line env} (h : nI value = true) : swapsWithSole [t] value line env = pure false := lK h
theorem oh {ts k tpos e pos} {Q : jH} (hc : nI e = true) (ht : EA e = false) (h : Ev W n r H e fun p H1 => Fo W n (.Tuple ts k tpos) p r H1 fun r' H' => Q .next r' H') : Ex W n r H (.Assign [.Tuple ts k tpos] e pos) Q := fun A env fa G s R hr f => by
 refine fw (ay (h A env fa G s R hr f) (fun v s1 h1 => ?_) fun _ _ x => x) (pX hc) ?_
 ·obtain ⟨G1, p, H1, e1, r1, v1, q1⟩ := h1
  refine ay (q1 A env fa G1 s1 v R r1 (f.ext e1) v1) (fun _ s2 h2 => ?_) fun _ _ x => x
  obtain ⟨G2, r2, H2, e2, hr2, f2, q2⟩ := h2
  exact ⟨G2, .next, r2, H2, e1.weak.trans e2, hr2, f2, rfl, q2⟩
 ·cases e <;> first | rfl | cases ht
theorem AO {g : Expr → Option Str} {f : Str → Pos → Bool} (hg : ∀ x p, g (.Name x p) = if f x p = true then some x else none) {ts : List Expr} : ∀ {xs : List Str}, ts.map oU = xs.map some → (ts.filterMap g).length = ts.length → ts.filterMap g = xs := by
 induction ts with
 | nil => intro xs h _; cases xs with | nil => rfl | cons _ _ => cases h
 | cons t ts ih =>
  intro xs h
  cases xs with
  | nil => cases h
  | cons x xs =>
   obtain ⟨h1, h2⟩ := fR h
   obtain ⟨p, rfl⟩ := pW h1
   cases hf : f x p with
   | true => rw [List.filterMap_cons_some (b := x) (by rw [hg, hf]; rfl)]; intro q; rw [ih h2 (ic q)]
   | false => rw [List.filterMap_cons_none (by rw [hg, hf]; rfl)]; intro q; exact absurd (fS g ts) (Nat.not_le.mpr (by rw [q]; exact fX _))
theorem GV {α : Type} {c : Prop} [Decidable c] {N S b : α} (h : ¬ c → b = N ∨ b = S) : (if c then N else b) = N ∨ (if c then N else b) = S := by
 by_cases q : c
 ·exact .inl (if_pos q)
 ·rw [if_neg q]; exact h q
theorem nb1 {a b : Nat} {c : Bool} (q : ¬ ((a != b || c) = true)) : a = b := fy fun h => q (by rw [bne_iff_ne.mpr h]; rfl)
theorem vC {ts vs : List Expr} {k tpos k2 vpos env} {xs : List Str} (hk : env.scope.kind = .function) (hn : ts.map oU = xs.map some) (hc : vs.all (foldedForSure 8) = true ∨ vs.all (constantsAlone 8) = false) :
  swappedStores [.Tuple ts k tpos] (.Tuple vs k2 vpos) env = pure none ∨ swappedStores [.Tuple ts k tpos] (.Tuple vs k2 vpos) env = pure (some xs) := by
 refine GV (N := (pure none : Sem (Option (List Str)))) (S := pure (some xs)) fun _ => GV (N := (pure none : Sem (Option (List Str)))) (S := pure (some xs)) fun _ => GV (N := (pure none : Sem (Option (List Str)))) (S := pure (some xs)) fun q => GV (N := (pure none : Sem (Option (List Str)))) (S := pure (some xs)) fun hf => ?_
 rcases hc with hc | hc
 ·exact absurd hc hf
 ·refine .inr ((if_neg (by rw [hc]; exact dO)).trans (congrArg (fun l => (pure (some l) : Sem (Option (List Str)))) (AO (f := fun id pos => env.kindOf id == some .local && pos.line == (ts.head?.map (·.pos.line)).getD 0) (fun _ _ => rfl) hn (nb1 q))))
theorem k5 {ts vs : List Expr} {k tpos k2 vpos pos} {xs : List Str} {Q : jH} (hn : ts.map oU = xs.map some) (hnd : xs.Nodup) (hc : vs.all (foldedForSure 8) = true ∨ vs.all (constantsAlone 8) = false)
  (h : Ev W n r H (.Tuple vs k2 vpos) fun p H1 => ∃ ps r', p = .tup ps ∧ lL xs ps r r' ∧ Q .next r' H1) : Ex W n r H (.Assign [.Tuple ts k tpos] (.Tuple vs k2 vpos) pos) Q := fun A env fa G s R hr f => by
 rcases vC (k := k) (tpos := tpos) (k2 := k2) (vpos := vpos) f.kind hn hc with hw | hw
 ·refine fw (ay (h A env fa G s R hr f) (fun v s1 h1 => ?_) fun _ _ x => x) (pX rfl) hw
  obtain ⟨G1, p, H1, e1, r1, v1, ps, r', hp, U, q1⟩ := h1
  subst hp
  have := mU (W := W) (n := n) (H := H1) (k := k) (pos := tpos) (Q := fun r' H' => Q .next r' H') (p := .tup ps) .refl hn U q1
  refine ay (this A env fa G1 s1 v R r1 (f.ext e1) v1) (fun _ s2 h2 => ?_) fun _ _ x => x
  obtain ⟨G2, r2, H2, e2, hr2, f2, q2⟩ := h2
  exact ⟨G2, .next, r2, H2, e1.weak.trans e2, hr2, f2, rfl, q2⟩
 ·refine PyProof.Rows.Assign_Tuple_swapped (ay (h A env fa G s R hr f) (fun v s1 h1 => ?_) fun _ _ x => x) (pX rfl) hw
  obtain ⟨G1, p, H1, e1, r1, v1, ps, r', hp, U, q1⟩ := h1
  subst hp
  obtain ⟨a, us, e, ee, rs⟩ := (Vw.refl : Vw H1 (.tup ps) (.tup ps)).tupAt r1 v1
  subst e
  have hk : us.toArray.size = xs.length := by rw [aH, rs.length, U.length]
  rw [← hk]
  refine et R.hd ee fun h' hx => ?_
  have hk : ∀ b o, s1.heap.get? b = some o → h'.get? b = some o := fun b o e => hx b o (bK (bq e)) e
  have e2 : ky [] G1 s1 G1 { s1 with heap := h' } := ky.kept (tk := s1.toks) (dr := s1.drawn) hk
  rw [b7]
  exact yN (U.rev hnd) (r1.kept (tk := s1.toks) (dr := s1.drawn) hk) ((f.ext e1).ext e2) rs.reverse fun s' e' hr' f' => ⟨G1, .next, r', H1, (e1.trans e2).weak.trans e', hr', f', rfl, q1⟩
end
set_option backward.match.sparseCases false
structure yP (wr : List Addr) (G : Gh) (s : Shared) (G' : Gh) (s' : Shared) : Prop where
 gle : ∀ b o, G.g b = some o → G'.g b = some o
 own : ∀ b, k9 s.heap b → G'.own b = G.own b ∨ G'.own b = none
 gnew : ∀ b, k9 s.heap b → G.own b = none → G'.g b = G.g b
 keep : ∀ b o, b ∉ wr → s.heap.get? b = some o → s'.heap.get? b = some o
theorem ky.turn {fa wr G s G1 s1 G2 s2} (x : ky fa G s G1 s1) (y : yP wr G1 s1 G2 s2) (hw : ∀ b ∈ wr, ¬ k9 s.heap b) : ky fa G s G2 s2 where
 gle := fun b o e => y.gle b o (x.gle b o e)
 own := fun b hb => by
  rcases x.own b hb with h | h <;> rcases y.own b (x.there b hb) with h' | h' <;> first | exact .inr h' | (rw [h] at h'; first | exact .inl h' | exact .inr h')
 gnew := fun b hb ho => by
  refine (y.gnew b (x.there b hb) ?_).trans (x.gnew b hb ho)
  rcases x.own b hb with h | h
  ·rw [h, ho]
  ·exact h
 keep := fun b o e ho hf => y.keep b o (fun hm => hw b hm ⟨o, e⟩) (x.keep b o e ho hf)
 there := fun b hb => by
  obtain ⟨o, ho⟩ := x.there b hb
  exact ⟨o, y.keep b o (fun hm => hw b hm hb) ho⟩
structure uG (W : Wd) (G : Gh) (wr : List Addr) : Prop where
 own : ∀ b ∈ wr, G.own b = none
 g : ∀ b ∈ wr, G.g b = none
 B0 : ∀ b ∈ wr, W.B0.get? b = none
theorem HR.turn {W G H} {s : Shared} {wr : List Addr} {h' : Heap} {tk : Nat} (x : HR W G H s) (f : uG W G wr) (hk : ∀ b o, b ∉ wr → s.heap.get? b = some o → h'.get? b = some o) : HR W G H { s with heap := h', toks := tk } where
 bas := x.bas
 bown := fun b i e => ⟨(x.bown b i e).1, let ⟨o, ho⟩ := (x.bown b i e).2; ⟨o, hk b o (fun hm => by rw [f.own b hm] at e; cases e) ho⟩⟩
 imm := fun b o e => ⟨hk b o (fun hm => by rw [f.g b hm] at e; cases e) (x.imm b o e).1, (x.imm b o e).2⟩
 nodup := x.nodup
 slot := fun a o hm => (x.slot a o hm).mono (fun _ _ e => e) (fun b ob e q => hk b ob (fun hm => by rw [f.own b hm] at e; cases e) q) fun _ e => e
 os := x.os
 gens := x.gens
theorem FR.turn {W env fa r G G'} {s s' : Shared} {wr : List Addr} (x : FR W env fa r G s.heap) (e : yP wr G s G' s') (hf : ∀ b ∈ wr, b ∉ fa) (hc : ∀ b ∈ wr, ∀ u, ¬ s.heap.IsCell b u) : FR W env fa r G' s'.heap where
 kind := x.kind
 glo := x.glo
 blt := x.blt
 nodup := x.nodup
 ns := by
  obtain ⟨m, hn, hm⟩ := x.ns
  refine ⟨m, hn.at' fun o ho => e.keep _ _ (fun hm => hf _ hm x.locf) ho, fun y yb v hy hk => ?_⟩
  obtain ⟨cv, a, b⟩ := hm y yb v hy hk
  exact ⟨cv, a, b.mono e.gle⟩
 glb := x.glb
 loc := fun y yb ov hy => by
  rcases x.loc y yb ov hy with h | ⟨hb, hk, c, u, h1, h2, h6, h7⟩
  ·exact .inl h
  ·have h2' := h2
   obtain ⟨o, ho, hd⟩ := h2
   refine .inr ⟨hb, hk, c, u, h1, ⟨o, e.keep _ _ (fun hm => hf _ hm h6) ho, hd⟩, h6, fun v hv => ?_⟩
   obtain ⟨cv, a, b⟩ := h7 v hv
   exact ⟨cv, a, b.mono e.gle⟩
 fre := fun y v hy => by
  obtain ⟨hk, c, cv, h1, h2, h3, h4, h5, h6, h7⟩ := x.fre y v hy
  have hcw : c ∉ wr := fun hm => hc c hm _ h2
  obtain ⟨o, ho, hd⟩ := h2
  have hlt : k9 s.heap c := ⟨o, ho⟩
  refine ⟨hk, c, cv, h1, ⟨o, e.keep _ _ hcw ho, hd⟩, ?_, by rw [e.gnew c hlt h3, h4], h5, h6, h7.mono e.gle⟩
  rcases e.own c hlt with q | q
  ·rw [q, h3]
  ·exact q
 locf := x.locf
 ownf := fun a ha => by
  obtain ⟨h1, h2, h3, o, h4⟩ := x.ownf a ha
  refine ⟨?_, ?_, h3, ⟨o, e.keep _ _ (fun hm => hf _ hm ha) h4⟩⟩
  ·rcases e.own a ⟨o, h4⟩ with q | q
   ·rw [q, h1]
   ·exact q
  ·rw [e.gnew a ⟨o, h4⟩ h1, h2]
 apart := x.apart
noncomputable def AP : Expr → Bool
 | .Tuple .. => true
 | _ => false
structure Wk (W : Wd) (A : Around) (tt : Bool) (G0 : Gh) (I : Addr) (fp wr : List Addr) (xs : List PV) (St : Nat → Heap → Prop) : Prop where
 sub : ∀ b ∈ wr, b ∈ fp
 frame : ∀ i h h', St i h → (∀ b ∈ fp, ∀ o, h.get? b = some o → h'.get? b = some o) → St i h'
 cell : ∀ i h, St i h → ∀ b ∈ wr, ∀ u, ¬ h.IsCell b u
 has : ∀ i h, St i h → ∀ b ∈ fp, k9 h b
 self : ∀ i s (Q : Value → Shared → Prop) (E : Value → Shared → Prop), St i s.heap → Q (.ref I) s → wpAny (model W.prog W.w) A (pyIter (.ref I)) Q E s
 item : ∀ tgt i H G s x, (tt = true → AP tgt = true) → HR W G H s → (∀ b o, G0.g b = some o → G.g b = some o) → uG W G wr → St i s.heap → xs[i]? = some x →
  wpAny (model W.prog W.w) A (pyNext (.ref I)) (fun r s1 => ∃ v, r = some v ∧ wpAny (model W.prog W.w) A (letOwnedTupleGo tgt (.ref I) v) (fun _ s2 => ∃ G2, yP wr G s G2 s2 ∧ HR W G2 H s2 ∧ RV W G2 x v ∧ St (i + 1) s2.heap) mL s1) mL s
 done : ∀ H G s, HR W G H s → (∀ b o, G0.g b = some o → G.g b = some o) → uG W G wr → St xs.length s.heap →
  wpAny (model W.prog W.w) A (pyNext (.ref I)) (fun r s1 => r = none ∧ ∃ G2, yP wr G s G2 s1 ∧ HR W G2 H s1) mL s
inductive vD (W : Wd) (A : Around) (tt : Bool) (Q : CL) (G : Gh) (s : Shared) (it : Value) (s' : Shared) : Prop
 | mk (G' : Gh) (I : Addr) (fp wr : List Addr) (xs : List PV) (H' : HH) (St : Nat → Heap → Prop) (ei : it = .ref I) (e : ky [] G s G' s') (hr : HR W G' H' s') (hn : ∀ b ∈ wr, ¬ k9 s.heap b) (ho : ∀ b ∈ fp, G'.own b = none) (hz : ∀ b ∈ fp, k9 s.heap b → ∃ o, G'.g b = some o) (hg : ∀ b ∈ wr, G'.g b = none)
  (wk : Wk W A tt G' I fp wr xs St) (st : St 0 s'.heap) (q : Q xs H')
noncomputable def tM (W : Wd) (tt : Bool) (n : Nat) (r : jr) (H : HH) (e : Expr) (Q : CL) : Prop :=
 ∀ A env fa G s, lb A n → HR W G H s → FR W env fa r G s.heap → wpAny (model W.prog W.w) A (eval e env) (fun v s1 => wpAny (model W.prog W.w) A (pyIter v) (vD W A tt Q G s) mL s1) mL s
noncomputable def FK (W : Wd) (n : Nat) (H : HH) (p : PV) (Q : CL) : Prop :=
 ∀ A G s v, lb A n → HR W G H s → RV W G p v → wpAny (model W.prog W.w) A (pyIter v) (vD W A false Q G s) mL s
theorem vD.mono {W A tt} {Q Q' : CL} {G s v s'} (x : vD W A tt Q G s v s') (hq : ∀ xs H, Q xs H → Q' xs H) : vD W A tt Q' G s v s' := by
 obtain ⟨G', I, fp, wr, xs, H', St, a, b, c, d, f, g, h, i, j, k⟩ := x
 exact ⟨G', I, fp, wr, xs, H', St, a, b, c, d, f, g, h, i, j, hq _ _ k⟩
theorem vD.trans {W A tt Q G s G1 s1 v s'} (e : ky [] G s G1 s1) (x : vD W A tt Q G1 s1 v s') : vD W A tt Q G s v s' := by
 obtain ⟨G', I, fp, wr, xs, H', St, a, b, c, d, f, g, h, i, j, k⟩ := x
 exact ⟨G', I, fp, wr, xs, H', St, a, e.trans b, c, fun q hq hh => d q hq (e.there q hh), f, fun q hq hh => g q hq (e.there q hh), h, i, j, k⟩
section
variable {W : Wd} {n : Nat} {r : jr} {H : HH}
theorem uH {e} {Q : CL} (h : Ev W n r H e fun p H1 => FK W n H1 p Q) : tM W false n r H e Q := fun A env fa G s R hr f => by
 refine ay (h A env fa G s R hr f) (fun v s1 h1 => ?_) fun _ _ x => x
 obtain ⟨G1, p, H1, e1, r1, v1, q1⟩ := h1
 exact ay (q1 A G1 s1 v R r1 v1) (fun _ _ h => h.trans e1) fun _ _ x => x
theorem jF {α : Type} {M A s} {m : Sem α} {Q Q' : α → Shared → Prop} {E : Value → Shared → Prop} (h : wpAny M A m Q mL s) (hq : ∀ v s', Q v s' → Q' v s') : wpAny M A m Q' E s := ay h hq fun _ _ x => x.elim
inductive DZ (W : Wd) (Inv : CR) (r : jr) (H : HH) : Prop
 | mk (r4 : jr) (H4 : HH) (w : my W r H r4 H4) (i : Inv r4 H4)
theorem tM.mono {W n r H} {tt : Bool} {e : Expr} {Q Q' : CL} (h : tM W tt n r H e Q) (hq : ∀ xs H, Q xs H → Q' xs H) : tM W tt n r H e Q' := fun A env fa G s R hr f =>
 jF (h A env fa G s R hr f) fun _ _ h1 => jF h1 fun _ _ x => x.mono hq
noncomputable def jv (W : Wd) (Inv : CR) (Q : jH) : jH := fun fl r3 H3 => match fl with
 | .next => DZ W Inv r3 H3
 | .cont => DZ W Inv r3 H3
 | .brk => Q .next r3 H3
 | .ret p => Q (.ret p) r3 H3
theorem ky.fp {G s G' s'} {fa fp : List Addr} (e : ky fa G s G' s') (ho : ∀ b ∈ fp, G.own b = none) (hf : ∀ b ∈ fp, b ∉ fa) : ∀ b ∈ fp, ∀ o, s.heap.get? b = some o → s'.heap.get? b = some o := fun b hb o q => e.keep b o q (ho b hb) (hf b hb)
noncomputable def Of {α : Type} (I : (α → HH → Prop) → Prop) : α → HH → Prop := fun a H => ∀ C, I C → C a H
theorem Of.eq {α : Type} {I : (α → HH → Prop) → Prop} {a a' : α} {H} (e : a = a') (h : Of I a' H) : Of I a H := e ▸ h
theorem Of.eqH {α : Type} {I : (α → HH → Prop) → Prop} {a : α} {H H'} (e : H = H') (h : Of I a H') : Of I a H := e ▸ h
noncomputable abbrev IT (α : Type) := Nat → (α → HH → Prop) → Prop
noncomputable abbrev kEx (W : Wd) (n : Nat) (H : HH) (c : List Stmt) (Q : jH) : jr → Prop := fun r => lj W n r H c Q
noncomputable abbrev CG (W : Wd) (n : Nat) (x : Str) (v : PV) (c : List Stmt) (Q : jH) : CR := fun r H => lJ x v r (kEx W n H c Q)
inductive uI (W : Wd) (n : Nat) (r : jr) (tgt : Expr) (body : List Stmt) (Q : jH) (xs : List PV) (H1 : HH) : Prop
 | mk (Inv : Nat → CR) (i0 : Inv 0 r H1)
   (step : ∀ i x r' H', xs[i]? = some x → Inv i r' H' → Fo W n tgt x r' H' fun r2 H2 => lj W n r2 H2 body (jv W (Inv (i + 1)) Q))
   (fin : ∀ r' H', Inv xs.length r' H' → Q .next r' H')
inductive FL (W : Wd) (env : Env) (fa fp wr : List Addr) (xs : List PV) (St : Nat → Heap → Prop) (G G1 : Gh) (s : Shared) (Inv : Nat → CR) (k : Nat) (s' : Shared) : Prop
 | mk (i : Nat) (G' : Gh) (r' : jr) (H' : HH) (ek : k = xs.length + 1 - i) (hi : i ≤ xs.length) (st : St i s'.heap) (e : ky fa G s G' s') (hr : HR W G' H' s') (f : FR W env fa r' G' s'.heap) (gle : ∀ b o, G1.g b = some o → G'.g b = some o) (ow : ∀ b ∈ fp, G'.own b = none) (fr : uG W G' wr) (iv : Inv i r' H')
theorem m7 {tgt iter body pos} {tt : Bool} {Q : jH} (htt : tt = true → AP tgt = true) (h : tM W tt n r H iter (uI W n r tgt body Q))
  (hs : autoParam (∀ env x, foldedSetIterable iter env x = pure x) aI) : Ex W n r H (.For tgt iter body [] pos) Q := fun A env fa G s R hr f => by
 refine wpAny_For (ay (h A env fa G s R hr f) (fun xv s1 h1 => ay h1 (fun it s2 h2 => ?_) fun _ _ x => x) fun _ _ x => x) (hs env)
 obtain ⟨G1, I, fp, wr, xs, H1, St, rfl, e1, hr1, hnew, hown, hfz, hg, wk, st0, ⟨Inv, i0, step, fin⟩⟩ := h2
 have hfa : ∀ b ∈ fp, b ∉ fa := fun b hb hm => by
  obtain ⟨o, ho⟩ := hfz b hb (f.ownf b hm).2.2.2
  have := ((f.ext e1).ownf b hm).2.1
  rw [ho] at this; cases this
 refine codeAny_forLoop_any
  (FL W env fa fp wr xs St G G1 s Inv)
  ?_ (xs.length + 1) ⟨0, G1, r, H1, rfl, bF _, st0, e1.weak, hr1, f.ext e1, fun _ _ e => e, hown, ⟨fun b hb => hown b (wk.sub b hb), hg, fun b hb => hr.noB (hnew b hb)⟩, i0⟩
 rintro k s' ⟨i, G', r', H', rfl, hi, st, e', hr', f', gle, ow, fr, iv⟩
 by_cases hlt : i < xs.length
 ·obtain ⟨x, hx⟩ : ∃ x, xs[i]? = some x := ⟨xs[i], aG hlt⟩
  refine jF (wk.item tgt i H' G' s' x htt hr' gle fr st hx) ?_
  rintro _ s3 ⟨v, rfl, h3⟩
  refine jF h3 ?_
  rintro _ s4 ⟨G4, e4, hr4, v4, st4⟩
  have e4' := e'.turn e4 hnew
  have f4 := f'.turn e4 (fun b hb => hfa b (wk.sub b hb)) (wk.cell _ _ st)
  have hh4 : ∀ b ∈ fp, k9 s'.heap b := wk.has _ _ st
  have ow4 : ∀ b ∈ fp, G4.own b = none := fun b hb => by
   rcases e4.own b (hh4 b hb) with q | q
   ·rw [q]; exact ow b hb
   ·exact q
  refine jF (step i x r' H' hx iv A env fa G4 s4 v R hr4 f4 v4) ?_
  rintro _ s5 ⟨G5, r5, H5, e5, hr5, f5, b5⟩
  refine jF (b5 A env fa G5 s5 R hr5 f5) ?_
  rintro fl s6 ⟨G6, fl', r6, H6, e6, hr6, f6, hfl, q6⟩
  have e46 := e5.trans e6
  have e06 := e4'.trans e46
  have fin6 : ∀ r7 H7, my W r6 H6 r7 H7 → Inv (i + 1) r7 H7 → ∃ m, m < xs.length + 1 - i ∧ FL W env fa fp wr xs St G G1 s Inv m s6 := by
   intro r7 H7 w iv7
   obtain ⟨G7, e7, hr7, f7⟩ := w env fa G6 s6 hr6 f6
   have e47 := e46.trans e7.weak
   have h4 := wk.has _ _ st4
   have own7 : ∀ b ∈ fp, G7.own b = none := fun b hb => by
    rcases e47.own b (h4 b hb) with z | z
    ·rw [z]; exact ow4 b hb
    ·exact z
   have g7 : ∀ b ∈ wr, G7.g b = none := fun b hb => by
    rw [e47.gnew b (h4 b (wk.sub b hb)) (ow4 b (wk.sub b hb)), e4.gnew b (hh4 b (wk.sub b hb)) (ow b (wk.sub b hb))]
    exact fr.g b hb
   exact ⟨xs.length + 1 - (i + 1), by exact J5 4 hlt, i + 1, G7, r7, H7, rfl, hlt, wk.frame _ _ _ st4 (e47.fp ow4 hfa), e06.trans e7.weak, hr7, f7, fun b o q => e47.gle b o (e4.gle b o (gle b o q)), own7, ⟨fun b hb => own7 b (wk.sub b hb), g7, fr.B0⟩, iv7⟩
  cases fl' with
  | next =>
   cases hfl
   obtain ⟨r7, H7, w, iv7⟩ := q6
   exact fin6 r7 H7 w iv7
  | cont =>
   cases hfl
   obtain ⟨r7, H7, w, iv7⟩ := q6
   exact fin6 r7 H7 w iv7
  | brk => cases hfl; exact ⟨G6, .next, r6, H6, e06, hr6, f6, rfl, q6⟩
  | ret p =>
   have hfl' := hfl
   obtain ⟨v, e, hv⟩ := hfl
   subst e
   exact ⟨G6, .ret p, r6, H6, e06, hr6, f6, hfl', q6⟩
 ·have : i = xs.length := by exact J3 7 hi hlt
  subst this
  refine jF (wk.done H' G' s' hr' gle fr st) ?_
  rintro _ s3 ⟨rfl, G3, e3, hr3⟩
  refine gs ⟨G3, .next, r', H', e'.turn e3 hnew, hr3, f'.turn e3 (fun b hb => hfa b (wk.sub b hb)) (wk.cell _ _ st), rfl, fin _ _ iv⟩
end
set_option backward.match.sparseCases true
noncomputable def uJ (T : String) : Bool := !(["enumerate", "zip", "dict_itemiterator", "dict_reverseitemiterator", "odict_iterator", "itertools.zip_longest", "itertools.pairwise"].contains T)
theorem FM {prog : Program} {w : World} {A : Around} {E : Value → Shared → Prop} {s : Shared} {tgt : Expr} {I : Addr} {v : Value} {Q : Unit → Shared → Prop} {o : Obj} {T : String} {fs : Array Value} (ho : s.heap.get? I = some o) (hc : o.cls = .type T) (hd : o.data = .fields fs) (hp : uJ T = true) (h : Q () s) :
  wpAny (model prog w) A (letOwnedTupleGo tgt (.ref I) v) Q E s := by
 have key : ∀ a : Addr, wpAny (model prog w) A (do
   let o ← load I
   match o.cls, o.data with
   | .type n, .fields vs =>
    if ["enumerate", "zip", "dict_itemiterator", "dict_reverseitemiterator", "odict_iterator", "itertools.zip_longest", "itertools.pairwise"].contains n && vs[0]? == some (rawInt a) then
     rule "for.unpacks-the-owned-tuple"
     updateField I 0 .none
   | _, _ => pure ()) Q E s := by
  intro a
  refine aj (wpAny_load ho ?_)
  rw [hc, hd]
  have : (["enumerate", "zip", "dict_itemiterator", "dict_reverseitemiterator", "odict_iterator", "itertools.zip_longest", "itertools.pairwise"].contains T) = false := by
   unfold uJ at hp
   simpa using hp
  show wpAny _ A (if (["enumerate", "zip", "dict_itemiterator", "dict_reverseitemiterator", "odict_iterator", "itertools.zip_longest", "itertools.pairwise"].contains T && _ == _) = true then _ else _) Q E s
  rw [this, dZ, if_neg (by simp)]
  exact aB h
 unfold letOwnedTupleGo
 cases tgt <;> first | exact aB h | (cases v <;> first | exact aB h | exact key _)
section
variable {W : Wd} {A : Around}
theorem Wk.of_walks {G0 : Gh} {I : Addr} {fp : List Addr} {n : Nat} {P : Nat → Value → Prop} {St : Nat → Heap → Prop} {xs : List PV} (Wa : Walks W.prog W.w A I fp [I] n P St) (hn : n = xs.length)
  (hP : ∀ i x v, xs[i]? = some x → P i v → RV W G0 x v) (hcls : ∀ i h, St i h → (∃ o T fs, h.get? I = some o ∧ o.cls = .type T ∧ o.data = .fields fs ∧ uJ T = true)) (hhas : ∀ i h, St i h → ∀ b ∈ fp, k9 h b) : Wk W A false G0 I fp [I] xs St where
 sub := Wa.sub
 frame := Wa.frame
 cell := fun i h st b hb u => by
  have : b = I := by simpa using hb
  subst this
  obtain ⟨o, T, fs, ho, _, hd, _⟩ := hcls i h st
  rintro ⟨o', ho', hd'⟩
  rw [ho] at ho'; cases ho'; rw [hd] at hd'; cases hd'
 has := hhas
 self := Wa.self
 item := fun tgt i H G s x _ hr gle fr st hx => by
  have hi : i < n := by rw [hn]; exact (aA.mp hx).1
  refine Wa.item i s _ _ hi st fun v h' tk pv st' hk => ⟨v, rfl, ?_⟩
  obtain ⟨o, T, fs, ho, hc, hd, hp⟩ := hcls _ _ st'
  refine FM (s := { s with heap := h', toks := tk }) ho hc hd hp ⟨G, ⟨fun _ _ e => e, fun _ _ => .inl rfl, fun _ _ _ => rfl, hk⟩, hr.turn fr hk, (hP i x v hx pv).mono gle, st'⟩
 done := fun H G s hr gle fr st => Wa.done s _ _ (hn ▸ st) fun h' tk hk => ⟨rfl, G, ⟨fun _ _ e => e, fun _ _ => .inl rfl, fun _ _ _ => rfl, hk⟩, hr.turn fr hk⟩
end
section
variable {W : Wd} {n : Nat} {r : jr} {H : HH} {Q : CL}
theorem oi {G s} {o : Obj} (hr : HR W G H s) (hf : o.isFreed = false) : ∀ tk, HR W G H { s with heap := s.heap.push o, toks := tk } ∧ ky [] G s G { s with heap := s.heap.push o, toks := tk } := fun tk =>
 ⟨hr.kept (dr := s.drawn) (ju o), ky.kept (dr := s.drawn) (ju o)⟩
theorem CH {xs : List PV} (h : Q xs H) : FK W n H (.lst xs) Q := fun A G s v R hr hv => by
 obtain ⟨a, vs, m, rfl, e1, rs⟩ := hv
 have e2 := (hr.imm _ _ e1).1
 have ho := (hr.imm _ _ e1).2
 refine fJ (jq e2) ?_
 obtain ⟨x, y⟩ := oi (o := { cls := .type "list_iterator", data := .fields #[.ref a, .int 0 0] }) hr rfl s.toks
 have hnh : ¬ k9 s.heap s.heap.objs.size := ke (aU _)
 have hne : a ≠ s.heap.objs.size := fun q => hnh ⟨_, q ▸ e2⟩
 refine ⟨G, s.heap.objs.size, [s.heap.objs.size, a], [s.heap.objs.size], xs, H, _, rfl, y, x, fun b hb => ?_, fun b hb => ?_, fun b hb hh => ?_, fun b hb => ?_, Wk.of_walks (hJ R.hd s.heap.objs.size a hne vs.toArray) ?_ ?_ ?_ ?_, ⟨⟨_, aV _ rfl, rfl, rfl⟩, jq (ju _ _ _ e2)⟩, h⟩
 ·rw [aP.mp hb]; exact hnh
 ·rcases au.mp hb with q | hb
  ·rw [q]; exact hr.noOwn hnh
  ·have : b = a := by simpa using hb
   rw [this]; exact ho
 ·rcases au.mp hb with q | hb
  ·rw [q] at hh; exact absurd hh hnh
  ·have : b = a := by simpa using hb
   rw [this]; exact ⟨_, e1⟩
 ·rw [aP.mp hb]; exact hr.noG hnh
 ·rw [aH, rs.length]
 ·intro i x v hx hv
  obtain ⟨u, hu, ru⟩ := rs.get hx
  have : vs[i]? = some v := by simpa using hv
  rw [hu] at this; cases this; exact ru
 ·rintro i h ⟨⟨o, a1, a2, a3⟩, _⟩; exact ⟨o, _, _, a1, a2, a3, by decide⟩
 ·rintro i h ⟨⟨o, a1, a2, a3⟩, ⟨o', b1, _⟩⟩ b hb
  rcases au.mp hb with q | hb
  ·rw [q]; exact ⟨_, a1⟩
  ·have : b = a := by simpa using hb
   rw [this]; exact ⟨_, b1⟩
theorem CI {xs : List PV} (h : Q xs H) : FK W n H (.tup xs) Q := fun A G s v R hr hv => by
 obtain ⟨a, vs, rfl, ⟨o, e1, hc, k, hd⟩, rs⟩ := hv
 have e2 := (hr.imm _ _ e1).1
 have ho := (hr.imm _ _ e1).2
 have ht : s.heap.IsTuple a vs.toArray := ⟨_, e2, hc, k, hd⟩
 refine wpAny_pyIter_tuple ht ?_
 obtain ⟨x, y⟩ := oi (o := { cls := .type "tuple_iterator", data := .fields #[.ref a, .int 0 0] }) hr rfl s.toks
 have hnh : ¬ k9 s.heap s.heap.objs.size := ke (aU _)
 have hne : a ≠ s.heap.objs.size := fun q => hnh ⟨_, q ▸ e2⟩
 refine ⟨G, s.heap.objs.size, [s.heap.objs.size, a], [s.heap.objs.size], xs, H, _, rfl, y, x, fun b hb => ?_, fun b hb => ?_, fun b hb hh => ?_, fun b hb => ?_, Wk.of_walks (Walks.tuple R.hd s.heap.objs.size a hne vs.toArray) ?_ ?_ ?_ ?_, ⟨⟨_, aV _ rfl, rfl, rfl⟩, ⟨_, ju _ _ _ e2, hc, k, hd⟩⟩, h⟩
 ·rw [aP.mp hb]; exact hnh
 ·rcases au.mp hb with q | hb
  ·rw [q]; exact hr.noOwn hnh
  ·have : b = a := by simpa using hb
   rw [this]; exact ho
 ·rcases au.mp hb with q | hb
  ·rw [q] at hh; exact absurd hh hnh
  ·have : b = a := by simpa using hb
   rw [this]; exact ⟨_, e1⟩
 ·rw [aP.mp hb]; exact hr.noG hnh
 ·rw [aH, rs.length]
 ·intro i x v hx hv
  obtain ⟨u, hu, ru⟩ := rs.get hx
  have : vs[i]? = some v := by simpa using hv
  rw [hu] at this; cases this; exact ru
 ·rintro i h ⟨⟨o, a1, a2, a3⟩, _⟩; exact ⟨o, _, _, a1, a2, a3, by decide⟩
 ·rintro i h ⟨⟨o, a1, a2, a3⟩, ⟨o', b1, _⟩⟩ b hb
  rcases au.mp hb with q | hb
  ·rw [q]; exact ⟨_, a1⟩
  ·have : b = a := by simpa using hb
   rw [this]; exact ⟨_, b1⟩
noncomputable def tN (lo hi : Int) : List Int := (av (hi - lo).toNat).map fun (i : Nat) => lo + (i : Int)
theorem k6 {lo hi} : (tN lo hi).length = (hi - lo).toNat := by simp [tN]
theorem sL {lo hi : Int} {i : Nat} (h : i < (hi - lo).toNat) : (tN lo hi)[i]? = some (lo + i) := by simp [tN, h]
theorem yQ {lo hi : Int} (h0 : -(2 ^ 62) ≤ lo) (h1 : lo < 2 ^ 62) (h2 : -(2 ^ 62) ≤ hi) (h3 : hi < 2 ^ 62) : gU lo hi 1 = true := by
 unfold gU Builtin.Range.rangeFitsLong
 rw [rangeSize_nat]
 simp only [aX, decide_eq_true_eq, cO, beq_iff_eq]
 refine ⟨⟨⟨⟨⟨?_, ?_⟩, ?_, ?_⟩, ?_⟩, ?_, ?_⟩, ?_⟩ <;> first | lia | decide | skip
 right; simp; lia
theorem CJ {lo hi : Int} (h0 : -(2 ^ 62) ≤ lo) (h1 : lo < 2 ^ 62) (h2 : -(2 ^ 62) ≤ hi) (h3 : hi < 2 ^ 62) (h : Q ((tN lo hi).map .int) H) : FK W n H (.rng lo hi) Q := fun A G s v R hr hv => by
 obtain ⟨a, t, u, z, rfl, e1⟩ := hv
 have e2 := (hr.imm _ _ e1).1
 refine wpAny_pyIter_range e2 (yQ h0 h1 h2 h3) ?_
 rw [rangeSize_nat]
 obtain ⟨x, y⟩ := oi (o := { cls := .type "range_iterator", data := .fields #[rawInt lo, rawInt ((hi - lo).toNat : Int), rawInt 1] }) hr rfl s.toks
 have hnh : ¬ k9 s.heap s.heap.objs.size := ke (aU _)
 refine ⟨G, s.heap.objs.size, [s.heap.objs.size], [s.heap.objs.size], _, H, _, rfl, y, x, fun b hb => ?_, fun b hb => ?_, fun b hb hh => ?_, fun b hb => ?_, Wk.of_walks (Walks.range R.hd s.heap.objs.size lo 1 (hi - lo).toNat) ?_ ?_ ?_ ?_, ?_, h⟩
 ·rw [aP.mp hb]; exact hnh
 ·rw [aP.mp hb]; exact hr.noOwn hnh
 ·rw [aP.mp hb] at hh; exact absurd hh hnh
 ·rw [aP.mp hb]; exact hr.noG hnh
 ·rw [aa, k6]
 ·rintro i x v hx ⟨t, hv⟩
  rw [ax] at hx
  have hi : i < (hi - lo).toNat := by
   refine fy fun q => ?_
   rw [a9 (by rw [k6]; exact J10 10 q)] at hx; cases hx
  rw [sL hi] at hx
  cases hx
  exact show ∃ _, _ = _ from ⟨t, by rw [hv]; congr 1; exact J10 11⟩
 ·rintro i h st; exact ⟨_, _, _, st, rfl, rfl, by decide⟩
 ·rintro i h st b hb
  rw [aP.mp hb]; exact ⟨_, st⟩
 ·show IsRangeIter _ _ _ _ _
  have := aV s.heap (o := { cls := .type "range_iterator", data := .fields #[rawInt lo, rawInt ((hi - lo).toNat : Int), rawInt 1] }) rfl
  simpa using this
theorem CK {α : Type} {f : α → PV} {d : List (Int × α)} (h : Q (d.map fun p => .int p.1) H) : FK W n H (.dct (Dk f d)) Q := fun A G s v R hr hv => by
 obtain ⟨a, ds, m, rfl, e1, ⟨hsys, nd⟩, rs⟩ := hv
 have e2 := (hr.imm _ _ e1).1
 have ho := (hr.imm _ _ e1).2
 obtain ⟨kvs, kv, dof⟩ := j8 (W := W) (f := f) e2 nd rs
 obtain ⟨ep, dat⟩ := dof.dictAt
 refine wpAny_pyIter_dict hsys dat ?_
 obtain ⟨x, y⟩ := oi (o := { cls := .type "dict_keyiterator", data := .fields #[.ref a, .int 0 0, .int kvs.length 0, .int ep 0] }) hr rfl s.toks
 have hnh : ¬ k9 s.heap s.heap.objs.size := ke (aU _)
 have hne : a ≠ s.heap.objs.size := fun q => hnh ⟨_, q ▸ e2⟩
 refine ⟨G, s.heap.objs.size, [s.heap.objs.size, a], [s.heap.objs.size], _, H, _, rfl, y, x, fun b hb => ?_, fun b hb => ?_, fun b hb hh => ?_, fun b hb => ?_, Wk.of_walks (Walks.dictKeys R.hd s.heap.objs.size a hne kvs ep) ?_ ?_ ?_ ?_, ⟨⟨_, aV _ rfl, rfl, rfl⟩, dat.push _⟩, h⟩
 ·rw [aP.mp hb]; exact hnh
 ·rcases au.mp hb with q | hb
  ·rw [q]; exact hr.noOwn hnh
  ·have : b = a := by simpa using hb
   rw [this]; exact ho
 ·rcases au.mp hb with q | hb
  ·rw [q] at hh; exact absurd hh hnh
  ·have : b = a := by simpa using hb
   rw [this]; exact ⟨_, e1⟩
 ·rw [aP.mp hb]; exact hr.noG hnh
 ·rw [kv.length, aa]
 ·rintro i x v hx ⟨k, w, hk, hkv⟩
  have h1 : (kvs.map ai)[i]? = some k := by rw [ax, hk]; rfl
  rw [kv.keys, ax] at h1
  rw [ax] at hx
  cases hd : d[i]? with
  | none => rw [hd] at hx; cases hx
  | some p =>
   rw [hd] at hx h1
   simp only [gu, ii] at hx h1
   subst hx; subst h1
   exact fH hkv
 ·rintro i h ⟨⟨o, a1, a2, a3⟩, _⟩; exact ⟨o, _, _, a1, a2, a3, by decide⟩
 ·rintro i h ⟨⟨o, a1, a2, a3⟩, ⟨o', es, b1, _⟩⟩ b hb
  rcases au.mp hb with q | hb
  ·rw [q]; exact ⟨_, a1⟩
  ·have : b = a := by simpa using hb
   rw [this]; exact ⟨_, b1⟩
end
set_option backward.match.sparseCases false
section
variable {W : Wd} {n : Nat} {r : jr} {H : HH}
inductive AQ (Inv : Nat → CR) (k : Nat) (r : jr) (H : HH) : Prop
 | mk (j : Nat) (hj : j < k) (i : Inv j r H)
inductive WhI (W : Wd) (env : Env) (fa : List Addr) (G : Gh) (s : Shared) (Inv : Nat → CR) (k : Nat) (s' : Shared) : Prop
 | mk (G' : Gh) (r' : jr) (H' : HH) (e : ky fa G s G' s') (hr : HR W G' H' s') (f : FR W env fa r' G' s'.heap) (iv : Inv k r' H')
theorem AS {test body pos} {Q : jH} (Inv : Nat → CR) (m : Nat) (h0 : Inv m r H)
  (step : ∀ k r' H', Inv k r' H' → Tv W n r' H' test fun b H1 => jA b (lj W n r' H1 body (jv W (AQ Inv k) Q)) (Q .next r' H1)) : Ex W n r H (.While test body [] pos) Q := fun A env fa G s R hr f => by
 refine wpAny_While ?_
 refine codeAny_whileLoop (WhI W env fa G s Inv) ?_ m ⟨G, r, H, ky.refl, hr, f, h0⟩
 rintro k s' ⟨G', r', H', e', hr', f', iv⟩
 refine jF (step k r' H' iv A env fa G' s' R hr' f') ?_
 rintro b s1 ⟨G1, H1, e1, hr1, q1⟩
 cases b with
 | true =>
  skip
  refine jF (q1.1 rfl A env fa G1 s1 R hr1 (f'.ext e1)) ?_
  rintro fl s2 ⟨G2, fl', r2, H2, e2, hr2, f2, hfl, q2⟩
  have e02 := (e'.trans e1.weak).trans e2
  have fin2 : ∀ r3 H3, my W r2 H2 r3 H3 → AQ Inv k r3 H3 → ∃ m, m < k ∧ WhI W env fa G s Inv m s2 := by
   rintro r3 H3 w ⟨j, hj, iv3⟩
   obtain ⟨G3, e3, hr3, f3⟩ := w env fa G2 s2 hr2 f2
   exact ⟨j, hj, G3, r3, H3, e02.trans e3.weak, hr3, f3, iv3⟩
  cases fl' with
  | next => cases hfl; obtain ⟨r7, H7, w, iv7⟩ := q2; exact fin2 r7 H7 w iv7
  | cont => cases hfl; obtain ⟨r7, H7, w, iv7⟩ := q2; exact fin2 r7 H7 w iv7
  | brk => cases hfl; exact ⟨G2, .next, r2, H2, e02, hr2, f2, rfl, q2⟩
  | ret p =>
   have hfl' := hfl
   obtain ⟨v, e, hv⟩ := hfl
   subst e
   exact ⟨G2, .ret p, r2, H2, e02, hr2, f2, hfl', q2⟩
 | false =>
  skip
  exact gs ⟨G1, .next, r', H1, e'.trans e1.weak, hr1, f'.ext e1, rfl, q1.2 rfl⟩
theorem HR.addAt {G} {s : Shared} {T : Addr} {o : Obj} (x : HR W G H s) (ho : s.heap.get? T = some o) (hn : G.own T = none) (hg : G.g T = none) : HR W (G.addG T o) H s where
 bas := fun b ob e => by
  show (if b = T then some o else G.g b) = some ob
  rw [if_neg (fun q => by have := x.bas b ob e; rw [q, hg] at this; cases this)]; exact x.bas b ob e
 bown := x.bown
 imm := fun b ob e => by
  have e' : (if b = T then some o else G.g b) = some ob := e
  by_cases hb : b = T
  ·rw [if_pos hb] at e'; cases e'; subst hb; exact ⟨ho, hn⟩
  ·rw [if_neg hb] at e'; exact x.imm b ob e'
 nodup := x.nodup
 slot := fun c ob hm => (x.slot c ob hm).mono (fun b ob e => by
  show (if b = _ then _ else _) = _
  rw [if_neg (fun q => by rw [q, hg] at e; cases e)]; exact e) (fun b ob _ e => e) fun _ e => e
 os := x.os
 gens := x.gens
noncomputable def sM (xs : List PV) : List PV := (xs.zip (av xs.length)).map fun q => .tup [.int (q.2 : Int), q.1]
theorem mV {xs} : (sM xs).length = xs.length := by simp [sM]
theorem qU {xs : List PV} {i : Nat} {p : PV} (h : (sM xs)[i]? = some p) : ∃ x, xs[i]? = some x ∧ p = .tup [.int (i : Int), x] := by
 have hi : i < xs.length := by rw [← mV]; exact (aA.mp h).1
 refine ⟨xs[i], aG hi, ?_⟩
 have : (sM xs)[i]? = some (.tup [.int (i : Int), xs[i]]) := by
  simp [sM, ax, fA, hi]
 rw [h] at this; exact bD this
inductive FN (ps : List PV) (K : List PV → Prop) : Prop
 | mk (xs : List PV) (e : ps = [.lst xs]) (q : K xs)
theorem vE {x p args pos} {Q : CL} (hm : (x, Bd.glb) ∈ r) (hv : W.mg x = none) (hb : bootBuiltins x = some (.type "enumerate")) (hs : args.all jE = true)
  (h : nR W n r H args fun ps H1 => FN ps fun xs => Q (sM xs) H1) (hne : x ≠ "__name__") (hd : autoParam ((x == ("__debug__" : Str)) = false) aD) :
  tM W true n r H (.Call (.Name x p) args [] pos) Q := fun A env fa G s R hr fr => by
 refine mw hs (pR hr fr hm hv hb ?_ p hne hd)
 refine fi nV (kK (ay (h A env fa G s R hr fr) (fun vs s1 h1 => ?_) fun _ _ x => x))
 obtain ⟨G1, ps, H1, e1, r1, v1, ⟨xs, rfl, q1⟩⟩ := h1
 obtain ⟨v, _, rfl, v1, rfl⟩ := v1
 obtain ⟨l, vs, m, rfl, hg, rs⟩ := v1
 have hl := (r1.imm _ _ hg).1
 have ho := (r1.imm _ _ hg).2
 refine call_enumerate_1 hl fun h' hE hI hsz hk => ?_
 refine wpAny_pyIter_enum hE ?_
 have hr' : HR W G1 H1 { s1 with heap := h' } := r1.kept (tk := s1.toks) (dr := s1.drawn) hk
 have hi0 : ¬ k9 s1.heap s1.heap.objs.size := ke (aU _)
 have he0 : ¬ k9 s1.heap (s1.heap.objs.size + 1) := ke (cW _)
 have hl0 : k9 s1.heap l := ⟨_, hl⟩
 have hle : l ≠ s1.heap.objs.size + 1 := fun q => he0 (q ▸ hl0)
 have hli : l ≠ s1.heap.objs.size := fun q => hi0 (q ▸ hl0)
 have hee : s1.heap.objs.size + 1 ≠ s1.heap.objs.size := iD _
 have Wt := WalksT.enumerate (prog := W.prog) (w := W.w) R.hd (s1.heap.objs.size + 1) s1.heap.objs.size l hee hle hli vs.toArray
 have wrn : ∀ b ∈ [s1.heap.objs.size + 1, s1.heap.objs.size], ¬ k9 s1.heap b := fun b hb => by
  rcases au.mp hb with q | hb
  ·rw [q]; exact he0
  ·rw [aP.mp hb]; exact hi0
 have fpn : ∀ b ∈ [s1.heap.objs.size + 1, s1.heap.objs.size, l], ¬ k9 s1.heap b ∨ b = l := fun b hb => by
  rcases au.mp hb with q | hb
  ·rw [q]; exact .inl he0
  ·rcases au.mp hb with q | hb
   ·rw [q]; exact .inl hi0
   ·rw [aP.mp hb]; exact .inr rfl
 refine ⟨G1, s1.heap.objs.size + 1, [s1.heap.objs.size + 1, s1.heap.objs.size, l], [s1.heap.objs.size + 1, s1.heap.objs.size], sM xs, H1, fun i h => (∃ old, IsEnum h (s1.heap.objs.size + 1) s1.heap.objs.size (((i : Nat) : Int)) old) ∧ h.IsListIter s1.heap.objs.size l i ∧ h.IsList l vs.toArray, rfl, e1.trans (ky.kept (tk := s1.toks) (dr := s1.drawn) hk), hr', fun b hb hh => wrn b hb (e1.there b hh), fun b hb => ?_, fun b hb hh => ?_, fun b hb => r1.noG (wrn b hb), ?_, ⟨⟨_, hE⟩, hI, jq (hk _ _ hl)⟩, q1⟩
 ·rcases fpn b hb with q | q
  ·exact r1.noOwn q
  ·rw [q]; exact ho
 ·rcases fpn b hb with q | q
  ·exact absurd (e1.there b hh) q
  ·rw [q]; exact ⟨_, hg⟩
 ·refine { sub := Wt.sub, frame := Wt.frame, self := Wt.self, cell := fun i h st b hb u => ?_, has := fun i h st b hb => ?_, item := fun tgt i H G s x htt hr gle fr st hx => ?_, done := fun H G s hr gle fr st => ?_ }
  ·obtain ⟨⟨old, a⟩, ⟨o, b1, b2, b3⟩, c⟩ := st
   rintro ⟨oc, hc, hd⟩
   rcases au.mp hb with q | hb
   ·rw [q, a] at hc; cases hc; cases hd
   ·rw [aP.mp hb, b1] at hc; cases hc; rw [b3] at hd; cases hd
  ·obtain ⟨⟨old, a⟩, ⟨o, b1, b2, b3⟩, ⟨oc, c1, _⟩⟩ := st
   rcases au.mp hb with q | hb
   ·rw [q]; exact ⟨_, a⟩
   ·rcases au.mp hb with q | hb
    ·rw [q]; exact ⟨_, b1⟩
    ·rw [aP.mp hb]; exact ⟨_, c1⟩
  ·have htt' := htt rfl
   obtain ⟨x, hx', rfl⟩ := qU hx
   obtain ⟨v, hv, rv⟩ := rs.get hx'
   have hi : i < vs.toArray.size := by
    rw [aH]; exact (aA.mp hv).1
   refine Wt.item i s _ _ hi st fun T vals h' tk pt hT ht hmid hk => ⟨_, rfl, ?_⟩
   cases tgt with
   | Tuple elts k pos =>
    refine Wt.go elts k pos i T _ _ _ hmid fun h'' st'' hk'' => ?_
    obtain ⟨o, ho, hoc, ho'⟩ := ht
    have hTw := Wt.apart _ _ _ hmid
    have hk2 : ∀ b o, b ∉ [s1.heap.objs.size + 1, s1.heap.objs.size] → s.heap.get? b = some o → h''.get? b = some o := fun b o hb e => hk'' b o hb (hk b o hb e)
    have hT' : ¬ k9 s.heap T := ke hT
    refine ⟨G.addG T o, ⟨fun b ob e => ?_, fun _ _ => .inl rfl, fun b hb _ => ?_, hk2⟩, (hr.turn (tk := tk) fr hk2).addAt (hk'' T o hTw ho) (hr.noOwn hT') (hr.noG hT'), ?_, st''⟩
    ·show (if b = _ then _ else _) = _
     rw [if_neg (fun q => by rw [q, hr.noG hT'] at e; cases e)]; exact e
    ·show (if b = _ then _ else _) = _
     rw [if_neg (fun q => hT' (by rw [← q]; exact hb))]
    ·obtain ⟨t, x', hx2, rfl⟩ := pt
     have : x' = v := by
      have h2 : vs[i]? = some x' := by simpa using hx2
      rw [hv] at h2; exact (bD h2).symm
     subst this
     refine vl.mk T [.int i t, x'] rfl ⟨o, if_pos rfl, hoc, ho'⟩ ?_
     refine jY.cons (show ∃ _, _ = _ from ⟨t, rfl⟩) (jY.one (rv.mono fun b ob e => ?_))
     show (if b = _ then _ else _) = _
     have e := gle b ob e
     rw [if_neg (fun q => by rw [q, hr.noG hT'] at e; cases e)]; exact e
   | _ => exact absurd (htt rfl) dO
  ·rw [mV, ← rs.length] at st
   exact Wt.done s _ _ (by simpa using st) fun h' tk hk => ⟨rfl, G, ⟨fun _ _ e => e, fun _ _ => .inl rfl, fun _ _ _ => rfl, hk⟩, hr.turn fr hk⟩
end
theorem FR.hid {W env fa r G h} (x : FR W env fa r G h) (R : HH) : FR W env fa r (G.hid R) h where
 kind := x.kind
 glo := x.glo
 blt := x.blt
 nodup := x.nodup
 ns := by
  obtain ⟨m, hn, hm⟩ := x.ns
  exact ⟨m, hn, fun y c v a b => by obtain ⟨cv, p, q⟩ := hm y c v a b; exact ⟨cv, p, q.mono (G' := G.hid R) fun b o (e : G.g b = some o) => e⟩⟩
 glb := x.glb
 loc := fun y b ov hy => by
  rcases x.loc y b ov hy with h | ⟨hb, hk, c, u, h1, h2, h6, h7⟩
  ·exact .inl h
  ·exact .inr ⟨hb, hk, c, u, h1, h2, h6, fun v e => by obtain ⟨cv, p, q⟩ := h7 v e; exact ⟨cv, p, q.mono (G' := G.hid R) fun b o (e : G.g b = some o) => e⟩⟩
 fre := fun y v hy => by
  obtain ⟨hk, c, cv, h1, h2, h3, h4, h5, h6, h7⟩ := x.fre y v hy
  exact ⟨hk, c, cv, h1, h2, Gh.hid_none h3, h4, h5, h6, h7.mono (G' := G.hid R) fun b o (e : G.g b = some o) => e⟩
 locf := x.locf
 ownf := fun a ha => by
  obtain ⟨h1, h2, h3, h4⟩ := x.ownf a ha
  exact ⟨Gh.hid_none h1, h2, h3, h4⟩
 apart := x.apart
section
variable {W : Wd} {n : Nat} {r : jr} {H : HH}
theorem Ev.frame {P R e} {Q : CV} (sp : jI H P R) (h : Ev W n r P e fun p P' => Q p (P' ++ R)) : Ev W n r H e Q := fun A env fa G s Rm hr f => by
 refine jF (h A env fa (G.hid R) s Rm (hr.hide sp) (f.hid R)) fun v s1 ⟨G1, p, P', e1, r1, v1, q1⟩ => ?_
 obtain ⟨e2, r2⟩ := hr.unhide sp e1 r1
 exact ⟨_, p, _, e2, r2, v1.mono (G' := G1.show_ G R) (fun b o (e : G1.g b = some o) => e), q1⟩
theorem Tv.frame {P R e} {Q : CB} (sp : jI H P R) (h : Tv W n r P e fun p P' => Q p (P' ++ R)) : Tv W n r H e Q := fun A env fa G s Rm hr f => by
 refine jF (h A env fa (G.hid R) s Rm (hr.hide sp) (f.hid R)) fun v s1 ⟨G1, P', e1, r1, q1⟩ => ?_
 obtain ⟨e2, r2⟩ := hr.unhide sp e1 r1
 exact ⟨_, _, e2, r2, q1⟩
inductive EB (Q : CV) (p : PV) (H1 : HH) : Prop
 | mk (K S K' : HH) (q : PV) (sp : jI H1 K S) (rf : pp S p q) (hw : mS S K K') (k : Q q K')
theorem Ev.frz {e} {Q : CV} (h : Ev W n r H e (EB Q)) : Ev W n r H e Q := fun A env fa G s Rm hr f => by
 refine jF (h A env fa G s Rm hr f) fun v s1 h1 => ?_
 obtain ⟨G1, p, P', e1, r1, v1, ⟨K, S, K', q, sp, rf, hw, q1⟩⟩ := h1
 obtain ⟨e2, y, hy, _⟩ := r1.freeze2 sp hw
 exact ⟨_, q, K', e1.trans e2, y, hy _ _ _ rf v1, q1⟩
end
theorem HR.perm {W G H H' s} (x : HR W G H s) (p : H.Perm H') : HR W G H' s where
 bas := x.bas
 bown := x.bown
 imm := x.imm
 nodup := (p.map _).nodup_iff.mp x.nodup
 slot := fun a o hm => x.slot a o (p.mem_iff.mpr hm)
 os := x.os
 gens := x.gens
theorem jI.snoc {H : HH} {d} : jI (H ++ [d]) H [d] := by
 induction H with
 | nil => exact .r .nil
 | cons _ _ ih => exact .l ih
theorem kO.snoc {H : HH} {a o o'} : kO a o o' (H ++ [(a, o)]) (H ++ [(a, o')]) := by
 induction H with
 | nil => exact .head
 | cons _ _ ih => exact .tail ih
theorem lk.again {x p q} {r r1 r2 : jr} (a : lk x p r r1) (b : lk x q r r2) (hn : (r.map ai).Nodup) : lk x q r1 r2 := by
 induction a generalizing r2 with
 | head =>
  rw [aC, aY] at hn
  cases b with
  | head => exact .head
  | tail b => obtain ⟨_, _, h, _⟩ := b.there; exact absurd (aO (f := ai) h) hn.1
 | tail a ih =>
  rw [aC, aY] at hn
  cases b with
  | head => obtain ⟨_, _, h, _⟩ := a.there; exact absurd (aO (f := ai) h) hn.1
  | tail b => exact .tail (ih b hn.2)
inductive k7 (r : jr) : List (Str × NameKind) → jr → Prop
 | nil : k7 r [] []
 | glb {x ns r'} : k7 r ns r' → k7 r ((x, .globalImplicit) :: ns) ((x, .glb) :: r')
 | loc {x ns r'} : k7 r ns r' → k7 r ((x, .local) :: ns) ((x, .loc false none) :: r')
 | cel {x ns r'} : k7 r ns r' → k7 r ((x, .cell) :: ns) ((x, .loc true none) :: r')
 | capL {x v ns r'} : (x, Bd.loc true (some v)) ∈ r → k7 r ns r' → k7 r ((x, .free) :: ns) ((x, .fre v) :: r')
 | capF {x v ns r'} : (x, Bd.fre v) ∈ r → k7 r ns r' → k7 r ((x, .free) :: ns) ((x, .fre v) :: r')
theorem k7.keys {r ns r'} (h : k7 r ns r') : r'.map ai = ns.map ai := by
 induction h with
 | nil => rfl
 | glb _ ih => simp only [aC, ih]
 | loc _ ih => simp only [aC, ih]
 | cel _ ih => simp only [aC, ih]
 | capL _ _ ih => simp only [aC, ih]
 | capF _ _ ih => simp only [aC, ih]
inductive xI (r : jr) (ns : List (Str × NameKind)) (x : Str) (b : Bd) : Prop
 | g (e : b = .glb) (h : (x, fW) ∈ ns)
 | l (e : b = .loc false none) (h : (x, NameKind.local) ∈ ns)
 | c (e : b = .loc true none) (h : (x, fN) ∈ ns)
 | f (v : PV) (e : b = .fre v) (h : (x, cq) ∈ ns) (k : (x, Bd.loc true (some v)) ∈ r ∨ (x, Bd.fre v) ∈ r)
theorem xI.tl {r ns x b p} (h : xI r ns x b) : xI r (p :: ns) x b := by
 cases h with
 | g e h => exact .g e (.tail _ h)
 | l e h => exact .l e (.tail _ h)
 | c e h => exact .c e (.tail _ h)
 | f v e h k => exact .f v e (.tail _ h) k
theorem k7.mem {r ns r'} (h : k7 r ns r') {x b} (hm : (x, b) ∈ r') : xI r ns x b := by
 induction h with
 | nil => cases hm
 | glb _ ih => cases hm with
  | head => exact .g rfl (.head _)
  | tail _ hm => exact (ih hm).tl
 | loc _ ih => cases hm with
  | head => exact .l rfl (.head _)
  | tail _ hm => exact (ih hm).tl
 | cel _ ih => cases hm with
  | head => exact .c rfl (.head _)
  | tail _ hm => exact (ih hm).tl
 | capL h0 _ ih => cases hm with
  | head => exact .f _ rfl (.head _) (.inl h0)
  | tail _ hm => exact (ih hm).tl
 | capF h0 _ ih => cases hm with
  | head => exact .f _ rfl (.head _) (.inr h0)
  | tail _ hm => exact (ih hm).tl
theorem k7.free {r ns r'} (h : k7 r ns r') {x} (hm : (x, cq) ∈ ns) : ∃ v, ((x, Bd.loc true (some v)) ∈ r ∨ (x, Bd.fre v) ∈ r) := by
 induction h with
 | nil => cases hm
 | glb _ ih => rcases au.mp hm with e | hm; cases e; exact ih hm
 | loc _ ih => rcases au.mp hm with e | hm; cases e; exact ih hm
 | cel _ ih => rcases au.mp hm with e | hm; cases e; exact ih hm
 | capL h0 _ ih =>
  rcases au.mp hm with e | hm
  ·cases e; exact ⟨_, .inl h0⟩
  ·exact ih hm
 | capF h0 _ ih =>
  rcases au.mp hm with e | hm
  ·cases e; exact ⟨_, .inr h0⟩
  ·exact ih hm
theorem FR.cap {W env fa r G h} (f : FR W env fa r G h) {x v} (hm : (x, Bd.loc true (some v)) ∈ r ∨ (x, Bd.fre v) ∈ r) :
  env.kindOf x = some .cell ∧ ∃ c cv, env.cells.lookup x = some c ∧ h.IsCell c (some cv) ∧ G.own c = none ∧ G.g c = none ∧ W.B0.get? c = none ∧ RV W G v cv := by
 rcases hm with hm | hm
 ·rcases f.loc x _ _ hm with ⟨q, _⟩ | ⟨_, hk, c, u, h1, h2, h6, h7⟩
  ·cases q
  ·obtain ⟨cv, q1, q2⟩ := h7 v rfl
   obtain ⟨a1, a2, a3, a4⟩ := f.ownf c h6
   exact ⟨hk, c, cv, h1, q1 ▸ h2, a1, a2, a3, q2⟩
 ·obtain ⟨hk, c, cv, h1, h2, h3, h4, h5, h6, h7⟩ := f.fre x v hm
  exact ⟨hk, c, cv, h1, h2, h3, h4, h5, h7⟩
noncomputable def kl (env : Env) : List (Str × NameKind) → List (Str × Addr) → List (Str × Addr)
 | [], acc => acc
 | (x, k) :: r, acc => kl env r (if k == .free then (x, (env.cells.lookup x).getD 0) :: acc else acc)
theorem nK {env : Env} {x k r acc} : kl env ((x, k) :: r) acc = kl env r (if k == .free then (x, (env.cells.lookup x).getD 0) :: acc else acc) := rfl
theorem qV {env : Env} (F : Str × NameKind → List (Str × Addr) → Sem (ForInStep (List (Str × Addr))))
  (hF : ∀ x k cs, F (x, k) cs = if k == .free then (do let a ← cellOf env x; pure (.yield ((x, a) :: cs))) else pure (.yield cs)) :
  ∀ (names : List (Str × NameKind)) (acc : List (Str × Addr)), (∀ x, (x, cq) ∈ names → ∃ c, env.cells.lookup x = some c) → (forIn names acc F : Sem _) = pure (kl env names acc)
 | [], acc, _ => by rw [gF]; rfl
 | (x, k) :: r, acc, h => by
  rw [eI, hF, nK]
  split
  ·rename_i hk
   have hk' : k = .free := by simpa using hk
   subst hk'
   obtain ⟨c, hc⟩ := h x (.head _)
   have : cellOf env x = pure c := by unfold cellOf; rw [hc]
   rw [this, hc]
   show (forIn r _ F : Sem _) = _
   exact qV F hF r _ fun y hy => h y (.tail _ hy)
  ·show (forIn r _ F : Sem _) = _
   exact qV F hF r _ fun y hy => h y (.tail _ hy)
theorem wI {scope : Scope} {env : Env} (h : ∀ x, (x, cq) ∈ scope.names → ∃ c, env.cells.lookup x = some c) : closureFor scope env = pure (kl env scope.names []) := by
 unfold closureFor
 refine (congrArg (fun m : Sem (List (Str × Addr)) => m >>= fun cs => pure cs) (qV _ (fun x k cs => ?_) scope.names [] h)).trans rfl
 cases hk : k == cq <;> simp [hk]
theorem qm {env : Env} : ∀ {names : List (Str × NameKind)} {acc : List (Str × Addr)}, (∀ x, (x, cq) ∈ names → ∃ c, env.cells.lookup x = some c) → ∀ {x c}, (x, c) ∈ kl env names acc → (x, c) ∈ acc ∨ ((x, cq) ∈ names ∧ env.cells.lookup x = some c)
 | [], acc, _, x, c, h => .inl h
 | (y, k) :: r, acc, hc, x, c, h => by
  rw [nK] at h
  rcases qm (fun z hz => hc z (.tail _ hz)) h with h | ⟨h, h'⟩
  ·by_cases hk : (k == cq) = true
   ·have hk' : k = .free := by simpa using hk
    subst hk'
    rw [if_pos hk] at h
    rcases au.mp h with e | h
    ·cases e
     obtain ⟨c', hc'⟩ := hc _ (.head _)
     exact .inr ⟨.head _, by rw [hc']; rfl⟩
    ·exact .inl h
   ·rw [if_neg hk] at h; exact .inl h
  ·exact .inr ⟨.tail _ h, h'⟩
theorem se {env : Env} : ∀ {names : List (Str × NameKind)} {acc : List (Str × Addr)} {x c}, ((x, c) ∈ acc ∨ ((x, cq) ∈ names ∧ env.cells.lookup x = some c)) → (x, c) ∈ kl env names acc
 | [], acc, x, c, h => by
  rcases h with h | ⟨h, _⟩
  ·exact h
  ·cases h
 | (y, k) :: r, acc, x, c, h => by
  rw [nK]
  rcases h with h | ⟨h, h'⟩
  ·refine se (.inl ?_)
   split
   ·exact .tail _ h
   ·exact h
  ·rcases au.mp h with e | h
   ·cases e
    refine se (.inl ?_)
    rw [if_pos (by rfl), h']
    exact .head _
   ·exact se (.inr ⟨h, h'⟩)
theorem ml : ∀ (names : List (Str × NameKind)) (n : Nat) (acc : List (Str × Addr)), cellsFrom n names acc = cellsFrom n names [] ++ acc
 | [], n, acc => rfl
 | (x, k) :: r, n, acc => by
  rw [cellsFrom, cellsFrom]
  split
  ·rw [ml r _ ((x, n) :: acc), ml r _ [(x, n)], fK]; rfl
  ·exact ml r n acc
theorem qW : ∀ (names : List (Str × NameKind)) (n : Nat) (acc : List (Str × Addr)) {x c}, (x, c) ∈ cellsFrom n names acc → (x, c) ∈ acc ∨ (x, fN) ∈ names
 | [], n, acc, x, c, h => .inl h
 | (y, k) :: r, n, acc, x, c, h => by
  rw [cellsFrom] at h
  split at h
  ·rename_i hk
   have hk' : k = .cell := by simpa using hk
   subst hk'
   rcases qW r _ _ h with h | h
   ·rcases au.mp h with e | h
    ·cases e; exact .inr (.head _)
    ·exact .inl h
   ·exact .inr (.tail _ h)
  ·exact (qW r _ _ h).imp id (.tail _)
theorem sN {l : List (Str × Addr)} {x : Str} {c : Addr} (h1 : (x, c) ∈ l) (h2 : ∀ c', (x, c') ∈ l → c' = c) : l.lookup x = some c := by
 induction l with
 | nil => cases h1
 | cons p l ih =>
  obtain ⟨y, d⟩ := p
  rw [dF]
  cases hy : x == y with
  | true =>
   have : x = y := by simpa using hy
   subst this
   rw [h2 d (.head _)]
  | false =>
   refine ih ?_ fun c' h => h2 c' (.tail _ h)
   rcases au.mp h1 with e | h
   ·cases e; simp at hy
   ·exact h
theorem tO {M : Model} {A : Around} {E : Value → Shared → Prop} {s : Shared} {scope : Scope} {globals : Addr} {cl : List (Str × Addr)} {qual : Str} {env : Env} {Q : Env → Shared → Prop}
  (h : Q { scope := scope, locals := s.heap.objs.size, globals := globals, cells := cellsFrom (s.heap.objs.size + 1) scope.names cl, qual := qual, func := none, code := env.code, frame := env.frame, builtins := env.builtins } { s with heap := pushCells (s.heap.push { cls := .type "dict", data := .dict #[] }) scope.names }) :
  wpAny M A (newFunctionEnv scope globals cl [] qual none .none (some env)) Q E s := by
 simp only [newFunctionEnv, hV, if_true]
 refine aj (wpAny_alloc ?_)
 refine aj (wpAny_layCells _ (fun name kind cells => by cases hkc : kind == fN <;> simp [hkc]) _ _ _ _ ?_)
 rw [show ({ s with heap := s.heap.push { cls := .type "dict", data := .dict #[] } } : Shared).heap.objs.size = s.heap.objs.size + 1 from cL ..]
 exact aj (aB (aB h))
noncomputable def oV (scope : Scope) (cl : List (Str × Addr)) (L : Addr) (env : Env) : Env :=
 { scope := relabel scope env, locals := L, globals := env.globals, cells := cellsFrom (L + 1) scope.names cl, qual := env.qual, func := none, code := env.code, frame := env.frame, builtins := env.builtins }
theorem mW {scope : Scope} {env : Env} (hn : (scope.names.map ai).Nodup) {x k} (h : (x, k) ∈ scope.names) :
  (relabel scope env).names.lookup x = some (if (k == .free && env.scope.kind == .function && env.kindOf x == some .cell) = true then .cell else k) := by
 have hk : ((relabel scope env).names.map ai) = scope.names.map ai := by
  show (cT _ (cT _ _)) = _
  rw [aW]
  refine bQ fun a ha => ?_
  show (if _ then _ else _ : Str × NameKind).1 = a.1
  split <;> rfl
 refine jC (by rw [hk]; exact hn) ?_
 show _ ∈ cT _ _
 refine az.mpr ⟨(x, k), h, ?_⟩
 show (if _ then _ else _ : Str × NameKind) = _
 split <;> rfl
section
variable {W : Wd} {n : Nat} {r : jr} {H : HH}
theorem CM {env fa G} {s : Shared} {scope : Scope} {cr : jr} (hr : HR W G H s) (f : FR W env fa r G s.heap) (hk : scope.kind = .function) (hn : (scope.names.map ai).Nodup) (cp : k7 r scope.names cr) :
  (∀ b o, s.heap.get? b = some o → (pushCells (s.heap.push { cls := .type "dict", data := .dict #[] }) scope.names).get? b = some o) ∧
  ∃ fc, (∀ a ∈ fc, ¬ k9 s.heap a) ∧ FR W (oV scope (kl env scope.names []) s.heap.objs.size env) fc cr G (pushCells (s.heap.push { cls := .type "dict", data := .dict #[] }) scope.names) := by
 have hfree : ∀ x, (x, cq) ∈ scope.names → ∃ c, env.cells.lookup x = some c := fun x hx => by
  obtain ⟨v, hv⟩ := cp.free hx
  obtain ⟨_, c, _, h, _⟩ := f.cap hv
  exact ⟨c, h⟩
 have hkp : ∀ b o, s.heap.get? b = some o → (pushCells (s.heap.push { cls := .type "dict", data := .dict #[] }) scope.names).get? b = some o := fun b o e => pushCells_keeps _ _ b o (be _ e)
 refine ⟨hkp, ?_⟩
 have ok := cellsFrom_ok scope.names (s.heap.push { cls := .type "dict", data := .dict #[] }) (s.heap.objs.size + 1) [] ⟨fun _ _ hm => (nomatch hm), List.Pairwise.nil⟩ (by rw [cL]; exact aU _)
 rw [cL] at ok
 have hns : (pushCells (s.heap.push { cls := .type "dict", data := .dict #[] }) scope.names).Ns s.heap.objs.size (fun _ => none) := (Heap.Ns.new s.heap (.type "dict")).keeps (pushCells_keeps _ _)
 have e1 : ky [] G s G { s with heap := pushCells (s.heap.push { cls := .type "dict", data := .dict #[] }) scope.names } := ky.kept (tk := s.toks) (dr := s.drawn) hkp
 generalize pushCells (s.heap.push { cls := .type "dict", data := .dict #[] }) scope.names = h1 at *
 have hcells : (oV scope (kl env scope.names []) s.heap.objs.size env).cells = cellsFrom (s.heap.objs.size + 1) scope.names [] ++ kl env scope.names [] := ml _ _ _
 have hkof : ∀ y, (oV scope (kl env scope.names []) s.heap.objs.size env).kindOf y = (relabel scope env).names.lookup y := fun y => rfl
 have hnotcell : ∀ {x c}, (x, cq) ∈ scope.names → (x, c) ∉ cellsFrom (s.heap.objs.size + 1) scope.names [] := fun {x c} hx hm => by
  rcases qW _ _ _ hm with q | q
  ·cases q
  ·have a := jC hn hx
   rw [jC hn q] at a; cases a
 have hfr : ∀ a ∈ s.heap.objs.size :: (cellsFrom (s.heap.objs.size + 1) scope.names []).map bB, ¬ k9 s.heap a ∧ k9 h1 a := fun a ha => by
  rcases au.mp ha with e | ha
  ·rw [e]; exact ⟨ke (aU _), sq hns⟩
  ·obtain ⟨⟨y, c⟩, hm, rfl⟩ := az.mp ha
   obtain ⟨q1, q2⟩ := ok.empty y c hm
   exact ⟨ke (bj (cW _) q2), nT q1⟩
 refine ⟨s.heap.objs.size :: (cellsFrom (s.heap.objs.size + 1) scope.names []).map bB, fun a ha => (hfr a ha).1, ?_⟩
 refine { kind := hk, glo := f.glo, blt := f.blt, nodup := by rw [show (cr.map fun x => x.1) = cr.map ai from rfl, cp.keys]; exact hn, ns := ⟨_, hns, fun y yb v hy hkl => ?_⟩, glb := fun y hy => ?_, loc := fun y yb ov hy => ?_, fre := fun y v hy => ?_, locf := .head _, ownf := fun a ha => ⟨hr.noOwn (hfr a ha).1, hr.noG (hfr a ha).1, hr.noB (hfr a ha).1, (hfr a ha).2⟩, apart := fun y z c h1 h2 => ?_ }
 ·rcases cp.mem hy with ⟨q, _⟩ | ⟨q, _⟩ | ⟨q, _⟩ | ⟨_, q, _⟩ <;> cases q
 ·rcases cp.mem hy with ⟨_, q⟩ | ⟨q, _⟩ | ⟨q, _⟩ | ⟨_, q, _⟩
  ·rw [hkof, mW hn q]; rfl
  all_goals cases q
 ·rcases cp.mem hy with ⟨q, _⟩ | ⟨q, h⟩ | ⟨q, h⟩ | ⟨_, q, _⟩
  ·cases q
  ·cases q
   left; refine ⟨rfl, ?_⟩; rw [hkof, mW hn h]; rfl
  ·cases q
   have hsome : ((cellsFrom (s.heap.objs.size + 1) scope.names []).lookup y).isSome = true := cellsFrom_some _ _ _ (.inl (jC hn h))
   obtain ⟨c, hc⟩ := fO.mp hsome
   have hm := mem_of_lookup hc
   refine .inr ⟨rfl, by rw [hkof, mW hn h]; rfl, c, none, ?_, (ok.empty y c hm).1, .tail _ (aO (f := bB) hm), fun v e => by cases e⟩
   rw [hcells]
   refine sN (bu _ hm) fun c' h' => ?_
   rcases aQ.mp h' with h' | h'
   ·have hnd : ((cellsFrom (s.heap.objs.size + 1) scope.names []).map ai).Nodup := rB hn
    have := jC hnd h'
    rw [hc] at this; exact (bD this).symm
   ·rcases qm hfree h' with q | ⟨q, _⟩
    ·cases q
    ·have a := jC hn q
     rw [jC hn h] at a; cases a
  ·cases q
 ·rcases cp.mem hy with ⟨q, _⟩ | ⟨q, _⟩ | ⟨q, _⟩ | ⟨v', q, h, hc⟩
  ·cases q
  ·cases q
  ·cases q
  ·cases q
   obtain ⟨hkc, c, cv, h1', h2, h3, h4, h5, h7⟩ := f.cap hc
   refine ⟨?_, c, cv, ?_, ?_, h3, h4, h5, ?_, h7⟩
   ·rw [hkof, mW hn h, f.kind, hkc]; rfl
   ·rw [hcells]
    refine sN (cy _ (se (.inr ⟨h, h1'⟩))) fun c' h' => ?_
    rcases aQ.mp h' with h' | h'
    ·exact absurd h' (hnotcell h)
    ·rcases qm hfree h' with q | ⟨_, q⟩
     ·cases q
     ·rw [h1'] at q; exact (bD q).symm
   ·obtain ⟨o, ho, hd⟩ := h2; exact ⟨o, hkp _ _ ho, hd⟩
   ·obtain ⟨o, ho, hd⟩ := h2
    exact fun hm => (hfr c hm).1 ⟨o, ho⟩
 ·rw [hcells] at h1 h2
  have m1 := aQ.mp (mem_of_lookup h1)
  have m2 := aQ.mp (mem_of_lookup h2)
  have old : ∀ {x c}, (x, c) ∈ kl env scope.names [] → k9 s.heap c ∧ env.cells.lookup x = some c := fun {x c} h => by
   rcases qm hfree h with q | ⟨q, q'⟩
   ·cases q
   ·refine ⟨?_, q'⟩
    obtain ⟨v, hv⟩ := cp.free q
    obtain ⟨_, c', cv, h1', h2, _⟩ := f.cap hv
    rw [h1'] at q'; cases q'
    exact nT h2
  rcases m1 with m1 | m1 <;> rcases m2 with m2 | m2
  ·exact name_of_addr ok.apart m1 m2
  ·exact absurd (old m2).1 (hfr c (.tail _ (aO (f := bB) m1))).1
  ·exact absurd (old m1).1 (hfr c (.tail _ (aO (f := bB) m2))).1
  ·exact f.apart _ _ _ (old m1).2 (old m2).2
noncomputable def yR (W : Wd) (n : Nat) (r : jr) (H : HH) : List Expr → (CB) → Prop
 | [], Q => Q true H
 | [c], Q => Tv W n r H c Q
 | _, _ => False
theorem AT {A env fa G s ifs} {Q : CB} (h : yR W n r H ifs Q) (R : lb A n) (hr : HR W G H s) (f : FR W env fa r G s.heap) :
  wpAny (model W.prog W.w) A (forIn ifs true fun c r => if r = true then do let ok ← isTrue c env (eval c env); pure (iQ ok) else pure (iQ r)) (uw W Q G s) mL s := by
 match ifs, h with
 | [], h => rw [gF]; exact aB ⟨G, H, ky.refl, hr, h⟩
 | [c], h => exact wpAny_tests_one (h A env fa G s R hr f)
theorem yR.frame {P R ifs} {Q : CB} (sp : jI H P R) (h : yR W n r P ifs fun p P' => Q p (P' ++ R)) (h0 : Q true (P ++ R) → Q true H) : yR W n r H ifs Q := by
 match ifs, h with
 | [], h => exact h0 h
 | [c], h => exact Tv.frame sp h
theorem yR.mono {ifs} {Q Q' : CB} (h : yR W n r H ifs Q) (hq : ∀ b H', Q b H' → Q' b H') : yR W n r H ifs Q' := by
 match ifs, h with
 | [], h => exact hq _ _ h
 | [c], h => exact fun A env fa G s R hr f => jF (h A env fa G s R hr f) fun v s1 ⟨G1, P', e1, r1, q1⟩ => ⟨G1, P', e1, r1, hq _ _ q1⟩
inductive FO (W : Wd) (cenv : Env) (fc fp wr : List Addr) (xs : List PV) (St : Nat → Heap → Prop) (G0 G : Gh) (s0 : Shared) (D : Addr) (x : Str) (cr : jr) (Inv : Nat → CL) (k : Nat) (s' : Shared) : Prop
 | mk (i : Nat) (G' : Gh) (ys : List PV) (H' : HH) (rr : jr) (ek : k = xs.length + 1 - i) (hi : i ≤ xs.length) (st : St i s'.heap) (e : ky [] G0 s0 G' s') (hr : HR W G' (H' ++ [(D, .lst ys)]) s') (f : FR W cenv fc rr G' s'.heap) (hrr : rr = cr ∨ ∃ p, lk x p cr rr) (gle : ∀ b o, G.g b = some o → G'.g b = some o) (ow : ∀ b ∈ fp, G'.own b = none) (fr : uG W G' wr) (iv : Inv i ys H')
inductive CN (W : Wd) (n : Nat) (D : Addr) (ys : List PV) (K : HH → Prop) (P : HH) : Prop
 | mk (H2 : HH) (e : P = H2 ++ [(D, .lst ys)]) (k : K H2)
theorem vF {A env fa} {s0 s : Shared} {G0 G : Gh} {I : Addr} {fp wr : List Addr} {xs : List PV} {St : Nat → Heap → Prop} {elt iter : Expr} {x : Str} {px pos : Pos} {ifs : List Expr} {scope : Scope} {cr : jr} {use : Option (Value → Sem Unit)} {QQ : Value → Shared → Prop} {Inv : Nat → CL}
  (R : lb A n) (hr : HR W G H s) (f : FR W env fa r G s.heap) (e0 : ky [] G0 s0 G s) (hnew : ∀ b ∈ wr, ¬ k9 s0.heap b) (hB0 : ∀ b ∈ wr, W.B0.get? b = none) (hown : ∀ b ∈ fp, G.own b = none) (hfz : ∀ b ∈ fp, k9 s0.heap b → ∃ o, G.g b = some o) (hg : ∀ b ∈ wr, G.g b = none) (wk : Wk W A false G I fp wr xs St) (st0 : St 0 s.heap)
  (hk : scope.kind = .function) (hn : (scope.names.map ai).Nodup) (cp : k7 r scope.names cr) (i0 : Inv 0 [] H) (hsz : ∀ i ys H', Inv i ys H' → ys.length ≤ sizeLine)
  (step : ∀ i p ys H', xs[i]? = some p → Inv i ys H' → lJ x p cr fun r2 => yR W n r2 H' ifs fun ok H2 => jA ok (Ev W n r2 H2 elt fun q H3 => Inv (i + 1) (ys ++ [q]) H3) (Inv (i + 1) ys H2))
  (hR : ∀ D C G' s' ys H' m, ky [] G0 s0 G' s' → HR W G' (H' ++ [(D, .lst ys)]) s' → uG W G' [C] → ¬ k9 s0.heap C → s'.heap.Ns C m → Inv xs.length ys H' → compPost (model W.prog W.w) A mL use QQ (.ref D) C (.ok .next) s') :
  wpAny (model W.prog W.w) A (newList []) (fun acc s₃ => wpAny (model W.prog W.w) A (newFunctionEnv scope env.globals (kl env scope.names []) [] env.qual none .none (some env)) (fun cenv s₄ =>
   codeAny (model W.prog W.w) A (.compStart (.ListComp elt [⟨.Name x px, iter, ifs, 0⟩] scope pos) 0 (.ref I) acc { cenv with scope := relabel scope env }) (compPost (model W.prog W.w) A mL use QQ acc cenv.locals) s₄) mL s₃) mL s := by
 refine jF (Q := fun v s3 => ∃ G' H', ky [] G s G' s3 ∧ HR W G' H' s3 ∧ ∃ a, v = .ref a ∧ H' = H ++ [(a, .lst [])]) ?_ ?_
 ·refine jF (sw (ps := []) (Q := fun p H' => ∃ a, p = .ref a ∧ H' = (a, .lst []) :: H) hr rfl (fun a => ⟨a, rfl, rfl⟩) (by simp)) ?_
  rintro v s3 ⟨G3, p, H3, e3, hr3, v3, a, rfl, rfl⟩
  exact ⟨G3, _, e3, hr3.perm (gA (l₁ := [(a, HO.lst [])]) (l₂ := H)), a, by exact v3, rfl⟩
 rintro _ s3 ⟨G3, _, e3, hr3, D, rfl, rfl⟩
 refine tO ?_
 obtain ⟨hkp, fc, hfc, f4⟩ := CM hr3 (f.ext e3) hk hn cp
 generalize hh4 : pushCells (s3.heap.push { cls := .type "dict", data := .dict #[] }) scope.names = h4 at *
 have hr4 : HR W G3 (H ++ [(D, .lst [])]) { s3 with heap := h4 } := hr3.kept (tk := s3.toks) (dr := s3.drawn) hkp
 have e4 : ky [] G3 s3 G3 { s3 with heap := h4 } := ky.kept (tk := s3.toks) (dr := s3.drawn) hkp
 show codeAny _ A (.compStart _ 0 (.ref I) (.ref D) (oV scope (kl env scope.names []) s3.heap.objs.size env)) (compPost (model W.prog W.w) A mL use QQ (.ref D) s3.heap.objs.size) _
 have hC : ¬ k9 s3.heap s3.heap.objs.size := ke (aU _)
 have hlocf : s3.heap.objs.size ∈ fc := f4.locf
 generalize hce : oV scope (kl env scope.names []) s3.heap.objs.size env = cenv at *
 have hcl : cenv.locals = s3.heap.objs.size := by rw [← hce]; rfl
 have e34 := e3.trans e4
 have hfp3 : ∀ b ∈ fp, k9 s.heap b := wk.has _ _ st0
 have keep4 : ∀ b ∈ fp, ∀ o, s.heap.get? b = some o → h4.get? b = some o := fun b hb o e => e34.keep b o e (hown b hb) (by simp)
 have hfcfp : ∀ b ∈ fp, b ∉ fc := fun b hb hm => hfc b hm (e3.there b (hfp3 b hb))
 have own4 : ∀ b ∈ fp, G3.own b = none := fun b hb => by
  rcases e34.own b (hfp3 b hb) with q | q
  ·rw [q]; exact hown b hb
  ·exact q
 have loop : codeAny (model W.prog W.w) A (.compLoop (.ListComp elt [⟨.Name x px, iter, ifs, 0⟩] scope pos) 0 (.ref I) (.ref D) cenv) (compPost (model W.prog W.w) A mL use QQ (.ref D) s3.heap.objs.size) { s3 with heap := h4 } := by
  refine codeAny_compLoop_tests (FO W cenv fc fp wr xs St G0 G s0 D x cr Inv) ?_ (xs.length + 1)
   ⟨0, G3, [], H, cr, rfl, bF _, wk.frame _ _ _ st0 keep4, e0.trans e34, hr4, f4, .inl rfl, e34.gle, own4, ⟨fun b hb => own4 b (wk.sub b hb), fun b hb => by rw [e34.gnew b (hfp3 b (wk.sub b hb)) (hown b (wk.sub b hb))]; exact hg b hb, hB0⟩, i0⟩ (fun _ => rfl)
  rintro k s' ⟨i, G', ys, H', rr, rfl, hi, st, e', hr', f', hrr, gle, ow, fr, iv⟩
  have crn : (cr.map ai).Nodup := by rw [cp.keys]; exact hn
  by_cases hlt : i < xs.length
  ·obtain ⟨p, hx⟩ : ∃ p, xs[i]? = some p := ⟨xs[i], aG hlt⟩
   refine jF (wk.item (.Name x px) i _ G' s' p (by simp) hr' gle fr st hx) ?_
   rintro _ s5 ⟨v, rfl, h5⟩
   have hb : ∀ (m : Unit → Sem Unit) (Q : Unit → Shared → Prop) (E : Value → Shared → Prop), (∀ s6, (∃ G2, yP wr G' s' G2 s6 ∧ HR W G2 (H' ++ [(D, .lst ys)]) s6 ∧ RV W G2 p v ∧ St (i + 1) s6.heap) → wpAny (model W.prog W.w) A (m ()) Q E s6) → wpAny (model W.prog W.w) A (m ()) Q E s5 := fun m Q E h =>
    (show wpAny (model W.prog W.w) A (letOwnedTupleGo (.Name x px) (.ref I) v >>= m) Q E s5 from aj (jF h5 fun _ s6 h6 => h s6 h6))
   refine hb (fun _ => assign (.Name x px) cenv v) _ _ fun s6 ⟨G6, e6, hr6, v6, st6⟩ => ?_
   obtain ⟨r2, U, T⟩ := step i p ys H' hx iv
   have U' : lk x p rr r2 := by
    rcases hrr with q | ⟨p', q⟩
    ·rw [q]; exact U
    ·exact q.again U crn
   have e06 := e'.turn e6 hnew
   have f6 := f'.turn e6 (fun b hb => hfcfp b (wk.sub b hb)) (wk.cell _ _ st)
   have hh6 := wk.has _ _ st
   have ow6 : ∀ b ∈ fp, G6.own b = none := fun b hb => by
    rcases e6.own b (hh6 b hb) with q | q
    ·rw [q]; exact ow b hb
    ·exact q
   have fin : ∀ (s9 : Shared) G9 ys9 H9, ky fc G6 s6 G9 s9 → HR W G9 (H9 ++ [(D, .lst ys9)]) s9 → FR W cenv fc r2 G9 s9.heap → Inv (i + 1) ys9 H9 → ∃ m, m < xs.length + 1 - i ∧ FO W cenv fc fp wr xs St G0 G s0 D x cr Inv m s9 := by
    intro s9 G9 ys9 H9 e9 hr9 f9 iv9
    have h4 := wk.has _ _ st6
    have own9 : ∀ b ∈ fp, G9.own b = none := fun b hb => by
     rcases e9.own b (h4 b hb) with z | z
     ·rw [z]; exact ow6 b hb
     ·exact z
    have g9 : ∀ b ∈ wr, G9.g b = none := fun b hb => by
     rw [e9.gnew b (h4 b (wk.sub b hb)) (ow6 b (wk.sub b hb)), e6.gnew b (hh6 b (wk.sub b hb)) (ow b (wk.sub b hb))]
     exact fr.g b hb
    refine ⟨xs.length + 1 - (i + 1), by exact J5 4 hlt, i + 1, G9, ys9, H9, r2, rfl, hlt, wk.frame _ _ _ st6 (e9.fp ow6 hfcfp), ?_, hr9, f9, .inr ⟨p, U⟩, fun b o q => e9.gle b o (e6.gle b o (gle b o q)), own9, ⟨fun b hb => own9 b (wk.sub b hb), g9, fr.B0⟩, iv9⟩
    have hf0 : ∀ b ∈ fc, ¬ k9 s0.heap b := fun b hb hh => hfc b hb ((e0.trans e3).there b hh)
    have hfa : ky fc G0 s0 G9 s9 := e06.weak.trans e9
    exact ⟨hfa.gle, hfa.own, hfa.gnew, fun b o e ho _ => hfa.keep b o e ho fun hm => hf0 b hm ⟨o, e⟩, hfa.there⟩
   refine dY (mt hr6 f6 U' v6 fun s7 e7 hr7 f7 => ?_)
   have T7 : yR W n r2 (H' ++ [(D, .lst ys)]) ifs (fun ok => CN W n D ys fun H2 => jA ok (Ev W n r2 H2 elt fun q H3 => Inv (i + 1) (ys ++ [q]) H3) (Inv (i + 1) ys H2)) :=
    yR.frame (P := H') (R := [(D, .lst ys)]) jI.snoc (yR.mono (Q' := fun ok P' => CN W n D ys (fun H2 => jA ok (Ev W n r2 H2 elt fun q H3 => Inv (i + 1) (ys ++ [q]) H3) (Inv (i + 1) ys H2)) (P' ++ [(D, HO.lst ys)])) T fun b H2 q => ⟨H2, rfl, q⟩) id
   refine jF (AT T7 R hr7 f7) ?_
   rintro ok s8 ⟨G8, _, e8, hr8, H2, rfl, q8⟩
   cases ok with
   | false =>
    skip
    exact fin s8 G8 ys H2 (e7.trans e8.weak) hr8 (f7.ext e8) (q8.2 rfl)
   | true =>
    skip
    have E8 : Ev W n r2 (H2 ++ [(D, .lst ys)]) elt (fun q => CN W n D ys fun H3 => Inv (i + 1) (ys ++ [q]) H3) := Ev.frame jI.snoc (Ev.mono (Q' := fun q P' => CN W n D ys (fun H3 => Inv (i + 1) (ys ++ [q]) H3) (P' ++ [(D, HO.lst ys)])) (q8.1 rfl) fun q H3 h => ⟨H3, rfl, h⟩)
    refine jF (E8 A cenv fc G8 s8 R hr8 (f7.ext e8)) ?_
    rintro y s9 ⟨G9, q, _, e9, hr9, v9, H3, rfl, iv9⟩
    have O : mM W n (H3 ++ [(D, .lst ys)]) (fun vs => call (.builtin "list.append") vs) [.ref D, q] (fun _ P => P = H3 ++ [(D, .lst (ys ++ [q]))]) := sy kO.snoc (hsz _ _ _ iv) rfl
    refine jF (O A G9 s9 [.ref D, y] R hr9 (jY.cons (by wtm_at "rv") (jY.one v9))) ?_
    rintro _ s10 ⟨G10, _, _, e10, hr10, _, hP⟩
    subst hP
    exact fin s10 G10 (ys ++ [q]) H3 (e7.trans ((e8.trans e9).trans e10).weak) hr10 (((f7.ext e8).ext e9).ext e10) iv9
  ·have : i = xs.length := by exact J3 7 hi hlt
   subst this
   refine jF (wk.done _ G' s' hr' gle fr st) ?_
   rintro _ s5 ⟨rfl, G5, e5, hr5⟩
   have f5 := f'.turn e5 (fun b hb => hfcfp b (wk.sub b hb)) (wk.cell _ _ st)
   obtain ⟨m, hm, _⟩ := f5.ns
   obtain ⟨a1, a2, a3, _⟩ := f5.ownf _ f5.locf
   rw [hcl] at hm a1 a2 a3
   exact hR D _ G5 s5 ys H' m (e'.turn e5 hnew) hr5 ⟨fun b hb => by rw [aP.mp hb]; exact a1, fun b hb => by rw [aP.mp hb]; exact a2, fun b hb => by rw [aP.mp hb]; exact a3⟩ (fun hh => hC ((e0.trans e3).there _ hh)) hm iv
 exact codeAny_compStart_list loop (wk.self 0 _ _ _ (wk.frame _ _ _ st0 keep4) loop)
end
section
variable {W : Wd} {n : Nat} {r : jr} {H : HH}
inductive FP (W : Wd) (n : Nat) (r : jr) (elt : Expr) (x : Str) (ifs : List Expr) (scope : Scope) (Q : CV) (xs : List PV) (H1 : HH) : Prop
 | mk (cr : jr) (Inv : Nat → CL) (cp : k7 r scope.names cr) (i0 : Inv 0 [] H1) (hsz : ∀ i ys H', Inv i ys H' → ys.length ≤ sizeLine)
  (step : ∀ i p ys H', xs[i]? = some p → Inv i ys H' → lJ x p cr fun r2 => yR W n r2 H' ifs fun ok H2 => jA ok (Ev W n r2 H2 elt fun q H3 => Inv (i + 1) (ys ++ [q]) H3) (Inv (i + 1) ys H2))
  (fin : ∀ ys H', Inv xs.length ys H' → ∀ D, Q (.ref D) ((D, .lst ys) :: H'))
noncomputable def yS (W : Wd) (n : Nat) (r : jr) (H : HH) (elt : Expr) (x : Str) (iter : Expr) (ifs : List Expr) (scope : Scope) (Q : CV) : Prop :=
 tM W false n r H iter (FP W n r elt x ifs scope Q)
theorem FQ {G0 s0 G s} {C : Addr} {h' : Heap} {H : HH} (e : ky [] G0 s0 G s) (hr : HR W G H s) (fr : uG W G [C]) (hC : ¬ k9 s0.heap C) (hs : dW C s.heap h') :
  ky [] G0 s0 G { s with heap := h' } ∧ HR W G H { s with heap := h' } := by
 have hk : ∀ b o, b ∉ [C] → s.heap.get? b = some o → h'.get? b = some o := fun b o hb e => (hs.2 b (fun q => hb (by simp [q]))).trans e
 exact ⟨e.turn ⟨fun _ _ e => e, fun _ _ => .inl rfl, fun _ _ _ => rfl, hk⟩ (fun b hb => by rw [aP.mp hb]; exact hC), hr.turn (tk := s.toks) fr hk⟩
theorem AU {scope : Scope} (hn : (scope.names.map ai).Nodup) : ∀ x ∈ scope.names, x.2 = .local → scope.names.lookup x.1 = some .local := fun x hx h => by
 rw [← h]; exact jC hn hx
theorem CO {env fa G h} {scope : Scope} {cr} (f : FR W env fa r G h) (cp : k7 r scope.names cr) : closureFor scope env = pure (kl env scope.names []) :=
 wI fun x hx => by
  obtain ⟨v, hv⟩ := cp.free hx
  obtain ⟨_, c, _, h, _⟩ := f.cap hv
  exact ⟨c, h⟩
theorem xJ {A env fa G s} {elt iter : Expr} {x : Str} {px pos pos2 : Pos} {ifs : List Expr} {scope : Scope} {use : Option (Value → Sem Unit)} {QQ : Value → Shared → Prop} {Q : CV}
  (R : lb A n) (hr : HR W G H s) (f : FR W env fa r G s.heap) (hk : scope.kind = .function) (hn : (scope.names.map ai).Nodup) (h : yS W n r H elt x iter ifs scope Q) (hcap : ∃ cr, k7 r scope.names cr)
  (hs : ∀ x, foldedSetIterable iter env x = pure x)
  (hR : ∀ D C G' s' ys H' m, ky [] G s G' s' → HR W G' ((D, .lst ys) :: H') s' → uG W G' [C] → ¬ k9 s.heap C → s'.heap.Ns C m → Q (.ref D) ((D, .lst ys) :: H') → compPost (model W.prog W.w) A mL use QQ (.ref D) C (.ok .next) s') :
  wpAny (model W.prog W.w) A (comprehension (.ListComp elt [⟨.Name x px, iter, ifs, 0⟩] scope pos) scope env pos2 (newList []) false (eval iter env) use) QQ mL s := by
 obtain ⟨cr0, cp0⟩ := hcap
 refine wpAny_comprehension_free rfl hs (CO f cp0) hk (AU hn) (jF (h A env fa G s R hr f) fun xv s1 h1 => jF h1 fun it s2 h2 => ?_)
 obtain ⟨G2, I, fp, wr, xs, H2, St, rfl, e2, hr2, hnew, hown, hfz, hg, wk, st0, ⟨cr, Inv, cp, i0, hsz, step, fin⟩⟩ := h2
 exact vF R hr2 (f.ext e2) e2 hnew (fun b hb => hr.noB (hnew b hb)) hown hfz hg wk st0 hk hn cp i0 hsz step fun D C G' s' ys H' m a b c d e iv =>
  hR D C G' s' ys H' m a (b.perm gA) c d e (fin ys H' iv D)
theorem qn {elt iter : Expr} {x : Str} {px pos : Pos} {ifs : List Expr} {scope : Scope} {Q : CV} (hcap : ∃ cr, k7 r scope.names cr) (h : yS W n r H elt x iter ifs scope Q)
  (hk : autoParam (scope.kind = .function) aF) (hn : autoParam ((scope.names.map ai).Nodup) aN) (hs : autoParam (∀ env x, foldedSetIterable iter env x = pure x) aI) :
  Ev W n r H (.ListComp elt [⟨.Name x px, iter, ifs, 0⟩] scope pos) Q := fun A env fa G s R hr f => by
 rw [eval_ListComp]
 show wpAny _ A (comprehension (.ListComp elt [⟨.Name x px, iter, ifs, 0⟩] scope pos) scope env _ (newList []) false (eval iter env) none) _ _ _
 refine xJ R hr f hk hn h hcap (hs env) fun D C G' s' ys H' m e hr' fr hC hns q => ?_
 refine ⟨m, hns, fun h' hs => ?_⟩
 obtain ⟨a, b⟩ := FQ e hr' fr hC hs
 exact ⟨G', .ref D, _, a, b, by wtm_at "rv", q⟩
theorem m8 {t : Str} {pt spos : Pos} {elt iter : Expr} {x : Str} {px pos : Pos} {ifs : List Expr} {scope : Scope} {Q : jH} (hcap : ∃ cr, k7 r scope.names cr) (h : yS W n r H elt x iter ifs scope fun p H1 => lJ t p r fun r' => Q .next r' H1)
  (hk : autoParam (scope.kind = .function) aF) (hn : autoParam ((scope.names.map ai).Nodup) aN) (hs : autoParam (∀ env x, foldedSetIterable iter env x = pure x) aI) :
  Ex W n r H (.Assign [.Name t pt] (.ListComp elt [⟨.Name x px, iter, ifs, 0⟩] scope pos) spos) Q := fun A env fa G s R hr f => by
 have hsw : ∃ b, swapsWith (.ListComp elt [⟨.Name x px, iter, ifs, 0⟩] scope pos) (some (.Name t pt)) spos.line env = pure b := ⟨_, rfl⟩
 obtain ⟨b, hb⟩ := hsw
 cases b with
 | false =>
  refine wpAny_Assign_Name (ay (qn hcap h hk hn hs A env fa G s R hr f) (fun v s1 h1 => ?_) fun _ _ x => x) hb
  obtain ⟨G1, p, H1, e1, r1, v1, ⟨r', U, q2⟩⟩ := h1
  exact mt r1 (f.ext e1) U v1 fun s' e' hr' f' => ⟨G1, .next, r', H1, e1.weak.trans e', hr', f', rfl, q2⟩
 | true =>
  rw [exec_Assign_Name_used _ _ _ _ hb]
  refine aj (cH (aj ?_))
  show wpAny _ A (do let _ ← comprehension (.ListComp elt [⟨.Name x px, iter, ifs, 0⟩] scope pos) scope env _ (newList []) false (eval iter env) (some (assign (.Name t pt) env))) _ _ s
  refine aj (ay (xJ (use := some (assign (.Name t pt) env)) (QQ := fun _ s' => yG W env fa Q G s .next s') R hr f hk hn h hcap (hs env) ?_) (fun _ s' hq => aB (aB hq)) fun _ _ e => e)
  intro D C G' s' ys H' m e hr' fr hC hns ⟨r', U, q⟩
  show wpAny _ A (assign (.Name t pt) env (.ref D)) _ _ _
  refine dY (mt hr' (f.ext e) U (by wtm_at "rv") fun s2 e2 hr2 f2 => ?_)
  have hCfa : C ∉ fa := fun hm => hC (f.ownf C hm).2.2.2
  have fr2 : uG W G' [C] := fr
  have hns2 : s2.heap.Ns C m := hns.at' fun o ho => e2.keep C o ho (fr.own C (by simp)) hCfa
  refine ⟨m, hns2, fun h' hs' => ?_⟩
  have hk : ∀ b o, b ∉ [C] → s2.heap.get? b = some o → h'.get? b = some o := fun b o hb e => (hs'.2 b (fun q => hb (by simp [q]))).trans e
  have ew : yP [C] G' s2 G' { s2 with heap := h' } := ⟨fun _ _ e => e, fun _ _ => .inl rfl, fun _ _ _ => rfl, hk⟩
  refine ⟨G', .next, r', _, (e.weak.trans e2).turn ew (fun b hb => by rw [aP.mp hb]; exact hC), hr2.turn (tk := s2.toks) fr2 hk, f2.turn ew (fun b hb => by rw [aP.mp hb]; exact hCfa) (fun b hb u => ?_), rfl, q⟩
  rw [aP.mp hb]
  rintro ⟨o, ho, hd⟩
  obtain ⟨o', es, ep, ho', hd', _⟩ := hns2
  rw [ho] at ho'; cases ho'; rw [hd] at hd'; cases hd'
inductive EC (H1 : HH) (p q : PV) (H2 : HH) : Prop
 | mk (h : H2 = H1) (e : q = p)
inductive FS (W : Wd) (n : Nat) (r2 : jr) (H1 : HH) (elt : Expr) (pa : Bool) (v : PV) (ok : Bool) (H2 : HH) : Prop
 | mk (e : ok = pa) (h : H2 = H1) (k : ok = true → Ev W n r2 H1 elt (EC H1 v))
inductive yT {α : Type} (W : Wd) (n : Nat) (r : jr) (elt : Expr) (x : Str) (scope : Scope) (φ : α → PV) (K : List α → Prop) (xs : List PV) (H1 : HH) : Prop
 | mk (cr : jr) (L : List α) (g : α → PV) (cp : k7 r scope.names cr) (e : xs = L.map g) (hz : L.length ≤ sizeLine) (step : ∀ a ∈ L, lJ x (g a) cr fun r2 => Ev W n r2 H1 elt (EC H1 (φ a))) (k : K L)
inductive t8 {α : Type} (W : Wd) (n : Nat) (r : jr) (elt : Expr) (x : Str) (c : Expr) (scope : Scope) (p : α → Bool) (φ : α → PV) (K : List α → Prop) (xs : List PV) (H1 : HH) : Prop
 | mk (cr : jr) (L : List α) (g : α → PV) (cp : k7 r scope.names cr) (e : xs = L.map g) (hz : L.length ≤ sizeLine) (step : ∀ a ∈ L, lJ x (g a) cr fun r2 => Tv W n r2 H1 c (FS W n r2 H1 elt (p a) (φ a))) (k : K L)
theorem yT.mono {α : Type} {W n r elt x scope} {φ : α → PV} {K K' : List α → Prop} {xs H1} (h : yT W n r elt x scope φ K xs H1) (hk : ∀ L, K L → K' L) : yT W n r elt x scope φ K' xs H1 := by
 obtain ⟨cr, L, g, a, b, c, d, k⟩ := h
 exact ⟨cr, L, g, a, b, c, d, hk _ k⟩
theorem t8.mono {α : Type} {W n r elt x c scope} {p : α → Bool} {φ : α → PV} {K K' : List α → Prop} {xs H1} (h : t8 W n r elt x c scope p φ K xs H1) (hk : ∀ L, K L → K' L) : t8 W n r elt x c scope p φ K' xs H1 := by
 obtain ⟨cr, L, g, a, b, c, d, k⟩ := h
 exact ⟨cr, L, g, a, b, c, d, hk _ k⟩
theorem sO {α : Type} {elt iter : Expr} {x : Str} {scope : Scope} {Q : CV} (φ : α → PV)
  (h : tM W false n r H iter fun xs H1 => yT W n r elt x scope φ (fun L => ∀ D, Q (.ref D) ((D, .lst (L.map φ)) :: H1)) xs H1) : yS W n r H elt x iter [] scope Q := fun A env fa G s R hr f => by
 refine jF (h A env fa G s R hr f) fun xv s1 h1 => jF h1 fun it s2 h2 => ?_
 obtain ⟨G2, I, fp, wr, xs, H2, St, a, b, c, d, e, e2, f1, g, h, ⟨cr, L, gg, cp, rfl, hz, step, fin⟩⟩ := h2
 refine ⟨G2, I, fp, wr, _, H2, St, a, b, c, d, e, e2, f1, g, h, cr, fun i ys H' => i ≤ L.length ∧ ys = (L.take i).map φ ∧ H' = H2, cp, ⟨bF _, by simp, rfl⟩, fun i ys H' q => ?_, fun i p ys H' hx q => ?_, fun ys H' q D => ?_⟩
 ·rw [q.2.1, aa, bg]; exact bj (iE _ _) hz
 ·obtain ⟨hi, rfl, rfl⟩ := q
  rw [ax] at hx
  cases hl : L[i]? with
  | none => rw [hl] at hx; cases hx
  | some a =>
   rw [hl] at hx
   cases hx
   obtain ⟨r2, U, E⟩ := step a (aS hl)
   refine ⟨r2, U, .by (fun _ => E.mono fun q H3 hq => ?_) fun q => by cases q⟩
   obtain ⟨rfl, rfl⟩ := hq
   refine ⟨(aA.mp hl).1, ?_, rfl⟩
   rw [a7, hl]; simp
 ·obtain ⟨_, rfl, rfl⟩ := q
  rw [aa, aZ]
  exact fin D
theorem rE {α : Type} {elt iter c : Expr} {x : Str} {scope : Scope} {Q : CV} (p : α → Bool) (φ : α → PV)
  (h : tM W false n r H iter fun xs H1 => t8 W n r elt x c scope p φ (fun L => ∀ D, Q (.ref D) ((D, .lst ((L.filter p).map φ)) :: H1)) xs H1) : yS W n r H elt x iter [c] scope Q := fun A env fa G s R hr f => by
 refine jF (h A env fa G s R hr f) fun xv s1 h1 => jF h1 fun it s2 h2 => ?_
 obtain ⟨G2, I, fp, wr, xs, H2, St, a, b, c, d, e, e2, f1, g, h, ⟨cr, L, gg, cp, rfl, hz, step, fin⟩⟩ := h2
 refine ⟨G2, I, fp, wr, _, H2, St, a, b, c, d, e, e2, f1, g, h, cr, fun i ys H' => i ≤ L.length ∧ ys = ((L.take i).filter p).map φ ∧ H' = H2, cp, ⟨bF _, by simp, rfl⟩, fun i ys H' q => ?_, fun i q ys H' hx qq => ?_, fun ys H' q D => ?_⟩
 ·rw [q.2.1, aa]; exact bj (bm _ _) (bj (by rw [bg]; exact iE _ _) hz)
 ·obtain ⟨hi, rfl, rfl⟩ := qq
  rw [ax] at hx
  cases hl : L[i]? with
  | none => rw [hl] at hx; cases hx
  | some a =>
   rw [hl] at hx
   cases hx
   obtain ⟨r2, U, E⟩ := step a (aS hl)
   have hlt := (aA.mp hl).1
   refine ⟨r2, U, yR.mono (ifs := [_]) E fun ok H3 hq => ?_⟩
   obtain ⟨rfl, rfl, E2⟩ := hq
   refine .by (fun hp => (E2 hp).mono fun q H4 hq => ?_) fun hp => ?_
   ·obtain ⟨rfl, rfl⟩ := hq
    refine ⟨hlt, ?_, rfl⟩
    rw [a7, hl]; simp [cC, hp]
   ·refine ⟨hlt, ?_, rfl⟩
    rw [a7, hl]; simp [cC, hp]
 ·obtain ⟨_, rfl, rfl⟩ := q
  rw [aa, aZ]
  exact fin D
end
section
variable {W : Wd} {n : Nat} {r : jr} {H : HH} {Q : CV}
theorem kE {f : List Value → Sem Value} {p : PV} (h : ∀ A G s v, lb A n → HR W G H s → RV W G p v → wpAny (model W.prog W.w) A (f [v]) (Fin W Q G s) mL s) : mM W n H f [p] Q := fun A G s vs R hr hv => by
 obtain ⟨v, _, rfl, hv, rfl⟩ := hv
 exact h A G s v R hr hv
theorem uK {f : List Value → Sem Value} {p q : PV} (h : ∀ A G s u v, lb A n → HR W G H s → RV W G p u → RV W G q v → wpAny (model W.prog W.w) A (f [u, v]) (Fin W Q G s) mL s) : mM W n H f [p, q] Q := fun A G s vs R hr hv => by
 obtain ⟨u, _, rfl, hu, v, _, rfl, hv, rfl⟩ := hv
 exact h A G s u v R hr hu hv
theorem lM {G i v} (h : RV W G (.int i) v) : ∃ t, v = .int i t := by exact h
theorem AV {G} {s : Shared} {i : Int} {t tk} {h' : Heap} (hr : HR W G H s) (hk : ∀ b o, s.heap.get? b = some o → h'.get? b = some o) (h : Q (.int i) H) : Fin W Q G s (.int i t) { s with heap := h', toks := tk } := FF hr hk (by wtm_at "rv") h
theorem sP {k : Int} (h : Q (.rng 0 k) H) : mM W n H (fun vs => call (.type "range") vs) [.int k] Q := kE fun A G s v R hr hv => by
 obtain ⟨t, rfl⟩ := lM hv
 refine call_range_1 ?_
 obtain ⟨x, e⟩ := hr.allocG { cls := .type "range", data := .fields #[.int 0 s.toks, .int k t, .int 1 (s.toks + 1)] } rfl (tk := s.toks + 1 + 1)
 refine ⟨_, .rng 0 k, H, e, x, ?_, h⟩
 exact Cw.mk _ _ _ _ rfl (if_pos rfl)
theorem sQ {j k : Int} (h : Q (.rng j k) H) : mM W n H (fun vs => call (.type "range") vs) [.int j, .int k] Q := uK fun A G s u v R hr hu hv => by
 obtain ⟨t, rfl⟩ := lM hv
 obtain ⟨t', rfl⟩ := lM hu
 refine call_range_2 ?_
 obtain ⟨x, e⟩ := hr.allocG { cls := .type "range", data := .fields #[.int j t', .int k t, .int 1 s.toks] } rfl (tk := s.toks + 1)
 refine ⟨_, .rng j k, H, e, x, ?_, h⟩
 exact Cw.mk _ _ _ _ rfl (if_pos rfl)
theorem HR.newL {G} {s : Shared} {a : Addr} {h' : Heap} {vs : List Value} {m tk : Nat} {ps : List PV} (hr : HR W G H s) (hn : ¬ k9 s.heap a) (hk : ∀ b o, s.heap.get? b = some o → h'.get? b = some o) (ha : h'.get? a = some (lI vs m)) (hv : jY W G ps vs) :
  HR W (G.addO a a) ((a, .lst ps) :: H) { s with heap := h', toks := tk } ∧ ky [] G s (G.addO a a) { s with heap := h', toks := tk } := by
 have hng := hr.noG hn
 have hno : ∀ b o', (b, o') ∈ H → ∀ c, G.own c = some b → c ≠ a := fun b o' hm c e q => hn (q ▸ (hr.bown c b e).2)
 refine ⟨⟨hr.bas, fun b i e => ?_, fun b ob e => ⟨hk _ _ (hr.imm b ob e).1, ?_⟩, ?_, fun b ob hm => ?_, hr.os, hr.gens⟩, ⟨fun _ _ e => e, fun b hb => .inl ?_, fun _ _ _ => rfl, fun b ob e _ _ => hk _ _ e, fun b ⟨o, e⟩ => ⟨o, hk _ _ e⟩⟩⟩
 ·have e' : (if b = a then some a else G.own b) = some i := e
  by_cases hb : b = a
  ·rw [hb]; exact ⟨hr.noB hn, ⟨_, ha⟩⟩
  ·rw [if_neg hb] at e'; exact ⟨(hr.bown b i e').1, let ⟨o, q⟩ := (hr.bown b i e').2; ⟨o, hk _ _ q⟩⟩
 ·have e' : G.g b = some ob := e
  show (if b = _ then _ else _) = _
  rw [if_neg (fun q => by rw [q, hng] at e'; cases e')]; exact (hr.imm b ob e').2
 ·rw [aC, aY]
  refine ⟨fun hm => ?_, hr.nodup⟩
  obtain ⟨⟨b, o'⟩, hp, hq⟩ := az.mp hm
  have hq' : b = a := hq
  exact hn (hq' ▸ (hr.slot b o' hp).has)
 ·rcases au.mp hm with e | hm
  ·cases e; exact ⟨vs, m, ha, if_pos rfl, hv.mono (G' := G.addO a a) (fun b o (e : G.g b = some o) => e)⟩
  ·exact (hr.slot b ob hm).mono (fun _ _ e => e) (fun c oc _ e => hk _ _ e) fun c e => by
    show (if c = _ then _ else _) = _
    rw [if_neg (hno b ob hm c e)]; exact e
 ·show (if b = _ then _ else _) = _
  rw [if_neg (fun q => hn (by rw [← q]; exact hb))]
theorem mH {G} {s : Shared} {a : Addr} {h' : Heap} {vs : List Value} {m tk : Nat} {ps : List PV} (hr : HR W G H s) (hn : ¬ k9 s.heap a) (hk : ∀ b o, s.heap.get? b = some o → h'.get? b = some o) (ha : h'.get? a = some (lI vs m)) (hv : jY W G ps vs)
  (h : ∀ a, Q (.ref a) ((a, .lst ps) :: H)) : Fin W Q G s (.ref a) { s with heap := h', toks := tk } := by
 obtain ⟨x, e⟩ := hr.newL (tk := tk) hn hk ha hv
 exact ⟨_, .ref a, _, e, x, by wtm_at "rv", h a⟩
theorem AW {G} {s : Shared} {a : Addr} {h' : Heap} {vs : List Value} {m tk : Nat} {ps : List PV} (hr : HR W G H s) (hn : ¬ k9 s.heap a) (hk : ∀ b o, s.heap.get? b = some o → h'.get? b = some o) (ha : h'.get? a = some (Ap vs m)) (hv : jY W G ps vs)
  (h : Q (.tup ps) H) : Fin W Q G s (.ref a) { s with heap := h', toks := tk } := by
 obtain ⟨x, e⟩ := hr.addG (tk := tk) hn hk ha
 refine ⟨_, .tup ps, _, e, x, ?_, h⟩
 exact vl.mk a vs rfl ⟨_, if_pos rfl, rfl, m, rfl⟩ (e.rvs hv)
theorem oW {s : Shared} : ¬ k9 s.heap s.heap.objs.size := ke (aU _)
theorem qX {p : PV} {xs : List PV} (w : Vw H p (.lst xs)) (hz : xs.length ≤ sizeLine) (h : ∀ a, Q (.ref a) ((a, .lst xs) :: H)) : mM W n H (fun vs => call (.type "list") vs) [p] Q := kE fun A G s v R hr hv => by
 obtain ⟨a, vs, m, rfl, e1, rs⟩ := w.lstAt hr hv
 refine call_list_seq a (.inl rfl) e1 rfl rfl (fun h' c' hk hD => ?_) (by rw [aH, rs.length]; exact hz)
 exact mH (tk := s.toks) hr oW hk hD rs h
theorem sR {p : PV} {xs : List PV} (w : Vw H p (.tup xs)) (h : Q p H) : mM W n H (fun vs => call (.type "tuple") vs) [p] Q := kE fun A G s v R hr hv => by
 obtain ⟨a, vs, rfl, e1, rs⟩ := w.tupAt hr hv
 exact call_tuple_same e1 (so hr hv h)
theorem AX {p : PV} {xs : List PV} (w : Vw H p (.lst xs)) (hz : xs.length ≤ sizeLine) (h : Q (.tup xs) H) : mM W n H (fun vs => call (.type "tuple") vs) [p] Q := kE fun A G s v R hr hv => by
 obtain ⟨a, vs, m, rfl, e1, rs⟩ := w.lstAt hr hv
 refine call_tuple_list (jq e1) (fun h' hk => ?_) (by rw [aH, rs.length]; exact hz)
 refine AW (tk := s.toks) (m := 0) hr ?_ (fun b o e => be _ (hk b o e)) (aV _ rfl) rs h
 rintro ⟨o, ho⟩
 exact absurd (bq (hk _ _ ho)) (dm _)
theorem CP {i : Int} (h : Q (.int (i.natAbs : Int)) H) : mM W n H (fun vs => call (.builtin "abs") vs) [.int i] Q := kE fun A G s v R hr hv => by
 obtain ⟨t, rfl⟩ := lM hv
 refine call_abs_int fun u tk => ?_
 have e : (if i < 0 then -i else i) = (i.natAbs : Int) := by split <;> lia
 rw [e]
 exact n8 hr (by wtm_at "rv") h
theorem CQ {i : Int} (h : Q (.int i) H) : mM W n H (fun vs => call (.type "int") vs) [.int i] Q := kE fun A G s v R hr hv => by
 obtain ⟨t, rfl⟩ := lM hv
 exact call_int_int (so hr hv h)
theorem AY {b : Bool} (h : Q (.int (if b then 1 else 0)) H) : mM W n H (fun vs => call (.type "int") vs) [.bool b] Q := kE fun A G s v R hr hv => by
 have : v = .bool b := by exact hv
 subst this
 exact call_int_bool (n8 hr (by wtm_at "rv") h)
theorem xK {i : Int} (hi : i.natAbs.log2 < 1920) (h : Q (.str (eS (toString i))) H) : mM W n H (fun vs => call (.type "str") vs) [.int i] Q := kE fun A G s v R hr hv => by
 obtain ⟨t, rfl⟩ := lM hv
 exact PySem.P.str_of_int hi (n8 hr (by wtm_at "rv") h)
theorem oj {G} : ∀ {ns : List Int} {vs : List Value}, jY W G (ns.map .int) vs → IntsAre vs ns
 | [], vs, h => by simp only [cX, jY] at h; subst h; exact .nil
 | i :: ns, vs, h => by
  simp only [aC, jY] at h
  obtain ⟨v, r, rfl, hv, hr⟩ := h
  obtain ⟨t, rfl⟩ := lM hv
  exact .cons i t (oj hr)
theorem xL {G} {ns : List Int} {vs : List Value} (h : IntsAre vs ns) : jY W G (ns.map .int) vs := by
 induction h with
 | nil => exact jY.nil
 | cons i t _ ih => exact jY.cons Es ih
noncomputable def sS : List Int → Int
 | [] => 0
 | x :: xs => xs.foldl min x
noncomputable def om : List Int → Int
 | [] => 0
 | x :: xs => xs.foldl max x
theorem yU (xs : List Int) : ∀ x : Int, (xs.foldl min x ∈ x :: xs) ∧ ∀ a ∈ x :: xs, xs.foldl min x ≤ a := by
 induction xs with
 | nil => intro x; simp
 | cons y ys ih =>
  intro x
  obtain ⟨h1, h2⟩ := ih (min x y)
  rw [iR]
  refine ⟨?_, fun a ha => ?_⟩
  ·rcases au.mp h1 with e | h1
   ·rw [e]; rcases Int.le_total x y with q | q
    ·rw [Int.min_eq_left q]; exact .head _
    ·rw [Int.min_eq_right q]; exact .tail _ (.head _)
   ·exact .tail _ (.tail _ h1)
  ·have hm := h2 _ (.head _)
   rcases au.mp ha with rfl | ha
   ·exact eU hm (Int.min_le_left _ _)
   ·rcases au.mp ha with rfl | ha
    ·exact eU hm (Int.min_le_right _ _)
    ·exact h2 _ (.tail _ ha)
theorem yV (xs : List Int) : ∀ x : Int, (xs.foldl max x ∈ x :: xs) ∧ ∀ a ∈ x :: xs, a ≤ xs.foldl max x := by
 induction xs with
 | nil => intro x; simp
 | cons y ys ih =>
  intro x
  obtain ⟨h1, h2⟩ := ih (max x y)
  rw [iR]
  refine ⟨?_, fun a ha => ?_⟩
  ·rcases au.mp h1 with e | h1
   ·rw [e]; rcases Int.le_total x y with q | q
    ·rw [iF q]; exact .tail _ (.head _)
    ·rw [iS q]; exact .head _
   ·exact .tail _ (.tail _ h1)
  ·have hm := h2 _ (.head _)
   rcases au.mp ha with rfl | ha
   ·exact eU (Int.le_max_left _ _) hm
   ·rcases au.mp ha with rfl | ha
    ·exact eU (Int.le_max_right _ _) hm
    ·exact h2 _ (.tail _ ha)
theorem t9 {ns : List Int} (h : ns ≠ []) : sS ns ∈ ns ∧ ∀ a ∈ ns, sS ns ≤ a := by
 cases ns with
 | nil => exact absurd rfl h
 | cons x xs => exact yU xs x
theorem ua {ns : List Int} (h : ns ≠ []) : om ns ∈ ns ∧ ∀ a ∈ ns, a ≤ om ns := by
 cases ns with
 | nil => exact absurd rfl h
 | cons x xs => exact yV xs x
theorem pY {vs : List Value} {ns : List Int} (h : IntsAre vs ns) : ∃ xs : Array (Int × Tok), vs.toArray = intItems xs ∧ ns = xs.toList.map (·.1) := by
 obtain ⟨xs, e⟩ := h.allInts.items
 exact ⟨xs, e, by rw [← h.numsOf, ← nums_intItems, ← e]⟩
theorem uL {p : PV} {ns : List Int} (w : Vw H p (.lst (ns.map .int))) (hne : ns ≠ []) (h : Q (.int (sS ns)) H) : mM W n H (fun vs => call (.builtin "min") vs) [p] Q := kE fun A G s v R hr hv => by
 obtain ⟨a, vs, m, rfl, e1, rs⟩ := w.lstAt hr hv
 obtain ⟨xs, e, hns⟩ := pY (oj rs)
 have hl := jq e1
 rw [e] at hl
 have hsz : 0 < xs.size := by
  have := bI.mpr hne
  rw [hns, aa, bR] at this; exact this
 refine min_intList R.hd hl hsz fun v h' tk hv hk => ?_
 obtain ⟨t, rfl⟩ := intItems_at hv
 obtain ⟨h1, h2⟩ := argBest_lt (numAt xs) (xs.size - 1)
 have hM : numAt xs (argBest (fun i j => decide (numAt xs i < numAt xs j)) (xs.size - 1)) = sS ns := by
  obtain ⟨a1, a2⟩ := t9 hne
  have b1 : numAt xs (argBest (fun i j => decide (numAt xs i < numAt xs j)) (xs.size - 1)) ∈ ns := by
   rw [hns, i6]; exact getD_mem (by rw [aa, bR]; exact J5 5 h1 hsz)
  have b2 : ∀ a ∈ ns, numAt xs (argBest (fun i j => decide (numAt xs i < numAt xs j)) (xs.size - 1)) ≤ a := fun a ha => by
   rw [hns] at ha
   obtain ⟨j, hj, rfl⟩ := mem_getD ha
   rw [aa, bR] at hj
   rw [← i6]; exact h2 j (by exact J5 6 hj)
  exact iT (b2 _ a1) (a2 _ b1)
 rw [hM]
 exact AV hr hk h
theorem sf {p : PV} {ns : List Int} (w : Vw H p (.lst (ns.map .int))) (hne : ns ≠ []) (h : Q (.int (om ns)) H) : mM W n H (fun vs => call (.builtin "max") vs) [p] Q := kE fun A G s v R hr hv => by
 obtain ⟨a, vs, m, rfl, e1, rs⟩ := w.lstAt hr hv
 obtain ⟨xs, e, hns⟩ := pY (oj rs)
 have hl := jq e1
 rw [e] at hl
 have hsz : 0 < xs.size := by
  have := bI.mpr hne
  rw [hns, aa, bR] at this; exact this
 refine max_intList R.hd hl hsz fun v h' tk hv hk => ?_
 obtain ⟨t, rfl⟩ := intItems_at hv
 obtain ⟨h1, h2⟩ := argBest_gt (numAt xs) (xs.size - 1)
 have hM : numAt xs (argBest (fun i j => decide (numAt xs i > numAt xs j)) (xs.size - 1)) = om ns := by
  obtain ⟨a1, a2⟩ := ua hne
  have b1 : numAt xs (argBest (fun i j => decide (numAt xs i > numAt xs j)) (xs.size - 1)) ∈ ns := by
   rw [hns, i6]; exact getD_mem (by rw [aa, bR]; exact J5 5 h1 hsz)
  have b2 : ∀ a ∈ ns, a ≤ numAt xs (argBest (fun i j => decide (numAt xs i > numAt xs j)) (xs.size - 1)) := fun a ha => by
   rw [hns] at ha
   obtain ⟨j, hj, rfl⟩ := mem_getD ha
   rw [aa, bR] at hj
   rw [← i6]; exact h2 j (by exact J5 6 hj)
  exact iT (a2 _ b1) (b2 _ a1)
 rw [hM]
 exact AV hr hk h
theorem uM {p : PV} {ns : List Int} (w : Vw H p (.lst (ns.map .int))) (h : Q (.int ns.sum) H) : mM W n H (fun vs => call (.builtin "sum") vs) [p] Q := kE fun A G s v R hr hv => by
 obtain ⟨a, vs, m, rfl, e1, rs⟩ := w.lstAt hr hv
 obtain ⟨xs, e, hns⟩ := pY (oj rs)
 have hl := jq e1
 rw [e] at hl
 refine sum_intListG R.hd hl fun h' tk t' hk => ?_
 have hM : preSum (numAt xs) xs.size = ns.sum := by
  rw [preSum_eq, hns, br]
  rw [aa, bR]; exact aU _
 rw [hM]
 exact AV hr hk h
theorem AZ {i j : Int} (h : Q (.int (max i j)) H) : mM W n H (fun vs => call (.builtin "max") vs) [.int i, .int j] Q := uK fun A G s u v R hr hu hv => by
 obtain ⟨t, rfl⟩ := lM hv
 obtain ⟨t', rfl⟩ := lM hu
 refine max_two_ints R.hd fun h' tk hk => ?_
 by_cases q : j > i
 ·rw [if_pos q]; rw [iF (by exact J2 10 q)] at h; exact AV hr hk h
 ·rw [if_neg q]; rw [iS (by exact J10 12 q)] at h; exact AV hr hk h
theorem uN {p q : PV} {xs ys : List PV} (w : Vw H p (.lst xs)) (w' : Vw H q (.lst ys)) (hz : xs.length + ys.length ≤ sizeLine) (h : ∀ a, Q (.ref a) ((a, .lst (xs ++ ys)) :: H)) : lA W n H (binaryOp .Add) p q Q := fun A G s u v R hr hu hv => by
 obtain ⟨a, vs, m, rfl, e1, rs⟩ := w.lstAt hr hu
 obtain ⟨b, ws, k, rfl, e2, rs2⟩ := w'.lstAt hr hv
 refine PySem.P.add_list e1 e2 ?_ (by rw [aH, aH, rs.length, rs2.length]; exact hz)
 exact mH (tk := s.toks) (m := 0) hr oW (ju _) (by rw [show (vs.toArray ++ ws.toArray) = (vs ++ ws).toArray by simp]; exact aV _ rfl) (rs.append rs2) h
theorem xM {G} {ps : List PV} {vs : List Value} (h : jY W G ps vs) : ∀ k : Nat, jY W G (bd k ps).flatten (bd k vs).flatten
 | 0 => by simp [jY]
 | k + 1 => by
  rw [gV, ij, gV, ij]
  exact h.append (xM h k)
theorem yW {p : PV} {xs : List PV} {k : Int} (w : Vw H p (.lst xs)) (h0 : 0 ≤ k) (hk : k < 2 ^ 62) (hz : xs.length * k.toNat ≤ 2 ^ 24) (h : ∀ a, Q (.ref a) ((a, .lst (bd k.toNat xs).flatten) :: H)) : lA W n H (binaryOp .Mult) p (.int k) Q := fun A G s u v R hr hu hv => by
 obtain ⟨t, rfl⟩ := lM hv
 obtain ⟨a, vs, m, rfl, e1, rs⟩ := w.lstAt hr hu
 have hlen : vs.toArray.size = xs.length := by rw [aH]; exact rs.length
 refine wpAny_binaryOp_repeat_ref (T := "list") (U := "int") (by decide) ⟨_, e1, rfl⟩ (fun s' => typeIs_int s' k t) noFill_list_mul F.fills_int_mul F.slot_int_rmul repeat_list F.slot_int_index.lookup
  (gZ F.slot_int_rmul (typeIs_int s k t) F.entry_int_rmul (F.args_int_rmul_2 _ _) (lm_int_rmul_list_any k t a vs.toArray m none #[])
   ⟨e1, rfl, ⟨_, e1, rfl⟩, gZ F.slot_list_mul ⟨_, e1, rfl⟩ F.entry_list_mul (F.args_list_mul_2 _ _)
    (lm_list_mul_any a vs.toArray m none #[] k t (by simp [Builtin.List.listFitsIndex]; lia) (by rw [hlen]; lia) (by simp only [Builtin.List.listTooLong, sizeLine, hlen, decide_eq_true_eq]; exact J10 14 hz))
    ⟨e1, ?_⟩⟩)
 exact mH (tk := s.toks) (m := 0) hr oW (ju _) (by rw [listMul_foldl_if]; exact aV _ rfl) (xM rs k.toNat) h
inductive A0 (o i : PV) (H2 : HH) (K : List PV → Nat → Prop) : Prop
 | mk (xs : List PV) (k : Nat) (w : Vw H2 o (.lst xs)) (e : i = .int (k : Int)) (hz : xs.length ≤ sizeLine) (q : K xs k)
theorem CS {value e : Expr} {p pos} (h : Ev W n r H value fun o H1 => Ev W n r H1 e fun i H2 => A0 o i H2 fun xs k => ∀ a, Q (.ref a) ((a, .lst (xs.take k)) :: H2))
  (ht : autoParam (∀ o r, letTemporaryGo value o r = pure ()) aI) : Ev W n r H (.Subscript value (.Slice none (some e) none p) pos) Q := fun A env fa G s R hr f => by
 refine fj (ay (h A env fa G s R hr f) (fun vo s1 h1 => ?_) fun _ _ x => x) ht
 obtain ⟨G1, po, H1, e1, r1, v1, q1⟩ := h1
 refine aB ?_
 refine ay (q1 A env fa G1 s1 R r1 (f.ext e1)) (fun vi s2 h2 => ?_) fun _ _ x => x
 obtain ⟨G2, pi, H2, e2, r2, v2, ⟨xs, k, w, rfl, hz, hQ⟩⟩ := h2
 obtain ⟨t, rfl⟩ := lM v2
 obtain ⟨a, vs, m, rfl, g1, rs⟩ := w.lstAt r2 (e2.rv v1)
 refine ⟨a, vs.toArray, none, some (k : Int), rfl, jq g1, by rw [aH, rs.length]; exact hz, .none, .int _ _, ?_⟩
 refine Fin.trans (e1.trans e2) (mH (vs := vs.take k) (tk := s2.toks) (m := 0) r2 (ke (cW _)) (fun b o e => ju _ _ _ (ju _ _ _ e)) ?_ (rs.take k) hQ)
 rw [slicePick_upto', b7]
 have := aV (s2.heap.push { cls := .type "slice", data := .fields #[.none, .int k t, .none] }) (o := { cls := .type "list", data := .seq (vs.take k).toArray }) rfl
 rw [cL] at this
 exact this
theorem xN {value e : Expr} {p pos} (h : Ev W n r H value fun o H1 => Ev W n r H1 e fun i H2 => A0 o i H2 fun xs k => ∀ a, Q (.ref a) ((a, .lst (xs.drop k)) :: H2))
  (ht : autoParam (∀ o r, letTemporaryGo value o r = pure ()) aI) : Ev W n r H (.Subscript value (.Slice (some e) none none p) pos) Q := fun A env fa G s R hr f => by
 refine fj (ay (h A env fa G s R hr f) (fun vo s1 h1 => ?_) fun _ _ x => x) ht
 obtain ⟨G1, po, H1, e1, r1, v1, q1⟩ := h1
 refine ay (q1 A env fa G1 s1 R r1 (f.ext e1)) (fun vi s2 h2 => ?_) fun _ _ x => x
 refine aB ?_
 obtain ⟨G2, pi, H2, e2, r2, v2, ⟨xs, k, w, rfl, hz, hQ⟩⟩ := h2
 obtain ⟨t, rfl⟩ := lM v2
 obtain ⟨a, vs, m, rfl, g1, rs⟩ := w.lstAt r2 (e2.rv v1)
 refine ⟨a, vs.toArray, some (k : Int), none, rfl, jq g1, by rw [aH, rs.length]; exact hz, .int _ _, .none, ?_⟩
 refine Fin.trans (e1.trans e2) (mH (vs := vs.drop k) (tk := s2.toks) (m := 0) r2 (ke (cW _)) (fun b o e => ju _ _ _ (ju _ _ _ e)) ?_ (rs.drop k) hQ)
 rw [slicePick_from', b7]
 have := aV (s2.heap.push { cls := .type "slice", data := .fields #[.int k t, .none, .none] }) (o := { cls := .type "list", data := .seq (vs.drop k).toArray }) rfl
 rw [cL] at this
 exact this
theorem ub {p : PV} {ns : List Int} {k : Int} (w : Vw H p (.lst (ns.map .int))) (h : Q (.int (ns.count k : Nat)) H) : mM W n H (fun vs => call (.builtin "list.count") vs) [p, .int k] Q := uK fun A G s u v R hr hu hv => by
 obtain ⟨t, rfl⟩ := lM hv
 obtain ⟨a, vs, m, rfl, e1, rs⟩ := w.lstAt hr hu
 exact count_list_ints (jq e1) (oj rs) (n8 hr (by wtm_at "rv") h)
theorem A1 {p : PV} {ns : List Int} {k : Int} (w : Vw H p (.lst (ns.map .int))) (h : Q (.bool (!ns.any (· == k))) H) : lA W n H (compareOp .NotIn) (.int k) p Q := fun A G s u v R hr hu hv => by
 obtain ⟨t, rfl⟩ := lM hu
 obtain ⟨a, vs, m, rfl, e1, rs⟩ := w.lstAt hr hv
 exact notin_list_ints (jq e1) (oj rs) (lq hr h)
theorem wJ {p : PV} {ns : List Int} {k : Int} (w : Vw H p (.tup (ns.map .int))) (h : Q (.bool (!ns.any (· == k))) H) : lA W n H (compareOp .NotIn) (.int k) p Q := fun A G s u v R hr hu hv => by
 obtain ⟨t, rfl⟩ := lM hu
 obtain ⟨a, vs, rfl, e1, rs⟩ := w.tupAt hr hv
 exact notin_tuple_ints e1 (by rw [b7]; exact oj rs) (lq hr h)
end
section
open PySem.SeqAt
noncomputable def oO : Nat → PV → Prop
 | _, .none => True
 | _, .bool _ => True
 | _, .int _ => True
 | _, .str _ => True
 | k + 1, .tup xs => ∀ x ∈ xs, oO k x
 | k + 1, .lst xs => ∀ x ∈ xs, oO k x
 | k + 1, .dct es => ∃ d : List (Int × PV), es = Dk id d ∧ ∀ p ∈ d, oO k p.2
 | _, _ => False
section
variable {W : Wd} {n : Nat} {r : jr} {H : HH} {Q : CV}
theorem pz {G} {xs : List PV} {vs ws : List Value} (h : jY W G xs vs) (h' : jY W G xs ws) {j : Nat} (hj : j < vs.toArray.size) (hj' : j < ws.toArray.size) : ∃ x ∈ xs, RV W G x vs.toArray[j] ∧ RV W G x ws.toArray[j] := by
 have hl : j < xs.length := by rw [← h.length]; simpa using hj
 obtain ⟨v, hv, rv⟩ := h.get (aG hl)
 obtain ⟨w, hw, rw'⟩ := h'.get (aG hl)
 refine ⟨_, bJ hl, ?_, ?_⟩
 ·have : vs.toArray[j] = v := by
   have h1 : vs.toArray[j]? = some vs.toArray[j] := dH hj
   have h2 : vs.toArray[j]? = some v := by simpa using hv
   rw [h1] at h2; exact bD h2
  rw [this]; exact rv
 ·have : ws.toArray[j] = w := by
   have h1 : ws.toArray[j]? = some ws.toArray[j] := dH hj'
   have h2 : ws.toArray[j]? = some w := by simpa using hw
   rw [h1] at h2; exact bD h2
  rw [this]; exact rw'
theorem yX {prog prog' : Program} {w w' : World} {ds : List DictEntry} {kvs : List (Int × Value)} (h : Pairs (intKind prog w) ds kvs) : Pairs (intKind prog' w') ds kvs := by
 induction h with
 | nil => exact .nil
 | cons a b _ ih => exact .cons a b ih
theorem sT {prog prog' : Program} {w w' : World} {h : Heap} {a : Addr} {kvs} (x : h.DictOf (intKind prog w) a kvs) : h.DictOf (intKind prog' w') a kvs := by
 obtain ⟨o, es, ep, ho, he, hd, hk, hp, hn⟩ := x
 exact ⟨o, es, ep, ho, he, hd, hk, yX hp, hn⟩
theorem sU {A : Around} {s : Shared} {a b : Addr} {ka kb : List (Int × Value)} {r : Bool} (ha : (a == sysModules) = false) (hb : (b == sysModules) = false)
  (da : s.heap.DictOf (intKind W.prog W.w) a ka) (db : s.heap.DictOf (intKind W.prog W.w) b kb) (hu : A.units < cLine) (hits : ka.length = kb.length → KeqHits A.in1 s kb ka r) : RcAt A s (.ref a) (.ref b) (ka.length == kb.length && r) := fun prog w E Q h =>
 keq_eq (knd := intKind prog w) ha hb (sT da) (sT db) hu hits h
theorem pZ {α : Type} {d : List (Int × α)} (nd : (d.map ai).Nodup) {p : Int × α} (h : p ∈ d) : jz d p.1 = some p.2 := by
 unfold jz
 induction d with
 | nil => cases h
 | cons q d ih =>
  rw [aC, aY] at nd
  rw [di]
  rcases au.mp h with rfl | h
  ·simp
  ·have : ¬ q.1 = p.1 := fun e => nd.1 (e ▸ aO (f := ai) h)
   simp only [this, decide_false]
   exact ih nd.2 h
theorem sg {A : Around} {s : Shared} {G : Gh} {α : Type} {f : α → PV} {kb : List (Int × Value)} (e : Int → α → Bool) :
  ∀ {d0 : List (Int × α)} {ka : List (Int × Value)}, KV W G f d0 ka → (∀ p ∈ d0, ∀ v, RV W G (f p.2) v → (valueAt kb p.1 = none ∧ e p.1 p.2 = false) ∨ ∃ y, valueAt kb p.1 = some y ∧ EqAt A s v y (e p.1 p.2)) → KeqHits A s kb ka (d0.all fun p => e p.1 p.2)
 | [], ka, h, hd => by subst h; exact .nil
 | p :: d0, ka, h, hd => by
  obtain ⟨v, r, rfl, h1, h2⟩ := h
  have ih := sg e h2 fun q hq => hd q (.tail _ hq)
  rw [i9]
  rcases hd p (.head _) v h1 with ⟨q1, q2⟩ | ⟨y, q1, q2⟩
  ·rw [q2, dZ]; exact .miss q1
  ·exact .hit q1 q2 ih
theorem m9 {G} {s : Shared} (hi : ∀ b o, G.g b = some o → s.heap.get? b = some o) : ∀ (k : Nat) {p : PV} {u v : Value} {A : Around}, oO k p → RV W G p u → RV W G p v → A.units + k < cLine → EqAt A s u v true := by
 have scal : ∀ {p : PV} {u v : Value} {A : Around}, (p = .none ∨ (∃ b, p = .bool b) ∨ (∃ i, p = .int i) ∨ ∃ x, p = .str x) → RV W G p u → RV W G p v → EqAt A s u v true := by
  rintro p u v A (rfl | ⟨b, rfl⟩ | ⟨i, rfl⟩ | ⟨x, rfl⟩) hu hv
  ·subst hu; subst hv; exact EqAt.same _
  ·subst hu; subst hv; exact EqAt.same _
  ·skip
   obtain ⟨t, rfl⟩ := hu
   obtain ⟨t', rfl⟩ := hv
   have := EqAt.int_int (A := A) (s := s) i t i t'
   rwa [beq_self_eq_true] at this
  ·skip
   obtain ⟨t, rfl⟩ := hu
   obtain ⟨t', rfl⟩ := hv
   have := EqAt.str_str (A := A) (s := s) x t x t'
   rwa [beq_self_eq_true] at this
 intro k
 induction k with
 | zero =>
  intro p u v A hp hu hv hA
  cases p with
  | none => exact scal (.inl rfl) hu hv
  | bool b => exact scal (.inr (.inl ⟨_, rfl⟩)) hu hv
  | int i => exact scal (.inr (.inr (.inl ⟨_, rfl⟩))) hu hv
  | str x => exact scal (.inr (.inr (.inr ⟨_, rfl⟩))) hu hv
  | _ => exact (show False from hp).elim
 | succ k ih =>
  intro p u v A hp hu hv hA
  have hA0 : A.units < cLine := by exact J10 22 hA
  have hA1 : A.in1.units + k < cLine := by show A.units + 1 + k < cLine; exact J10 23 hA
  cases p with
  | none => exact scal (.inl rfl) hu hv
  | bool b => exact scal (.inr (.inl ⟨_, rfl⟩)) hu hv
  | int i => exact scal (.inr (.inr (.inl ⟨_, rfl⟩))) hu hv
  | str x => exact scal (.inr (.inr (.inr ⟨_, rfl⟩))) hu hv
  | tup xs =>
   have hp' : ∀ x ∈ xs, oO k x := hp
   obtain ⟨a, vs, rfl, ⟨o, e1, c1, m1, d1⟩, rs⟩ := hu
   obtain ⟨b, ws, rfl, ⟨o', e2, c2, m2, d2⟩, rs'⟩ := hv
   by_cases hab : a = b
   ·subst hab; exact EqAt.same _
   ·have hsz : vs.toArray.size = ws.toArray.size := by rw [aH, aH, rs.length, rs'.length]
    have := RcAt.tuples (A := A) (s := s) (e := fun _ => true) ⟨o, hi _ _ e1, c1, m1, d1⟩ ⟨o', hi _ _ e2, c2, m2, d2⟩ hA0 fun j j1 j2 => by
     obtain ⟨x, hx, r1, r2⟩ := pz rs rs' j1 j2
     exact ih (hp' x hx) r1 r2 hA1
    rw [hsz] at this
    simp only [a8.mpr (fun _ _ => rfl), beq_self_eq_true, eD] at this
    exact EqAt.of_refs hab this
  | lst xs =>
   have hp' : ∀ x ∈ xs, oO k x := hp
   obtain ⟨a, vs, m1, rfl, e1, rs⟩ := hu
   obtain ⟨b, ws, m2, rfl, e2, rs'⟩ := hv
   by_cases hab : a = b
   ·subst hab; exact EqAt.same _
   ·have hsz : vs.toArray.size = ws.toArray.size := by rw [aH, aH, rs.length, rs'.length]
    have := RcAt.lists (A := A) (s := s) (e := fun _ => true) (jq (hi _ _ e1)) (jq (hi _ _ e2)) hsz hA0 fun j j1 j2 => by
     obtain ⟨x, hx, r1, r2⟩ := pz rs rs' j1 j2
     exact ih (hp' x hx) r1 r2 hA1
    simp only [a8.mpr (fun _ _ => rfl)] at this
    exact EqAt.of_refs hab this
  | dct es =>
   obtain ⟨d, rfl, hp'⟩ : ∃ d : List (Int × PV), es = Dk id d ∧ ∀ p ∈ d, oO k p.2 := hp
   obtain ⟨a, vs, m1, rfl, e1, ⟨n1, nd1⟩, rs⟩ := hu
   obtain ⟨b, ws, m2, rfl, e2, ⟨n2, nd2⟩, rs'⟩ := hv
   by_cases hab : a = b
   ·subst hab; exact EqAt.same _
   ·obtain ⟨ka, kva, da⟩ := j8 (W := W) (f := id) (hi _ _ e1) nd1 rs
    obtain ⟨kb, kvb, db⟩ := j8 (W := W) (f := id) (hi _ _ e2) nd2 rs'
    have nd := qj.mp nd1
    have := sU (A := A) n1 n2 da db hA0 fun _ => sg (A := A.in1) (s := s) (kb := kb) (fun _ _ => true) kva fun p hp v hv => by
     obtain ⟨y, hy, ry⟩ := (kvb.valueAt p.1).2 p.2 (pZ nd hp)
     exact .inr ⟨y, hy, ih (hp' p hp) hv ry hA1⟩
    rw [kva.length, kvb.length] at this
    simp only [beq_self_eq_true, a8.mpr (fun _ _ => rfl), eD] at this
    exact EqAt.of_refs hab this
  | _ => exact (show False from hp).elim
theorem lb.eq {A : Around} {n} (R : lb A n) {k : Nat} (hk : k ≤ 64) : A.units + k < cLine := by have := R.ult64; exact J11 0 hk this
theorem HR.look {G} {s : Shared} {p q p' q' : PV} {u v : Value} (hr : HR W G H s) (hp : pp H p p') (hq : pp H q q') (hu : RV W G p u) (hv : RV W G q v) : ∃ G', (∀ b o, G'.g b = some o → s.heap.get? b = some o) ∧ RV W G' p' u ∧ RV W G' q' v := by
 obtain ⟨e, y, hy⟩ := hr.freeze jI.all
 exact ⟨_, fun b o q => (y.imm b o q).1, hy _ _ _ hp hu, hy _ _ _ hq hv⟩
theorem FT {A s u v} {b : Bool} {G} {k : Nat} {p : PV} (hi : ∀ b o, G.g b = some o → s.heap.get? b = some o) (hd : oO (k + 1) p) (hu : RV W G p u) (hv : RV W G p v) (hA : A.units + k + 1 < cLine) : RcAt A s u v true := by
 have hA0 : A.units < cLine := by exact J5 7 hA
 have hA1 : A.in1.units + k < cLine := by show A.units + 1 + k < cLine; exact J5 8 hA
 cases p with
 | none => subst hu; subst hv; exact RcAt.none_none
 | bool b => subst hu; subst hv; have := RcAt.bool_bool (A := A) (s := s) b b; rwa [beq_self_eq_true] at this
 | int i =>
  obtain ⟨t, rfl⟩ := hu
  obtain ⟨t', rfl⟩ := hv
  have := RcAt.int_int (A := A) (s := s) i t i t'
  rwa [beq_self_eq_true] at this
 | str x =>
  obtain ⟨t, rfl⟩ := hu
  obtain ⟨t', rfl⟩ := hv
  have := RcAt.str_str (A := A) (s := s) x t x t'
  rwa [beq_self_eq_true] at this
 | tup xs =>
  have hp' : ∀ x ∈ xs, oO k x := hd
  obtain ⟨a, vs, rfl, ⟨o, e1, c1, m1, d1⟩, rs⟩ := hu
  obtain ⟨b, ws, rfl, ⟨o', e2, c2, m2, d2⟩, rs'⟩ := hv
  have hsz : vs.toArray.size = ws.toArray.size := by rw [aH, aH, rs.length, rs'.length]
  have := RcAt.tuples (A := A) (s := s) (e := fun _ => true) ⟨o, hi _ _ e1, c1, m1, d1⟩ ⟨o', hi _ _ e2, c2, m2, d2⟩ hA0 fun j j1 j2 => by
   obtain ⟨x, hx, r1, r2⟩ := pz rs rs' j1 j2
   exact m9 hi k (hp' x hx) r1 r2 hA1
  rw [hsz] at this
  simpa only [a8.mpr (fun _ _ => rfl), beq_self_eq_true, eD] using this
 | lst xs =>
  have hp' : ∀ x ∈ xs, oO k x := hd
  obtain ⟨a, vs, m1, rfl, e1, rs⟩ := hu
  obtain ⟨b, ws, m2, rfl, e2, rs'⟩ := hv
  have hsz : vs.toArray.size = ws.toArray.size := by rw [aH, aH, rs.length, rs'.length]
  have := RcAt.lists (A := A) (s := s) (e := fun _ => true) (jq (hi _ _ e1)) (jq (hi _ _ e2)) hsz hA0 fun j j1 j2 => by
   obtain ⟨x, hx, r1, r2⟩ := pz rs rs' j1 j2
   exact m9 hi k (hp' x hx) r1 r2 hA1
  simpa only [a8.mpr (fun _ _ => rfl)] using this
 | dct es =>
  obtain ⟨d, rfl, hp'⟩ : ∃ d : List (Int × PV), es = Dk id d ∧ ∀ p ∈ d, oO k p.2 := hd
  obtain ⟨a, vs, m1, rfl, e1, ⟨n1, nd1⟩, rs⟩ := hu
  obtain ⟨b, ws, m2, rfl, e2, ⟨n2, nd2⟩, rs'⟩ := hv
  obtain ⟨ka, kva, da⟩ := j8 (W := W) (f := id) (hi _ _ e1) nd1 rs
  obtain ⟨kb, kvb, db⟩ := j8 (W := W) (f := id) (hi _ _ e2) nd2 rs'
  have nd := qj.mp nd1
  have := sU (A := A) n1 n2 da db hA0 fun _ => sg (A := A.in1) (s := s) (kb := kb) (fun _ _ => true) kva fun p hp v hv => by
   obtain ⟨y, hy, ry⟩ := (kvb.valueAt p.1).2 p.2 (pZ nd hp)
   exact .inr ⟨y, hy, m9 hi k (hp' p hp) hv ry hA1⟩
  rw [kva.length, kvb.length] at this
  simpa only [beq_self_eq_true, a8.mpr (fun _ _ => rfl), eD] using this
 | _ => exact (show False from hd).elim
theorem qo (k : Nat) {p q t : PV} (hk : k ≤ 60) (hp : pp H p t) (hq : pp H q t) (hd : oO (k + 1) t) (h : Q (.bool true) H) : lA W n H (compareOp .Eq) p q Q := fun A G s u v R hr hu hv => by
 obtain ⟨G', hi, r1, r2⟩ := hr.look hp hq hu hv
 exact FT (b := true) hi hd r1 r2 (by have := R.eq (k := k + 1) (by exact J5 9 hk); exact J5 10 this) W.prog W.w mL (Fin W Q G s) (lq hr h)
theorem CT {A s u v} {G} {k : Nat} {p : PV} (hi : ∀ b o, G.g b = some o → s.heap.get? b = some o) (hd : oO (k + 1) p) (hu : RV W G p u) (hv : RV W G p v) (hA : A.units + k + 1 < cLine) (hnd : ∀ es, p ≠ .dct es) : RcNeAt A s u v false := by
 have hA0 : A.units < cLine := by exact J5 7 hA
 have hA1 : A.in1.units + k < cLine := by show A.units + 1 + k < cLine; exact J5 8 hA
 cases p with
 | none => subst hu; subst hv; exact RcNeAt.none_none
 | bool b => subst hu; subst hv; have := RcNeAt.bool_bool (A := A) (s := s) b b; simpa using this
 | int i =>
  obtain ⟨t, rfl⟩ := hu
  obtain ⟨t', rfl⟩ := hv
  have := RcNeAt.int_int (A := A) (s := s) i t i t'
  simpa using this
 | str x =>
  obtain ⟨t, rfl⟩ := hu
  obtain ⟨t', rfl⟩ := hv
  have := RcNeAt.str_str (A := A) (s := s) x t x t'
  simpa using this
 | tup xs =>
  have hp' : ∀ x ∈ xs, oO k x := hd
  obtain ⟨a, vs, rfl, ⟨o, e1, c1, m1, d1⟩, rs⟩ := hu
  obtain ⟨b, ws, rfl, ⟨o', e2, c2, m2, d2⟩, rs'⟩ := hv
  have hsz : vs.toArray.size = ws.toArray.size := by rw [aH, aH, rs.length, rs'.length]
  have := RcNeAt.tuples (A := A) (s := s) (e := fun _ => true) ⟨o, hi _ _ e1, c1, m1, d1⟩ ⟨o', hi _ _ e2, c2, m2, d2⟩ hA0 fun j j1 j2 => by
   obtain ⟨x, hx, r1, r2⟩ := pz rs rs' j1 j2
   exact m9 hi k (hp' x hx) r1 r2 hA1
  rw [hsz] at this
  simpa only [a8.mpr (fun _ _ => rfl), beq_self_eq_true, eD, jc] using this
 | lst xs =>
  have hp' : ∀ x ∈ xs, oO k x := hd
  obtain ⟨a, vs, m1, rfl, e1, rs⟩ := hu
  obtain ⟨b, ws, m2, rfl, e2, rs'⟩ := hv
  have hsz : vs.toArray.size = ws.toArray.size := by rw [aH, aH, rs.length, rs'.length]
  have := RcNeAt.lists (A := A) (s := s) (e := fun _ => true) (jq (hi _ _ e1)) (jq (hi _ _ e2)) hsz hA0 fun j j1 j2 => by
   obtain ⟨x, hx, r1, r2⟩ := pz rs rs' j1 j2
   exact m9 hi k (hp' x hx) r1 r2 hA1
  simpa only [a8.mpr (fun _ _ => rfl), jc] using this
 | dct es => exact absurd rfl (hnd es)
 | _ => exact (show False from hd).elim
theorem jR (k : Nat) {p q t : PV} (hk : k ≤ 60) (hp : pp H p t) (hq : pp H q t) (hd : oO (k + 1) t) (hnd : ∀ es, t ≠ .dct es) (h : Q (.bool false) H) : lA W n H (compareOp .NotEq) p q Q := fun A G s u v R hr hu hv => by
 obtain ⟨G', hi, r1, r2⟩ := hr.look hp hq hu hv
 exact CT hi hd r1 r2 (by have := R.eq (k := k + 1) (by exact J5 9 hk); exact J5 10 this) hnd W.prog W.w mL (Fin W Q G s) (lq hr h)
theorem nB {p q : PV} {xs : List PV} (w : Vw H p (.lst xs)) (w' : Vw H q (.lst [])) (h : Q (.bool (!xs.isEmpty)) H) : lA W n H (compareOp .NotEq) p q Q := fun A G s u v R hr hu hv => by
 obtain ⟨a, vs, m1, rfl, e1, rs⟩ := w.lstAt hr hu
 obtain ⟨b, ws, m2, rfl, e2, rs'⟩ := w'.lstAt hr hv
 subst rs'
 cases xs with
 | nil =>
  subst rs
  exact RcNeAt.lists (A := A) (s := s) (e := fun _ => true) (jq e1) (jq e2) rfl R.ult (fun j j1 _ => absurd j1 (dl _)) W.prog W.w mL (Fin W Q G s) (lq hr h)
 | cons x xs =>
  exact RcNeAt.lists_lengths (A := A) (s := s) (jq e1) (jq e2) (by rw [aH, rs.length]; rfl) R.ult W.prog W.w mL (Fin W Q G s) (lq hr h)
theorem CU {p q : PV} {xs : List PV} (w : Vw H p (.lst xs)) (w' : Vw H q (.lst [])) (h : Q (.bool xs.isEmpty) H) : lA W n H (compareOp .Eq) p q Q := fun A G s u v R hr hu hv => by
 obtain ⟨a, vs, m1, rfl, e1, rs⟩ := w.lstAt hr hu
 obtain ⟨b, ws, m2, rfl, e2, rs'⟩ := w'.lstAt hr hv
 subst rs'
 cases xs with
 | nil =>
  subst rs
  exact RcAt.lists (A := A) (s := s) (e := fun _ => true) (jq e1) (jq e2) rfl R.ult (fun j j1 _ => absurd j1 (dl _)) W.prog W.w mL (Fin W Q G s) (lq hr h)
 | cons x xs =>
  exact RcAt.lists_lengths (A := A) (s := s) (jq e1) (jq e2) (by rw [aH, rs.length]; rfl) R.ult W.prog W.w mL (Fin W Q G s) (lq hr h)
theorem xO {p q : PV} {xs : List PV} (w : Vw H p (.tup xs)) (w' : Vw H q (.tup [])) (h : Q (.bool (!xs.isEmpty)) H) : lA W n H (compareOp .NotEq) p q Q := fun A G s u v R hr hu hv => by
 obtain ⟨a, vs, rfl, e1, rs⟩ := w.tupAt hr hu
 obtain ⟨b, ws, rfl, e2, rs'⟩ := w'.tupAt hr hv
 subst rs'
 have := RcNeAt.tuples (A := A) (s := s) (e := fun _ => true) e1 e2 R.ult (fun j _ j2 => absurd j2 (dl _)) W.prog W.w mL (Fin W Q G s)
 refine this (lq hr ?_)
 cases xs with
 | nil => subst rs; exact h
 | cons x xs =>
  have hl := rs.length
  cases vs with
  | nil => cases hl
  | cons v vs => exact h
theorem xP {x y : Str} (h : Q (.bool (x == y)) H) : lA W n H (compareOp .Eq) (.str x) (.str y) Q := fun A G s u v R hr hu hv => by
 obtain ⟨t, rfl⟩ := hu
 obtain ⟨t', rfl⟩ := hv
 exact RcAt.str_str (A := A) (s := s) x t y t' W.prog W.w mL (Fin W Q G s) (lq hr h)
theorem A2 {x y : Str} (h : Q (.bool (!(x == y))) H) : lA W n H (compareOp .NotEq) (.str x) (.str y) Q := fun A G s u v R hr hu hv => by
 obtain ⟨t, rfl⟩ := hu
 obtain ⟨t', rfl⟩ := hv
 exact RcNeAt.str_str (A := A) (s := s) x t y t' W.prog W.w mL (Fin W Q G s) (lq hr h)
noncomputable def D0 (d e : List (Int × Int)) : Bool := d.length == e.length && d.all fun p => match jz e p.1 with | some y => p.2 == y | none => false
theorem D1 {p q : PV} {d e : List (Int × Int)} (w : Vw H p (.dct (Dk .int d))) (w' : Vw H q (.dct (Dk .int e))) (h : Q (.bool (D0 d e)) H) : lA W n H (compareOp .Eq) p q Q := fun A G s u v R hr hu hv => by
 obtain ⟨a, vs, m1, rfl, e1, ⟨n1, nd1⟩, rs⟩ := w.dctAt hr hu
 obtain ⟨b, ws, m2, rfl, e2, ⟨n2, nd2⟩, rs'⟩ := w'.dctAt hr hv
 obtain ⟨ka, kva, da⟩ := j8 (W := W) (f := PV.int) e1 nd1 rs
 obtain ⟨kb, kvb, db⟩ := j8 (W := W) (f := PV.int) e2 nd2 rs'
 have := sU (A := A) n1 n2 da db R.ult fun _ => sg (A := A.in1) (s := s) (kb := kb) (fun k x => match jz e k with | some y => x == y | none => false) kva fun p hp v hv => by
  obtain ⟨q1, q2⟩ := kvb.valueAt p.1
  cases hd : jz e p.1 with
  | none => exact .inl ⟨q1 hd, rfl⟩
  | some y =>
   obtain ⟨yv, hy, ry⟩ := q2 y hd
   obtain ⟨t, rfl⟩ := lM hv
   obtain ⟨t', rfl⟩ := lM ry
   refine .inr ⟨_, hy, ?_⟩
   have := EqAt.int_int (A := A.in1) (s := s) p.2 t y t'
   exact this
 rw [kva.length, kvb.length] at this
 exact this W.prog W.w mL (Fin W Q G s) (lq hr h)
end
end
noncomputable def p0 {α : Type} (n : Nat) (lt : Nat → Nat → Bool) : KasT α → (α → Prop) → Prop
 | .ret a, Q => Q a
 | .ask i j k, Q => i < n ∧ j < n ∧ p0 n lt (k (lt i j)) Q
theorem m0 {α β : Type} {n lt} {f : α → KasT β} {Q : β → Prop} : ∀ {t : KasT α}, p0 n lt t (fun a => p0 n lt (f a) Q) → p0 n lt (t.bind f) Q
 | .ret _, h => h
 | .ask i j k, h => ⟨h.1, h.2.1, m0 (t := k (lt i j)) h.2.2⟩
theorem uc {α : Type} {n lt} {Q Q' : α → Prop} (hq : ∀ a, Q a → Q' a) : ∀ {t : KasT α}, p0 n lt t Q → p0 n lt t Q'
 | .ret _, h => hq _ h
 | .ask i j k, h => ⟨h.1, h.2.1, uc (t := k (lt i j)) hq h.2.2⟩
theorem xQ {α : Type} {n lt} {cmp : Nat → Nat → (Bool → Shared → Prop) → Shared → Prop} {s : Shared} {Q : α → Shared → Prop} (hc : ∀ i j C, i < n → j < n → C (lt i j) s → cmp i j C s) : ∀ {t : KasT α}, p0 n lt t (fun a => Q a s) → t.kasWp cmp Q s
 | .ret _, h => h
 | .ask i j k, h => hc i j _ h.1 h.2.1 (xQ hc (t := k (lt i j)) h.2.2)
structure Wo (lt : Nat → Nat → Bool) : Prop where
 irr : ∀ a, lt a a = false
 asy : ∀ a b, lt a b = true → lt b a = false
 tr : ∀ a b c, lt b a = false → lt c b = false → lt c a = false
section
variable {n : Nat} {lt : Nat → Nat → Bool}
noncomputable abbrev ld (p : Array Nat) (i : Nat) : Nat := p.getD i 0
noncomputable def Up (lt : Nat → Nat → Bool) (p : Array Nat) (m : Nat) : Prop := ∀ i j, i < j → j < m → lt (ld p j) (ld p i) = false
noncomputable def Dn (lt : Nat → Nat → Bool) (p : Array Nat) (m : Nat) : Prop := ∀ i j, i < j → j < m → lt (ld p i) (ld p j) = false
structure Pm (n : Nat) (p : Array Nat) : Prop where
 perm : p.Perm (eV (av n))
theorem Pm.size {p} (h : Pm n p) : p.size = n := by have := h.perm.size_eq; simpa using this
theorem Pm.low {p} (h : Pm n p) {i : Nat} (hi : i < n) : ld p i < n := by
 have hs := h.size
 have hi' : i < p.size := by exact J0 4 hs hi
 have hm : p[i] ∈ p.toList := by simp
 have := (cM.mp h.perm).mem_iff.mp hm
 have h2 : ld p i = p[i] := by simp [ld, i7, hi']
 rw [h2]; simpa using this
theorem Pm.mirror {p} (h : Pm n p) (i j d : Nat) : Pm n (mirror p i j d) := ⟨(mirror_perm p i j d).trans h.perm⟩
theorem Pm.bubble {p} (h : Pm n p) (i d : Nat) : Pm n (bubble p i d) := ⟨(bubble_perm p i d).trans h.perm⟩
theorem Pm.rev {p} (h : Pm n p) (i j : Nat) : Pm n (iX p i j) := h.mirror _ _ _
theorem qY {p : Array Nat} {i j : Nat} (hj : j ≤ p.size) (k : Nat) : ld (iX p i j) k = if i ≤ k ∧ k < j then ld p (i + j - 1 - k) else ld p k := by
 have := getElem?_mirror_all (i := i) hj k
 simp only [ld, iX, eW, this]
 split <;> rfl
theorem ED {p : Array Nat} {src d : Nat} (hs : src < p.size) (hd : d ≤ src) (k : Nat) : ld (bubble p src d) k = if k = src - d then ld p src else if src - d < k ∧ k ≤ src then ld p (k - 1) else ld p k := by
 have := getElem?_bubble hs d hd k
 simp only [ld, eW, this]
 split
 ·rfl
 ·split <;> rfl
theorem uO {p : Array Nat} (W : Wo lt) (hp : Pm n p) {Q : Nat → Prop} : ∀ (f m : Nat), 1 ≤ m → m + f ≤ n → Up lt p m → (∀ m', m ≤ m' → m' ≤ m + f → Up lt p m' → (m' < m + f → lt (ld p m') (ld p (m' - 1)) = true) → Q m') → p0 n lt (kas_asc p f m) Q
 | 0, m, h1, h2, hu, h => h m (aU _) (aU _) hu (fun q => absurd q (dm _))
 | f + 1, m, h1, h2, hu, h => by
  refine ⟨hp.low (by exact J3 8 h2), hp.low (by exact J3 9 h2), ?_⟩
  cases hc : lt (p.getD m 0) (p.getD (m - 1) 0) with
  | true => exact h m (aU _) (by exact J11 1) hu fun _ => hc
  | false =>
   refine uO W hp f (m + 1) (by exact J11 2) (by exact J2 11 h2) (fun i j hij hj => ?_) fun m' a b c d => h m' (by exact J0 9 a) (by exact J11 3 b) c fun q => d (by exact J11 4 q)
   by_cases e : j < m
   ·exact hu i j hij e
   ·have : j = m := by exact J5 11 hj e
    subst this
    by_cases e' : i = j - 1
    ·rw [e']; exact hc
    ·exact W.tr _ _ _ (hu i (j - 1) (by exact J2 12 hij e') (by exact J3 10 h1)) hc
noncomputable def vG (lt : Nat → Nat → Bool) (p : Array Nat) (a b : Nat) : Prop := ∀ i j, a ≤ i → i < b → a ≤ j → j < b → lt (ld p i) (ld p j) = false
theorem A3 {p : Array Nat} {a b m : Nat} (hb : b ≤ m) (hm : m ≤ p.size) (hd : Dn lt p m) (ha : vG lt p a b) : Dn lt (iX p a b) m := fun i j hij hj => by
 rw [qY (by exact J1 10 hm hb), qY (by exact J1 10 hm hb)]
 split <;> split
 ·exact ha _ _ (by exact J11 5 ‹_› hij) (by exact J11 6 ‹_›) (by exact J11 7 ‹_›) (by exact J11 8 ‹_› hij)
 ·exact hd _ _ (by exact J11 9 ‹_› hij ‹_›) hj
 ·exact hd _ _ (by exact J11 10 ‹_› hij ‹_›) (by exact J11 11 hb ‹_›)
 ·exact hd _ _ hij hj
theorem qp (W : Wo lt) {Q : Array Nat × Nat × Nat → Prop} : ∀ (f : Nat) (p : Array Nat) (m q : Nat), Pm n p → q + 1 ≤ m → m + f ≤ n → Dn lt p m → vG lt p (m - (q + 1)) m →
  (∀ p' m' q', Pm n p' → q' + 1 ≤ m' → m ≤ m' → m' ≤ n → Dn lt p' m' → vG lt p' (m' - (q' + 1)) m' → Q (p', m', q')) → p0 n lt (kas_desc f p m q) Q
 | 0, p, m, q, hp, h1, h2, hd, ha, h => h p m q hp h1 (aU _) (by exact J11 12 h2) hd ha
 | f + 1, p, m, q, hp, h1, h2, hd, ha, h => by
  refine ⟨hp.low (by exact J3 8 h2), hp.low (by exact J3 9 h2), ?_⟩
  have hs := hp.size
  have up : ∀ (hz : lt (ld p (m - 1)) (ld p m) = false), Dn lt p (m + 1) := fun hz i j hij hj => by
   by_cases e : j < m
   ·exact hd i j hij e
   ·have : j = m := by exact J5 11 hj e
    subst this
    by_cases e' : i = j - 1
    ·rw [e']; exact hz
    ·exact W.tr _ _ _ hz (hd i (j - 1) (by exact J2 12 hij e') (by exact J3 11 h1))
  have one : ∀ p', vG lt p' (m + 1 - (0 + 1)) (m + 1) := fun p' i j h1 h2 h3 h4 => by
   have : i = j := by exact J5 12 h3 h1 h4 h2
   subst this; exact W.irr _
  cases hc : lt (p.getD m 0) (p.getD (m - 1) 0) with
  | true =>
   have hz : lt (ld p (m - 1)) (ld p m) = false := W.asy _ _ hc
   by_cases hq : q > 0
   ·simp only [if_true, if_pos hq]
    exact qp W f _ (m + 1) 0 (hp.rev _ _) (by exact J3 12) (by exact J2 11 h2) (A3 (by exact J3 13) (by exact J11 13 h2 hs) (up hz) ha) (one _) fun p' m' q' a b c d e g => h p' m' q' a b (by exact J0 9 c) d e g
   ·simp only [if_true, if_neg hq]
    exact qp W f _ (m + 1) 0 hp (by exact J3 12) (by exact J2 11 h2) (up hz) (one _) fun p' m' q' a b c d e g => h p' m' q' a b (by exact J0 9 c) d e g
  | false =>
   simp only [cg, if_false]
   refine ⟨hp.low (by exact J3 9 h2), hp.low (by exact J3 8 h2), ?_⟩
   cases hd2 : lt (p.getD (m - 1) 0) (p.getD m 0) with
   | true =>
    simp only [if_true]
    exact h p m q hp h1 (aU _) (by exact J11 14 h2) hd ha
   | false =>
    simp only [cg, if_false]
    refine qp W f p (m + 1) (q + 1) hp (by exact J11 15 h1) (by exact J2 11 h2) (up hd2) (fun i j i1 i2 j1 j2 => ?_) fun p' m' q' a b c d e g => h p' m' q' a b (by exact J0 9 c) d e g
    by_cases ei : i = m <;> by_cases ej : j = m
    ·rw [ei, ej]; exact W.irr _
    ·rw [ei]
     by_cases e' : j = m - 1
     ·rw [e']; exact hc
     ·exact W.tr _ _ _ (ha (m - 1) j (by exact J5 13) (by exact J3 11 h1) (by exact J2 13 j1) (by exact J0 11 j2 ej)) hc
    ·rw [ej]
     by_cases e' : i = m - 1
     ·rw [e']; exact hd2
     ·exact W.tr _ _ _ hd2 (ha i (m - 1) (by exact J2 13 i1) (by exact J0 11 i2 ei) (by exact J5 13) (by exact J3 11 h1))
    ·exact ha i j (by exact J2 13 i1) (by exact J0 11 i2 ei) (by exact J2 13 j1) (by exact J0 11 j2 ej)
theorem A4 {p : Array Nat} {m : Nat} (hm : m ≤ p.size) (hd : Dn lt p m) : Up lt (iX p 0 m) m := fun i j hij hj => by
 rw [qY hm, qY hm, if_pos ⟨bF _, by exact J5 14 hj⟩, if_pos ⟨bF _, by exact J11 16 hj hij⟩]
 exact hd _ _ (by exact J11 17 hj hij) (by exact J11 18 hj)
theorem ud (W : Wo lt) {Q : Nat × Array Nat → Prop} {p : Array Nat} {m : Nat} (hp : Pm n p) (h1 : 1 ≤ m) (hm : m ≤ n) (hd : Dn lt p m)
  (h : ∀ m' p', Pm n p' → 1 ≤ m' → m' ≤ n → Up lt p' m' → Q (m', p')) : p0 n lt (kas_tail3 m n p) Q := by
 have hs := hp.size
 unfold kas_tail3
 refine m0 (uO W (hp.rev 0 m) (n - m) m h1 (by exact J11 19 hm) (A4 (by exact J5 15 hm hs) hd) fun m' a b c _ => ?_)
 exact h m' _ (hp.rev 0 m) (by exact J11 20 a h1) (by exact J11 21 hm b) c
theorem qr (W : Wo lt) {Q : Nat × Array Nat → Prop} {p : Array Nat} {m : Nat} (hp : Pm n p) (hm : m + 1 ≤ n) (hd : Dn lt p (m + 1))
  (h : ∀ m' p', Pm n p' → 1 ≤ m' → m' ≤ n → Up lt p' m' → Q (m', p')) : p0 n lt (kas_descPart m n p) Q := by
 unfold kas_descPart
 refine m0 (qp W (n - (m + 1)) p (m + 1) 0 hp (by exact J3 12) (by exact J11 22 hm) hd (fun i j h1 h2 h3 h4 => ?_) fun p' m' q' a b c d e g => ?_)
 ·have : i = j := by exact J5 12 h3 h1 h4 h2
  subst this; exact W.irr _
 ·have hs := a.size
  dsimp only
  split
  ·exact ud W (a.rev _ _) (by exact J5 16 b) d (A3 (aU _) (by exact J5 15 d hs) e g) h
  ·exact ud W a (by exact J5 16 c) d e h
theorem yY (W : Wo lt) {Q : Nat × Array Nat → Prop} {p : Array Nat} (hp : Pm n p) (hn : 1 ≤ n)
  (h : ∀ m' p', Pm n p' → 1 ≤ m' → m' ≤ n → Up lt p' m' → Q (m', p')) : p0 n lt (kas_count n p) Q := by
 have hs := hp.size
 unfold kas_count
 refine m0 (uO W hp (n - 1) 1 (aU _) (by exact J11 23 hn) (fun i j a b => absurd (cf a (dw b)) (dl _)) fun m a b c d => ?_)
 by_cases e : (m == n) = true
 ·rw [if_pos e]; exact h m p hp a (eT (eq_of_beq e)) c
 ·rw [if_neg e]
  have hmn : m < n := Nat.lt_of_le_of_ne (by exact J11 21 hn b) fun z => e (beq_iff_eq.mpr z)
  have hlt := d (by exact J12 0 hmn)
  have hz := W.asy _ _ hlt
  by_cases e1 : m > 1
  ·rw [if_pos e1]
   refine ⟨hp.low (by exact J12 1 hn), hp.low (by exact J12 2 hmn), ?_⟩
   cases hc : lt (p.getD 0 0) (p.getD (m - 1) 0) with
   | true => simp only [if_true]; exact h m p hp (by exact J12 3 a) (by exact J2 14 hmn) c
   | false =>
    simp only [cg, if_false]
    have al : vG lt p 0 m := fun i j i1 i2 j1 j2 => by
     have q1 : lt (ld p i) (ld p 0) = false := by
      by_cases z : i = 0
      ·rw [z]; exact W.irr _
      ·exact c 0 i (by exact J5 17 z) i2
     have q2 : lt (ld p (m - 1)) (ld p j) = false := by
      by_cases z : j = m - 1
      ·rw [z]; exact W.irr _
      ·exact c j (m - 1) (by exact J2 12 j2 z) (by exact J3 10 a)
     have q3 : lt (ld p j) (ld p 0) = false := by
      by_cases z : j = 0
      ·rw [z]; exact W.irr _
      ·exact c 0 j (by exact J5 17 z) j2
     have q4 : lt (ld p (m - 1)) (ld p i) = false := by
      by_cases z : i = m - 1
      ·rw [z]; exact W.irr _
      ·exact c i (m - 1) (by exact J2 12 i2 z) (by exact J3 10 a)
     exact W.tr _ _ _ (W.tr _ _ _ q2 hc) (by
      have := q1; exact this)
    refine qr W (hp.rev _ _) (by exact J3 14 hmn) (fun i j hij hj => ?_) h
    rw [qY (by exact J5 18 hs hmn), qY (by exact J5 18 hs hmn), if_pos (show 0 ≤ i ∧ i < m from ⟨bF _, cf hij (dw hj)⟩)]
    split
    ·exact al _ _ (by exact J3 15) (by exact J12 4 a) (by exact J3 15) (by exact J12 5 ‹_›)
    ·have : j = m := by exact J12 6 hj ‹_›
     subst this
     by_cases z : 0 + j - 1 - i = j - 1
     ·rw [z]; exact hz
     ·exact W.tr _ _ _ hz (al _ _ (by exact J3 15) (by exact J12 7 hij) (by exact J12 8) (by exact J12 9 hij))
  ·rw [if_neg e1]
   have : m = 1 := by exact J12 10 a e1
   subst this
   refine qr W hp hmn (fun i j hij hj => ?_) h
   have h0 : i = 0 := by exact J12 11 hij hj
   have h1 : j = 1 := by exact J12 12 hij hj
   subst h0; subst h1; exact hz
theorem mid {l r : Nat} (h : ¬ r ≤ l) : l ≤ (l + r) / 2 ∧ (l + r) / 2 < r := by lia
theorem q7 (W : Wo lt) {p : Array Nat} {k : Nat} (hp : Pm n p) (hk : k < n) (hu : Up lt p k) {Q : Nat → Prop} : ∀ (f l r : Nat), l ≤ r → r ≤ k → r - l ≤ f → (∀ i, i < l → lt (ld p k) (ld p i) = false) → (∀ i, r ≤ i → i < k → lt (ld p i) (ld p k) = false) →
  (∀ l, l ≤ k → (∀ i, i < l → lt (ld p k) (ld p i) = false) → (∀ i, l ≤ i → i < k → lt (ld p i) (ld p k) = false) → Q l) → p0 n lt (kas_place p k f l r) Q
 | 0, l, r, h1, h2, h3, hl, hr, h => h l (by exact J1 10 h2 h1) hl fun i a b => hr i (by exact J12 13 a h3) b
 | f + 1, l, r, h1, h2, h3, hl, hr, h => by
  unfold kas_place
  split
  ·exact h l (by exact J1 10 h2 h1) hl fun i a b => hr i (by exact J1 10 a ‹_›) b
  ·rename_i hlr
   obtain ⟨m1, m2⟩ := mid hlr
   generalize (l + r) / 2 = m at m1 m2
   have mk := cf m2 h2
   refine ⟨hp.low hk, hp.low (d5 mk hk), ?_⟩
   cases hc : lt (p.getD k 0) (p.getD m 0) with
   | true =>
    simp only [if_true]
    refine q7 W hp hk hu f l _ m1 (Nat.le_of_lt mk) (dw (cf (gG m1 m2) h3)) hl (fun i a b => ?_) h
    have hz := W.asy _ _ hc
    by_cases z : i = m
    ·rw [z]; exact hz
    ·exact W.tr _ _ _ hz (hu _ _ (by exact J2 15 a z) b)
   | false =>
    simp only [cg, if_false]
    refine q7 W hp hk hu f _ r m2 h2 (bj (Nat.sub_le_sub_left (Nat.succ_le_succ m1) r) (Nat.pred_le_pred h3)) (fun i a => ?_) hr h
    by_cases z : i = m
    ·rw [z]; exact hc
    ·exact W.tr _ _ _ (hu i _ (by exact J0 11 a z) mk) hc
theorem FU {p : Array Nat} {k l x : Nat} (hs : k < p.size) (hl : l ≤ k) (hx : x < k + 1) : (x = l ∧ ld (bubble p k (k - l)) x = ld p k) ∨ (l < x ∧ ld (bubble p k (k - l)) x = ld p (x - 1)) ∨ (x < l ∧ ld (bubble p k (k - l)) x = ld p x) := by
 rw [ED hs (Nat.sub_le _ _), Nat.sub_sub_self hl]
 rcases Nat.lt_trichotomy x l with a | a | a
 ·exact .inr (.inr ⟨a, by rw [if_neg (bK a), if_neg fun z => gk a z.1]⟩)
 ·exact .inl ⟨a, if_pos a⟩
 ·exact .inr (.inl ⟨a, by rw [if_neg (ik a), if_pos ⟨a, dw hx⟩]⟩)
theorem xR (W : Wo lt) {Q : Array Nat → Prop} : ∀ (f : Nat) (p : Array Nat) (k : Nat), Pm n p → k + f = n → Up lt p k → (∀ p', Pm n p' → Up lt p' n → Q p') → p0 n lt (kas_bin f p k) Q
 | 0, p, k, hp, hk, hu, h => h p hp (by rw [← hk]; exact hu)
 | f + 1, p, k, hp, hk, hu, h => by
  have hs := hp.size
  unfold kas_bin
  refine m0 (q7 W hp (by exact J12 14 hk) hu k 0 k (bF _) (aU _) (by exact J12 15) (fun i a => absurd a (dl _)) (fun i a b => absurd b (dN.mpr a)) fun l hl h1 h2 => ?_)
  refine xR W f _ (k + 1) (hp.bubble _ _) (by exact J12 16 hk) (fun i j hij hj => ?_) h
  have jk : ∀ {j}, l < j → j < k + 1 → j - 1 < k := fun a b => cf (Nat.sub_lt (bH (bF _) a) Nat.zero_lt_one) (dw b)
  have ks : k < p.size := by exact J5 19 hs hk
  rcases FU ks hl hj with ⟨a, e⟩ | ⟨a, e⟩ | ⟨a, e⟩ <;> rcases FU ks hl (d5 hij hj) with ⟨b, g⟩ | ⟨b, g⟩ | ⟨b, g⟩ <;> rw [e, g]
  ·exact W.irr _
  ·exact absurd (a ▸ hij) (gk b)
  ·exact h1 _ b
  ·exact h2 _ (gH a) (jk a hj)
  ·exact hu _ _ (gG (bH (bF _) b) hij) (jk a hj)
  ·exact hu _ _ (cf b (gH a)) (jk a hj)
  ·exact absurd (b ▸ hij) (gk a)
  ·exact absurd (d5 b hij) (gk a)
  ·exact hu _ _ hij (cf a hl)
theorem A5 (W : Wo lt) (hn : 1 ≤ n) : p0 n lt (kas_sort n) fun p => Pm n p ∧ Up lt p n := by
 unfold kas_sort
 refine m0 (yY W ⟨iU _⟩ hn fun m p hp h1 h2 hu => ?_)
 dsimp only
 split
 ·rw [show max m 1 = m by exact J12 20 h1]
  exact xR W _ p m hp (by exact J12 21 ‹_›) hu fun p' a b => ⟨a, b⟩
 ·have : m = n := by exact J3 7 h2 ‹_›
  subst this
  exact ⟨hp, hu⟩
end
set_option backward.match.sparseCases true
theorem xS {α : Type} [Inhabited α] {L : List α} {p : Array Nat} (hp : Pm L.length p) : (p.toList.map fun i => L.getD i default).Perm L := by
 have h1 := (cM.mp hp.perm).map fun i => L.getD i default
 refine h1.trans ?_
 rw [b7]
 have : (av L.length).map (fun i => L.getD i default) = L := by
  apply bO
  ·simp
  ·intro i h1 h2; simp [List.getD, h2]
 rw [this]
theorem xT {α : Type} [Inhabited α] {L : List α} {p : Array Nat} {lt : Nat → Nat → Bool} {lta : α → α → Bool} (hp : Pm L.length p) (hu : Up lt p L.length) (hl : ∀ i j, i < L.length → j < L.length → lt i j = lta (L.getD i default) (L.getD j default)) :
  (p.toList.map fun i => L.getD i default).Pairwise (fun a b => lta b a = false) := by
 rw [bU, fB]
 intro i j hi hj hij
 have hs := hp.size
 have hi' : i < p.size := by simpa using hi
 have hj' : j < p.size := by simpa using hj
 have e1 : p.toList[i] = ld p i := by simp [ld, i7, hi']
 have e2 : p.toList[j] = ld p j := by simp [ld, i7, hj']
 rw [e1, e2, ← hl _ _ (hp.low (by exact J0 12 hs hj')) (hp.low (by exact J12 22 hs hj' hij))]
 exact hu i j hij (by exact J0 12 hs hj')
section
variable {prog : Program} {w : World} {A : Around} {E : Value → Shared → Prop} {s : Shared}
theorem vH {a : Addr} {vs : List Value} {e0 : Nat} {κ : SortKind} {lt : Nat → Nat → Bool} {P : jh → Shared → Prop} (ho : s.heap.get? a = some (seqObj "list" vs.toArray e0)) (h64 : vs.length < 64) (W : Wo lt)
  (hkind : 2 ≤ vs.length → ∀ (s' : Shared) (Q : SortKind → Shared → Prop), (∀ b o, b ≠ a → s.heap.get? b = some o → s'.heap.get? b = some o) → Q κ s' → wpAny (model prog w) A (keyKind' vs.toArray) Q (fun _ _ => False) s')
  (hlt : ∀ (s' : Shared) (i j : Nat) (C : Bool → Shared → Prop), (∀ b o, b ≠ a → s.heap.get? b = some o → s'.heap.get? b = some o) → i < vs.length → j < vs.length → C (lt i j) s' → wpAny (model prog w) A (keyLt' κ (vs.getD i .none) (vs.getD j .none)) C (fun _ _ => False) s')
  (h : ∀ p h' c, Pm vs.length p → Up lt p vs.length → h'.get? a = some (seqObj "list" (p.toList.map fun i => vs.getD i eg).toArray c) → (∀ b o, b ≠ a → s.heap.get? b = some o → h'.get? b = some o) → P (.done (.ret .none)) { s with heap := h' }) :
  wpAny (model prog w) A (Builtin.«list.sort» ⟨[.ref a], []⟩) P E s := by
 have ha : a < s.heap.objs.size := bq ho
 rw [list_sort_plain]
 refine aj (listItems_at ho rfl ?_)
 refine aj (listUpdate_at ho rfl ?_ (by rw [aH, am]; exact J0 5 h64) (bF _))
 obtain ⟨e1, ho1⟩ : ∃ e1, (s.heap.update a (bZ fun _ => (#[] : Array Value))).get? a = some (seqObj "list" #[] e1) := ⟨_, get?_update_seq ho fun _ => #[]⟩
 refine aj (seqEpoch_at ho1 rfl ?_)
 refine aj (wpAny_newTuple ?_ (by show vs.length ≤ _; rw [am]; exact J0 5 h64))
 refine aj (wpAny_newList ?_ (bF _))
 refine bv ?_
 generalize hH : ((s.heap.update a (bZ fun _ => (#[] : Array Value))).push (seqObj "tuple" vs.toArray 0)).push (seqObj "list" #[] 0) = H3
 have k3 : ∀ b o, b ≠ a → s.heap.get? b = some o → H3.get? b = some o := fun b o hb e => by
  rw [← hH]
  exact be _ (be _ ((cx _ _ _ _ hb).trans e))
 have ho3 : H3.get? a = some (seqObj "list" #[] e1) := by
  rw [← hH]; exact be _ (be _ ho1)
 show wpAny (model prog w) A _ P E { s with heap := H3 }
 dsimp only
 have fin : ∀ (st' : SortSt) (p : Array Nat), Pm vs.length p → Up lt p vs.length → (arrOf st').map (·.2) = (p.toList.map fun i => vs.getD i eg).toArray → failedOf st' = none →
   wpAny (model prog w) A (do
    let sorted := (arrOf st').map (·.2)
    let touched := (← seqEpoch a) != e1
    Builtin.List.listUpdate (.ref a) fun _ => sorted
    if let some e := failedOf st' then rule "list.sort.comparison-raised"; throw e
    if touched then rule "list.sort.modified"; raiseError "ValueError" "list modified during sort"
    ret .none) P E { s with heap := H3 } := by
  intro st' p hp hu hout hf
  dsimp only
  rw [hout]
  refine aj (seqEpoch_at ho3 rfl ?_)
  have hsz : (eV (p.toList.map fun i => vs.getD i eg)).size = vs.length := by rw [aH, aa, bR, hp.size]
  refine aj (listUpdate_at ho3 rfl ?_ (bF _) (bj (eT hsz) (by rw [am]; exact J12 23 h64)))
  rw [hf]
  simp only [bne_self_eq_false, cg, if_false]
  refine aB (h p _ _ hp hu (get?_update_seq ho3 _) fun b o hb e => ?_)
  exact (cx _ _ _ _ hb).trans (k3 b o hb e)
 have hsz : vs.toArray.size = vs.length := by simp
 by_cases h2 : vs.toArray.size < 2
 ·rw [if_pos h2, if_pos h2]
  refine aj (aB ?_)
  rw [StateT.run_pure]
  refine aj (aB ?_)
  refine fin (hW general' (vs.toArray.zip vs.toArray) #[] 7 none) (eV (av vs.length)) ⟨iU _⟩ (fun i j hij hj => ?_) ?_ rfl
  ·lia
  ·show (vs.toArray.zip vs.toArray).map (·.2) = _
   apply iG.mp
   rw [iH]
   clear fin ho1 ho3 k3 hH h hlt hkind ho ha
   have h2 : vs.length < 2 := by exact J13 0 hsz h2
   rcases vs with _ | ⟨v, _ | ⟨w, t⟩⟩
   ·simp
   ·simp [bA]
   ·exact absurd h2 (dN.mpr (Nat.le_add_left 2 _))
 ·rw [if_neg h2, if_neg h2]
  have h2' : 2 ≤ vs.length := by exact J13 1 hsz h2
  refine aj (ay (hkind h2' { s with heap := H3 } (fun κ' s' => κ' = κ ∧ s' = { s with heap := H3 }) k3 ⟨rfl, rfl⟩) ?_ fun _ _ x => x.elim)
  rintro κ' s' ⟨eκ, rfl⟩
  rw [eκ]
  have est : hW κ (vs.toArray.zip vs.toArray) #[] 7 none = kas_st κ (pairsOf vs) (eV (av vs.length)) := by
   have e := kas_range (pairsOf vs)
   rw [pairsOf_size] at e
   show hW κ (pairsOf vs) #[] 7 none = hW κ ((eV (av vs.length)).map (kas_item (pairsOf vs))) #[] 7 none
   rw [e]
  have tree : (kas_sort vs.length).kasWp (kas_cmp prog w A κ (pairsOf vs)) (fun p s' => Pm vs.length p ∧ Up lt p vs.length ∧ s' = { s with heap := H3 }) { s with heap := H3 } := by
   refine xQ (n := vs.length) (lt := lt) (fun i j C hi hj hC => ?_) (uc (fun p hp => ⟨hp.1, hp.2, rfl⟩) (A5 W (by exact J13 2 hsz h2)))
   rw [← kas_ask_eq]
   exact hlt _ i j C k3 hi hj hC
  have run := kas_runs (E := E) (Q := fun _ st' s' => ∃ p : Array Nat, arrOf st' = p.map (kas_item (pairsOf vs)) ∧ failedOf st' = none ∧ Pm vs.length p ∧ Up lt p vs.length ∧ s' = { s with heap := H3 })
   h2' h64 (fun p' st' s' a1 a2 a3 a4 => ⟨p', a2, a3, a4.1, a4.2.1, a4.2.2⟩) tree
  rw [← est] at run
  refine aj (ay run ?_ fun _ _ e => e)
  rintro ⟨⟨⟩, st'⟩ s' ⟨p, har, hf, hp, hu, rfl⟩
  refine fin st' p hp hu ?_ hf
  apply iG.mp
  rw [har, Array.map_map, iH]
  exact bQ fun i _ => by show (kas_item (pairsOf vs) i).2 = _; rw [kas_item_eq]
theorem ue {v : Value} {κ : SortKind} {Q : Value → Shared → Prop}
  (hcol : wpAny (model prog w) A.in1 (collect v) (fun vs s1 => vs.length < 64 ∧ ∃ lt, Wo lt ∧
   (2 ≤ vs.length → ∀ (s' : Shared) (Q : SortKind → Shared → Prop), (∀ b o, s1.heap.get? b = some o → s'.heap.get? b = some o) → Q κ s' → wpAny (model prog w) A.in1.in1 (keyKind' vs.toArray) Q (fun _ _ => False) s') ∧
   (∀ (s' : Shared) (i j : Nat) (C : Bool → Shared → Prop), (∀ b o, s1.heap.get? b = some o → s'.heap.get? b = some o) → i < vs.length → j < vs.length → C (lt i j) s' → wpAny (model prog w) A.in1.in1 (keyLt' κ (vs.getD i .none) (vs.getD j .none)) C (fun _ _ => False) s') ∧
   ∀ a p h' c, ¬ k9 s1.heap a → Pm vs.length p → Up lt p vs.length → h'.get? a = some (lI (p.toList.map fun i => vs.getD i eg) c) → (∀ b o, s1.heap.get? b = some o → h'.get? b = some o) → Q (.ref a) { s1 with heap := h' }) E s) :
  wpAny (model prog w) A (call (.builtin "sorted") [v]) Q E s := by
 refine Calls.call_function_entry kind_sorted plain_sorted entry_sorted (args_sorted1 _) ?_
 unfold Builtin.«sorted»
 refine aj (m := checkCount "sorted" 1 1 _) (aB ?_)
 refine aj (ay hcol (fun vs s1 h1 => ?_) fun _ _ x => x)
 obtain ⟨h64, lt, W, hkind, hlt, h⟩ := h1
 refine aj (wpAny_newList ?_ (by rw [am]; exact J0 5 h64))
 have hoL : (s1.heap.push (seqObj "list" vs.toArray 0)).get? s1.heap.objs.size = some (seqObj "list" vs.toArray 0) := aV _ rfl
 have keep : ∀ b o, s1.heap.get? b = some o → (s1.heap.push (seqObj "list" vs.toArray 0)).get? b = some o := fun b o q => be _ q
 have hne : ∀ b o, s1.heap.get? b = some o → b ≠ s1.heap.objs.size := fun b o q => bK (bq q)
 refine aj (bv (cR slot_list_sort ⟨_, hoL, rfl⟩ entry_list_sort ?body (args_list_sort _)))
 case body =>
  refine vH (s := { s1 with heap := s1.heap.push (seqObj "list" vs.toArray 0) }) (κ := κ) (lt := lt) hoL h64 W (fun h2 s' Q' hk hq => hkind h2 s' Q' (fun b o e => hk b o (hne b o e) (keep b o e)) hq)
   (fun s' i j C hk hi hj hC => hlt s' i j C (fun b o e => hk b o (hne b o e) (keep b o e)) hi hj hC) fun p h' c hp hu hg hk => ?_
  exact ⟨_, rfl, aB ⟨_, rfl, h s1.heap.objs.size p h' c (ke (aU _)) hp hu hg fun b o e => hk b o (hne b o e) (keep b o e)⟩⟩
end
set_option backward.match.sparseCases false
theorem vI {α : Type} {R : α → α → Prop} (anti : ∀ a b, R a b → R b a → a = b) : ∀ {l m : List α}, l.Perm m → l.Pairwise R → m.Pairwise R → l = m
 | [], m, h, _, _ => h.symm.eq_nil.symm
 | a :: l, [], h, _, _ => h.eq_nil
 | a :: l, b :: m, h, h1, h2 => by
  rw [cj] at h1 h2
  have hab : a = b := by
   rcases au.mp (h.mem_iff.mp (.head _ : a ∈ a :: l)) with e | e
   ·exact e
   ·rcases au.mp (h.mem_iff.mpr (.head _ : b ∈ b :: m)) with e' | e'
    ·exact e'.symm
    ·exact anti _ _ (h1.1 b e') (h2.1 a e)
  subst hab
  rw [vI anti (List.perm_cons a |>.mp h) h1.2 h2.2]
noncomputable def srt (ns : List Int) : List Int := ns.mergeSort fun a b => decide (a ≤ b)
theorem qs (ns : List Int) : (srt ns).Perm ns := gW _ _
theorem sV (ns : List Int) : (srt ns).Pairwise (· ≤ ·) := by
 have := fY (le := fun a b : Int => decide (a ≤ b)) (fun a b c h1 h2 => by simp only [decide_eq_true_eq] at *; exact J5 21 h2 h1) (fun a b => by simp only [cO, decide_eq_true_eq]; exact J13 3) ns
 exact this.imp fun h => by simpa using h
theorem sW {ns ms : List Int} (hp : ms.Perm ns) (hs : ms.Pairwise (· ≤ ·)) : ms = srt ns := vI (fun a b h1 h2 => by exact J5 22 h2 h1) (hp.trans (qs ns).symm) hs (sV ns)
noncomputable def nL (x y : Int × Int) : Bool := decide (x.1 < y.1) || (decide (x.1 = y.1) && decide (x.2 < y.2))
noncomputable def nz (L : List (Int × Int)) : List (Int × Int) := L.mergeSort fun a b => !nL b a
theorem ki (L : List (Int × Int)) : (nz L).Perm L := gW _ _
theorem rF (L : List (Int × Int)) : (nz L).Pairwise (fun a b => nL b a = false) := by
 have := fY (le := fun a b : Int × Int => !nL b a) (fun a b c h1 h2 => by
  simp only [nL, im, bX, b9, decide_eq_false_iff_not] at *; exact J5 23 h2 h1) (fun a b => by
  simp only [nL, cO, im, bX, b9, decide_eq_false_iff_not]; exact J13 4) L
 exact this.imp fun h => by simpa using h
theorem vJ {L M : List (Int × Int)} (hp : M.Perm L) (hs : M.Pairwise (fun a b => nL b a = false)) : M = nz L := by
 refine vI (fun a b h1 h2 => ?_) (hp.trans (ki L).symm) hs (rF L)
 simp only [nL, bX, b9, decide_eq_false_iff_not] at h1 h2
 exact fZ (by exact J6 0 h2 h1) (by exact J6 1 h2 h1)
noncomputable abbrev kW (x : Int × Int) : PV := .tup [.int x.1, .int x.2]
section
variable {W : Wd} {n : Nat} {r : jr} {H : HH} {Q : CV}
theorem vK {α : Type} [Inhabited α] {G} {f : α → PV} {L : List α} {vs : List Value} (h : jY W G (L.map f) vs) {i : Nat} (hi : i < L.length) : RV W G (f (L.getD i default)) (vs.getD i .none) := by
 have : (L.map f)[i]? = some (f (L.getD i default)) := by simp [ax, List.getD, hi]
 obtain ⟨v, hv, r⟩ := h.get this
 have e : vs.getD i .none = v := by rw [aL, hv]; rfl
 rw [e]; exact r
theorem sX {α : Type} [Inhabited α] {G} {f : α → PV} {L : List α} {vs : List Value} (h : jY W G (L.map f) vs) : ∀ {is : List Nat}, (∀ i ∈ is, i < L.length) → jY W G ((is.map fun i => L.getD i default).map f) (is.map fun i => vs.getD i .none)
 | [], _ => jY.nil
 | i :: is, hi => jY.cons (vK h (hi i (.head _))) (sX h fun j hj => hi j (.tail _ hj))
theorem qt {vs : List Value} {ns : List Int} (h : IntsAre vs ns) {i : Nat} (hi : i < ns.length) : ∃ t, vs.getD i .none = .int (ns.getD i 0) t := by
 induction h generalizing i with
 | nil => exact absurd hi (dl _)
 | cons n t h ih =>
  cases i with
  | zero => exact ⟨t, rfl⟩
  | succ i => simpa using ih (by simpa using hi)
theorem EE {ns : List Int} : Wo fun i j => decide (ns.getD i default < ns.getD j default) where
 irr := fun a => by simp
 asy := fun a b h => by simp only [decide_eq_true_eq, decide_eq_false_iff_not] at *; exact J13 5 h
 tr := fun a b c h1 h2 => by simp only [decide_eq_false_iff_not] at *; exact J13 6 h2 h1
theorem CW {L : List (Int × Int)} : Wo fun i j => nL (L.getD i default) (L.getD j default) where
 irr := fun a => by simp [nL]
 asy := fun a b h => by simp only [nL, cO, aX, decide_eq_true_eq, bX, b9, decide_eq_false_iff_not] at *; exact J13 7 h
 tr := fun a b c h1 h2 => by simp only [nL, bX, b9, decide_eq_false_iff_not] at *; exact J5 23 h2 h1
theorem yZ {A : Around} {G} {s s1 : Shared} {tk : Nat} {h1 : Heap} {vs : List Value} {ns : List Int} (hr : HR W G H s) (es : s1 = { s with heap := h1, toks := tk }) (hk : ∀ b o, s.heap.get? b = some o → h1.get? b = some o) (hi : IntsAre vs ns) (h64 : ns.length < 64) (h : ∀ a, Q (.ref a) ((a, .lst ((srt ns).map .int)) :: H)) :
  vs.length < 64 ∧ ∃ lt, Wo lt ∧
   (2 ≤ vs.length → ∀ (s' : Shared) (Q : SortKind → Shared → Prop), (∀ b o, s1.heap.get? b = some o → s'.heap.get? b = some o) → Q oneType' s' → wpAny (model W.prog W.w) A.in1.in1 (keyKind' vs.toArray) Q (fun _ _ => False) s') ∧
   (∀ (s' : Shared) (i j : Nat) (C : Bool → Shared → Prop), (∀ b o, s1.heap.get? b = some o → s'.heap.get? b = some o) → i < vs.length → j < vs.length → C (lt i j) s' → wpAny (model W.prog W.w) A.in1.in1 (keyLt' oneType' (vs.getD i .none) (vs.getD j .none)) C (fun _ _ => False) s') ∧
   ∀ a p h' c, ¬ k9 s1.heap a → Pm vs.length p → Up lt p vs.length → h'.get? a = some (lI (p.toList.map fun i => vs.getD i eg) c) → (∀ b o, s1.heap.get? b = some o → h'.get? b = some o) → Fin W Q G s (.ref a) { s1 with heap := h' } := by
 have hl := hi.length
 subst es
 refine ⟨by exact J2 16 hl h64, _, EE (ns := ns), fun h2 s' Q' _ hq => ?_, fun s' i j C _ h1 h2 hC => ?_, fun a p h' c hn hp hu hg hk2 => ?_⟩
 ·match vs, hi, h2 with
  | v₁ :: v₂ :: rest, hi, _ => rw [keyKind_ints hi]; exact aB hq
 ·obtain ⟨t, e1⟩ := qt hi (i := i) (by exact J0 12 hl h1)
  obtain ⟨t', e2⟩ := qt hi (i := j) (by exact J0 12 hl h2)
  rw [e1, e2]
  exact kat_lt_int hC
 ·have hp' : Pm ns.length p := hl ▸ hp
  have hin : ∀ i ∈ p.toList, i < ns.length := fun i hi => by
   have := (cM.mp hp'.perm).mem_iff.mp hi
   simpa using this
  have e : (p.toList.map fun i => ns.getD i default) = srt ns := sW (xS hp') ((xT (lta := fun a b => decide (a < b)) hp' (by rw [← hl]; exact hu) fun i j _ _ => rfl).imp fun q => by simpa using q)
  have rs := sX (W := W) (G := G) (f := PV.int) (xL hi) hin
  rw [e] at rs
  exact mH (tk := tk) hr (fun hh => hn (let ⟨o, q⟩ := hh; ⟨o, hk _ _ q⟩)) (fun b o q => hk2 b o (hk b o q)) hg rs h
theorem lB {α : Type} {f : α → PV} {p : PV} {d : List (Int × α)} (w : Vw H p (.dct (Dk f d))) (h64 : d.length < 64) (h : ∀ a, Q (.ref a) ((a, .lst ((srt (d.map ai)).map .int)) :: H)) : mM W n H (fun vs => call (.builtin "sorted") vs) [p] Q := kE fun A G s v R hr hv => by
 obtain ⟨a, ds, m, rfl, e1, ⟨hsys, nd⟩, rs⟩ := w.dctAt hr hv
 obtain ⟨kvs, kv, dof⟩ := j8 (W := W) (f := f) e1 nd rs
 obtain ⟨ep, dat⟩ := dof.dictAt
 refine ue (κ := oneType') (kdu_collect (kdl_dict hsys) R.hd dat (by rw [kv.length, am]; exact J0 5 h64) fun h' tk acc hk hacc => ?_)
 refine yZ (tk := tk) hr rfl hk ?_ (by rw [aa]; exact h64) h
 obtain ⟨ha, hP⟩ := hacc
 rw [← kv.keys]
 have key : ∀ {vs : List Value} {ks : List (Int × Value)}, vs.length = ks.length → (∀ (j : Nat) (v : Value), vs[j]? = some v → ∃ k x, ks[j]? = some (k, x) ∧ (intKind W.prog W.w).is k v = true) → IntsAre vs (ks.map ai) := by
  intro vs
  induction vs with
  | nil => intro ks h1 _; cases ks with
   | nil => exact .nil
   | cons _ _ => simp at h1
  | cons v vs ih =>
   intro ks h1 h2
   cases ks with
   | nil => simp at h1
   | cons k ks =>
    obtain ⟨k0, x, q1, q2⟩ := h2 0 v rfl
    cases (bD q1 : k = (k0, x))
    obtain ⟨t, rfl⟩ := fH q2
    exact .cons k0 t (ih (by simpa using h1) fun j u hj => h2 (j + 1) u hj)
 exact key (by rw [bR, ha]) fun j v hj => hP j v (by simpa using hj)
theorem q9 {p : PV} {L : List (Int × Int)} (w : Vw H p (.lst (L.map kW))) (h64 : L.length < 64) (h : ∀ a, Q (.ref a) ((a, .lst ((nz L).map kW)) :: H)) : mM W n H (fun vs => call (.builtin "sorted") vs) [p] Q := kE fun A G s v R hr hv => by
 obtain ⟨a, vs, m, rfl, e1, rs⟩ := w.lstAt hr hv
 have hl : vs.length = L.length := by rw [rs.length, aa]
 refine ue (κ := tuples' (hY "int" != hY "tuple")) (collect_list (jq e1) ?_ (by rw [hl, am]; exact J0 5 h64))
 have hk1 : ∀ b o, s.heap.get? b = some o → ((s.heap.push (seqObj "list" #[] 0)).update s.heap.objs.size (bZ (· ++ vs.toArray))).get? b = some o := fun b o q => by
  have hlt : b < s.heap.objs.size := bq q
  exact (cx _ _ _ _ (bK hlt)).trans (be _ q)
 generalize (s.heap.push (seqObj "list" #[] 0)).update s.heap.objs.size (bZ (· ++ vs.toArray)) = H1 at hk1 ⊢
 have tupOf : ∀ i, i < L.length → ∃ x o t u m, vs.getD i .none = .ref x ∧ s.heap.get? x = some o ∧ o.cls = .type "tuple" ∧ o.data = .seq #[.int (L.getD i default).1 t, .int (L.getD i default).2 u] m := fun i hi => by
  have := vK (W := W) (G := G) (f := kW) rs hi
  simp only [kW, RV, jY] at this
  obtain ⟨x, ws, ex, ⟨o, g1, g2, m, g3⟩, v1, _, rfl, ⟨t, rfl⟩, v2, _, rfl, ⟨u, rfl⟩, rfl⟩ := this
  exact ⟨x, o, t, u, m, ex, (hr.imm _ _ g1).1, g2, g3⟩
 refine ⟨by exact J2 16 hl h64, _, CW (L := L), fun h2 s' Q' hk hq => ?_, fun s' i j C hk h1 h2 hC => ?_, fun a p h' c hn hp hu hg hk2 => ?_⟩
 ·have kt : ∀ (L : List (Int × Int)) (vs : List Value), jY W G (L.map kW) vs → ∃ fs : List Value, KatTups s'.heap vs fs ∧ fs.length = vs.length ∧ ∀ v ∈ fs, ∃ i t, v = gO i t := by
   intro L
   induction L with
   | nil => intro vs h; simp only [cX, jY] at h; subst h; exact ⟨[], KatTups.nil, rfl, fun v hv => by cases hv⟩
   | cons x L ih =>
    intro vs h
    simp only [aC, jY] at h
    obtain ⟨v, r, rfl, hv, hr'⟩ := h
    obtain ⟨fs, q1, q2, q3⟩ := ih r hr'
    simp only [kW, RV, jY] at hv
    obtain ⟨y, ws, rfl, ⟨o, g1, g2, m, g3⟩, v1, _, rfl, ⟨t, rfl⟩, v2, _, rfl, ⟨u, rfl⟩, rfl⟩ := hv
    refine ⟨.int x.1 t :: fs, KatTups.cons (hk _ _ (hk1 _ _ (hr.imm _ _ g1).1)) g2 g3 rfl q1, by simp [q2], fun v hv => ?_⟩
    rcases au.mp hv with e | hv
    ·exact ⟨_, _, e⟩
    ·exact q3 v hv
  obtain ⟨fs, q1, q2, q3⟩ := kt L vs rs
  refine kat_kind (T := .type "int") q1 (by exact J13 8 h2 q2) (fun v hv => ?_) rfl hq
  obtain ⟨i, t, rfl⟩ := q3 v hv
  exact Looks.now
 ·obtain ⟨x, o, t, u, m, ex, g1, g2, g3⟩ := tupOf i (by exact J0 12 hl h1)
  obtain ⟨y, o', t', u', m', ey, g1', g2', g3'⟩ := tupOf j (by exact J0 12 hl h2)
  rw [ex, ey]
  have e0 : (hY "int" != hY "tuple") = true := by decide
  rw [e0]
  refine kat_lt (hk _ _ (hk1 _ _ g1)) g3 (hk _ _ (hk1 _ _ g1')) g3' ?_
  generalize L.getD i default = p1 at *
  generalize L.getD j default = p2 at *
  show KatLex _ _ _ _ (decide (2 < 2)) _ [(.int p1.1 t, .int p2.1 t'), (.int p1.2 u, .int p2.2 u')] 0 s'
  have hC' : C (nL p1 p2) s' := hC
  refine kat_cons (dP p1.1 t p2.1 t' W.prog W.w _ _ ?_)
  refine kat_go (fun e => kat_yes ?_) (fun e => kat_no ?_)
  ·have e' : p1.1 = p2.1 := by simpa using e
   refine kat_cons (dP p1.2 u p2.2 u' W.prog W.w _ _ ?_)
   refine kat_go (fun e2 => kat_yes (kat_nil ?_)) (fun e2 => kat_no ?_)
   ·have e2' : p1.2 = p2.2 := by simpa using e2
    have : nL p1 p2 = false := by simp [nL, e', e2']
    rw [this] at hC'; exact hC'
   ·refine kat_one _ _ (gD ?_)
    show C _ _
    have : nL p1 p2 = decide (p1.2 < p2.2) := by simp [nL, e']
    rw [this] at hC'; exact hC'
  ·have e' : ¬ p1.1 = p2.1 := by simpa using e
   have : nL p1 p2 = decide (p1.1 < p2.1) := by simp [nL, e']
   rw [this] at hC'
   exact kat_lt_int hC'
 ·have hp' : Pm L.length p := hl ▸ hp
  have hin : ∀ i ∈ p.toList, i < L.length := fun i hi => by
   have := (cM.mp hp'.perm).mem_iff.mp hi
   simpa using this
  have e : (p.toList.map fun i => L.getD i default) = nz L := vJ (xS hp') (xT (lta := nL) hp' (by rw [← hl]; exact hu) fun i j _ _ => rfl)
  have rs2 := sX (W := W) (G := G) (f := kW) rs hin
  rw [e] at rs2
  exact mH (tk := s.toks) hr (fun hh => hn (let ⟨o, q⟩ := hh; ⟨o, hk1 _ _ q⟩)) (fun b o q => hk2 b o (hk1 b o q)) hg rs2 h
end
section
variable {W : Wd} {n : Nat} {r : jr} {H : HH} {Q : CV}
theorem HR.newO {G} {s : Shared} {a : Addr} {h' : Heap} {ho : HO} {tk : Nat} (hr : HR W G H s) (hn : ¬ k9 s.heap a) (hk : ∀ b o, s.heap.get? b = some o → h'.get? b = some o) (hsl : kF W (G.addO a a) h' a ho) :
  HR W (G.addO a a) ((a, ho) :: H) { s with heap := h', toks := tk } ∧ ky [] G s (G.addO a a) { s with heap := h', toks := tk } := by
 have hng := hr.noG hn
 have hno : ∀ b o', (b, o') ∈ H → ∀ c, G.own c = some b → c ≠ a := fun b o' hm c e q => hn (q ▸ (hr.bown c b e).2)
 refine ⟨⟨hr.bas, fun b i e => ?_, fun b ob e => ⟨hk _ _ (hr.imm b ob e).1, ?_⟩, ?_, fun b ob hm => ?_, hr.os, hr.gens⟩, ⟨fun _ _ e => e, fun b hb => .inl ?_, fun _ _ _ => rfl, fun b ob e _ _ => hk _ _ e, fun b ⟨o, e⟩ => ⟨o, hk _ _ e⟩⟩⟩
 ·have e' : (if b = a then some a else G.own b) = some i := e
  by_cases hb : b = a
  ·rw [hb]; exact ⟨hr.noB hn, hsl.has⟩
  ·rw [if_neg hb] at e'; exact ⟨(hr.bown b i e').1, let ⟨o, q⟩ := (hr.bown b i e').2; ⟨o, hk _ _ q⟩⟩
 ·have e' : G.g b = some ob := e
  show (if b = _ then _ else _) = _
  rw [if_neg (fun q => by rw [q, hng] at e'; cases e')]; exact (hr.imm b ob e').2
 ·rw [aC, aY]
  refine ⟨fun hm => ?_, hr.nodup⟩
  obtain ⟨⟨b, o'⟩, hp, hq⟩ := az.mp hm
  have hq' : b = a := hq
  exact hn (hq' ▸ (hr.slot b o' hp).has)
 ·rcases au.mp hm with e | hm
  ·cases e; exact hsl
  ·exact (hr.slot b ob hm).mono (fun _ _ e => e) (fun c oc _ e => hk _ _ e) fun c e => by
    show (if c = _ then _ else _) = _
    rw [if_neg (hno b ob hm c e)]; exact e
 ·show (if b = _ then _ else _) = _
  rw [if_neg (fun q => hn (by rw [← q]; exact hb))]
theorem vL {α : Type} {f : α → PV} {G} {s : Shared} {a : Addr} {h' : Heap} {tk : Nat} {d : List (Int × α)} {kvs : List (Int × Value)} (hr : HR W G H s) (hn : ¬ k9 s.heap a) (hk : ∀ b o, s.heap.get? b = some o → h'.get? b = some o) (hd : h'.DictOf (intKind W.prog W.w) a kvs) (kv : KV W G f d kvs)
  (h : ∀ a, Q (.ref a) ((a, .dct (Dk f d)) :: H)) : Fin W Q G s (.ref a) { s with heap := h', toks := tk } := by
 obtain ⟨ds, m, e1, nd, rs⟩ := tZ kv hd
 obtain ⟨x, e⟩ := hr.newO (tk := tk) (ho := .dct (Dk f d)) hn hk ⟨ds, m, e1, if_pos rfl, nd, rs.mono (G' := G.addO a a) (fun b o (e : G.g b = some o) => e)⟩
 exact ⟨_, .ref a, _, e, x, by wtm_at "rv", h a⟩
theorem uf {α : Type} {f : α → PV} {p : PV} {d : List (Int × α)} (w : Vw H p (.dct (Dk f d))) (hz : d.length ≤ sizeLine) (h : ∀ a, Q (.ref a) ((a, .dct (Dk f d)) :: H)) : mM W n H (fun vs => call (.type "dict") vs) [p] Q := kE fun A G s v R hr hv => by
 obtain ⟨a, ds, m, rfl, e1, ⟨hsys, nd⟩, rs⟩ := w.dctAt hr hv
 obtain ⟨kvs, kv, dof⟩ := j8 (W := W) (f := f) e1 nd rs
 refine kt_call_dict hsys dof (by rw [kv.length]; exact hz) fun h' hd hs => ?_
 refine vL (tk := s.toks) hr oW (fun b o q => ?_) hd kv h
 exact (hs.2 b (bK (bq q))).trans (be _ q)
theorem A6 {x y : Str} (hz : x.length + y.length ≤ sizeLine) (h : Q (.str (x ++ y)) H) : lA W n H (binaryOp .Add) (.str x) (.str y) Q := fun A G s u v R hr hu hv => by
 obtain ⟨t, rfl⟩ := hu
 obtain ⟨t', rfl⟩ := hv
 exact PyProof.Rows.add_str (fun t' tk => n8 hr (by wtm_at "rv") h) hz
theorem EF {lo hi k : Int} (h : Q (.bool (!(decide (lo ≤ k) && decide (k < hi)))) H) : lA W n H (compareOp .NotIn) (.int k) (.rng lo hi) Q := fun A G s u v R hr hu hv => by
 obtain ⟨t, rfl⟩ := lM hu
 obtain ⟨a, t1, u1, z1, rfl, e1⟩ := hv
 have e2 := (hr.imm _ _ e1).1
 have hT : s.TypeIs (.ref a) "range" := ⟨_, e2, rfl⟩
 refine NotIn_slot hT eX (cR eX hT PySem.F.entry_range_contains ?_ (PySem.F.args_range_contains_2 _ _))
 unfold Builtin.«range.__contains__»
 show wpAny _ _ (do rule "range.contains.reckoned"; let (a, b, c) ← fC (.ref a); ret (.bool (dI a b c k).isSome)) _ _ s
 refine aj (fk ?_)
 refine aj ?_
 unfold fC
 refine aj (iN e2 rfl (x := .int lo t1) rfl (aj (aB ?_)))
 refine aj (iN e2 rfl (x := .int hi u1) rfl (aj (aB ?_)))
 refine aj (iN e2 rfl (x := .int 1 z1) rfl (aj (aB (aB ?_))))
 refine aB ⟨_, rfl, cP ?_⟩
 have e : (dI lo hi 1 k).isSome = (decide (lo ≤ k) && decide (k < hi)) := by
  unfold dI
  cases q : (decide (lo ≤ k) && decide (k < hi)) <;> simp [q, Int.emod_one]
 rw [e]
 exact lq hr h
noncomputable def D3 (K : Frag) (C : Addr) (name : Str) (f : Addr) : Bool :=
 readsIn K C (.type "type") && specialIn K (.ref C) "__getattribute__" == some (some (.builtin "type.__getattribute__")) && (match findCls K (.ref C) (.type "type") name with | some (.val v) => v == .ref f | _ => false) && fnIn K f && keepIn K (.ref C)
theorem A7 {x xp name apos pos C f} {args : List Expr} (hm : (x, Bd.glb) ∈ r) (hmg : W.mg x = some (.ref C)) (hc : D3 W.K C name f = true) (hl : (apos.endLine == pos.line) = true) (hs : args.all jE = true) (hn : args.length < 29)
  (h : nR W n r H args fun ps H2 => jX W n H2 (.ref f) ps Q) (hd : autoParam ((x == ("__debug__" : Str)) = false) aD) : Ev W n r H (.Call (.Attribute (.Name x xp) name apos) args [] pos) Q := fun A env fa G s R hr fr => by
 refine oT rfl hl hs hn (pn hr fr hm hmg (fun pl => ?_) xp hd)
 unfold D3 at hc
 simp only [aX, beq_iff_eq] at hc
 obtain ⟨⟨⟨⟨a1, a2⟩, a3⟩, a4⟩, a5⟩ := hc
 have X := W.inK.keeps hr.base
 have a3' : findCls W.K (.ref C) (.type "type") name = some (.val (.ref f)) := by
  cases e : findCls W.K (.ref C) (.type "type") name with
  | none => rw [e] at a3; cases a3
  | some v =>
   rw [e] at a3
   cases v with
   | val v => simp only [beq_iff_eq] at a3; rw [a3]
   | get => cases a3
 refine method_cls X a2 (cls_value X a1 a3' rfl ?_)
 obtain ⟨ob, fd, hb1, hb2⟩ := uE W.inK a4
 have e1 : ky [] G s G { s with toks := s.toks + 1 } := ky.kept (fun _ _ e => e)
 refine dR (o := ob) (fd := fd) (kK (ay (h A env fa G _ R (hr.kept (tk := s.toks + 1) (dr := s.drawn) fun _ _ e => e) (fr.ext e1)) (fun vs s2 h2 => ?_) fun _ _ x => x))
 obtain ⟨G2, ps, H2, e2, r2, v2, qq⟩ := h2
 exact ⟨⟨r2.base _ _ hb1, hb2⟩, ay (qq.toN A G2 s2 vs R r2 v2) (fun _ _ h => (h.trans e2).trans e1) fun _ _ x => x⟩
end
noncomputable def lm (h : Heap) (v : Value) (x : Int × Int) : Prop := ∃ a t u, v = .ref a ∧ IsTup h a #[.int x.1 t, .int x.2 u]
theorem lm.keep {h h' : Heap} {v x} (p : lm h v x) (hk : ∀ a o, v = .ref a → h.get? a = some o → h'.get? a = some o) : lm h' v x := by
 obtain ⟨a, t, u, e, o, h1, r⟩ := p
 exact ⟨a, t, u, e, o, hk a o e h1, r⟩
section
variable {prog : Program} {w : World} {A : Around} {E : Value → Shared → Prop} {s : Shared}
theorem xU {i j : Int} {t u : Tok} {Q : Bool → Shared → Prop} (e : i = j) (h : Q true s) : wpAny (model prog w) A (eqBool (.int i t) (.int j u)) Q E s := dP i t j u prog w E Q (by rw [beq_iff_eq.mpr e]; exact h)
theorem xV {i j : Int} {t u : Tok} {Q : Bool → Shared → Prop} (e : i ≠ j) (h : Q false s) : wpAny (model prog w) A (eqBool (.int i t) (.int j u)) Q E s := dP i t j u prog w E Q (by rw [beq_eq_false_iff_ne.mpr e]; exact h)
theorem FV {i j : Int} {t u : Tok} {Q : Value → Shared → Prop} (h : Q (.bool (decide (i < j))) s) : wpAny (model prog w) A (richCompare .Lt (.int i t) (.int j u)) Q E s := gD h
theorem wK {a b : Addr} {x y : Int × Int} {t u t' u' : Tok} {Q : jh → Shared → Prop} (ha : IsTup s.heap a #[.int x.1 t, .int x.2 u]) (hb : IsTup s.heap b #[.int y.1 t', .int y.2 u']) (h : Q (.done (.ret (.bool (nL x y)))) s) :
  wpAny (model prog w) A (Builtin.«tuple.__lt__» ⟨[.ref a, .ref b], []⟩) Q E s := by
 show wpAny _ _ (isInstance (.ref b) (.type "tuple") >>= _) _ _ s
 refine aj (eu hb.typeIs AutoSeq1.sub_tuple_tuple ?_)
 refine bM rfl ?_
 refine aj (tupleItemsOf_ ha ?_)
 refine aj (tupleItemsOf_ hb ?_)
 refine aj ?_
 show wpAny _ _ (forIn [((gO x.1 t), (gO y.1 t')), ((gO x.2 u), (gO y.2 u'))] _ _) _ _ s
 rw [eI]
 by_cases e1 : x.1 = y.1
 ·refine aj (aj (xU e1 ?_))
  refine bM rfl ?_
  refine aB ?_
  dsimp only
  rw [eI]
  by_cases e2 : x.2 = y.2
  ·refine aj (aj (xU e2 ?_))
   refine bM rfl ?_
   refine aB ?_
   dsimp only
   rw [gF]
   have hl : nL x y = false := by simp [nL, e1, e2]
   rw [hl] at h
   exact aB (aB h)
  ·refine aj (aj (xV e2 ?_))
   refine gI rfl ?_
   have hl : nL x y = decide (x.2 < y.2) := by simp [nL, e1]
   rw [hl] at h
   exact aj (fk (aj (FV (aj (aB (aB (aB (aB h))))))))
 ·refine aj (aj (xV e1 ?_))
  refine gI rfl ?_
  have hl : nL x y = decide (x.1 < y.1) := by simp [nL, e1]
  rw [hl] at h
  exact aj (fk (aj (FV (aj (aB (aB (aB (aB h))))))))
theorem FW {v v' : Value} {x y : Int × Int} {Q : Value → Shared → Prop} (hx : lm s.heap v x) (hy : lm s.heap v' y) (hu : A.units < cLine) (h : Q (.bool (nL x y)) s) : wpAny (model prog w) A (richCompare .Lt v v') Q E s := by
 obtain ⟨a, t, u, rfl, ha⟩ := hx
 obtain ⟨b, t', u', rfl, hb⟩ := hy
 refine eY (op := .Lt) ha.typeIs hb.typeIs gB (cR gB ha.typeIs PySem.F.entry_tuple_lt (wK ha hb ⟨_, rfl, ?_, h⟩) (PySem.F.args_tuple_lt_2 _ _)) hu
 exact fun x => nomatch x
theorem A8 {R : Result → Shared → Prop} {I l S : Addr} {vs : List Value} {L : List (Int × Int)} (hh : A.handled = none) (hu : A.in1.units < cLine) (hlI : l ≠ I) (hSI : S ≠ I) (hSl : S ≠ l) (hlen : vs.length = L.length) :
  ∀ (k j : Nat) (s : Shared) (vb : Value) (b : Int × Int) (c : Nat), L.length - (j + 1) = k → j + 1 ≤ L.length → s.heap.IsListIter I l (j + 1) → s.heap.IsList l vs.toArray → s.heap.get? S = some { cls := .type "list", dict := none, data := .seq #[vb, vb] c, slots := #[] } →
  (∀ (i : Nat) (x : Int × Int), L[i]? = some x → ∃ v, vs[i]? = some v ∧ lm s.heap v x ∧ v ≠ .ref I ∧ v ≠ .ref S) → lm s.heap vb b → vb ≠ .ref I → vb ≠ .ref S → (∃ i : Nat, L[i]? = some b ∧ vs[i]? = some vb) → (∀ (i : Nat) (x : Int × Int), i ≤ j → L[i]? = some x → nL x b = false) →
  (∀ v x h' tk, (∃ i : Nat, L[i]? = some x ∧ vs[i]? = some v) → (∀ y ∈ L, nL y x = false) → (∀ b o, b ≠ I → b ≠ S → s.heap.get? b = some o → h'.get? b = some o) → R (.ok (.ret v)) { s with heap := h', toks := tk }) →
  codeAny (model prog w) A (.builtin "min.loop" ⟨[.ref I, .none, .ref S], []⟩) R s := by
 have hname : (toString "min" ++ toString ".loop" : String) = "min.loop" := by decide
 have W := hJ (prog := prog) (w := w) (A := A.in1) hh I l hlI vs.toArray
 have hSw : S ∉ [I] := by simpa using hSI
 intro k
 induction k with
 | zero =>
  intro j s vb b c hk hj hit hl hS hT hb hvI hvS hbm hmin hR
  have hin : j + 1 = vs.toArray.size := by rw [aH]; exact J13 9 hj hlen hk
  refine dM f0 ?_
  rw [cQ cJ _]
  show wpAny _ A.in1 (seqItems? (.ref S) >>= _) _ _ s
  refine aj (cS hS rfl ?_)
  show wpAny _ A.in1 (tryCatch (pyNext (.ref I)) _ >>= _) _ _ s
  refine aj (d6 (W.done s _ _ (hin ▸ ⟨hit, hl⟩) fun h' tk hk' => ?_))
  have hS' := hk' S _ hSw hS
  show wpAny _ A.in1 (updateSeq S (fun _ => #[]) >>= _) _ _ _
  refine aj ?_
  refine gx hS' rfl (aj (gJ (aB ?_)))
  have kp : ∀ a o, a ≠ I → a ≠ S → s.heap.get? a = some o → (h'.update S (bZ fun _ => #[])).get? a = some o := fun a o h1 h2 e => (cZ _ _ (fM h2)).trans (hk' a o (by simpa using h1) e)
  refine hR vb b _ tk hbm (fun y hy => ?_) fun a o h1 h2 e => kp a o h1 h2 e
  obtain ⟨i, hi, rfl⟩ := eQ hy
  exact hmin i _ (by exact J13 10 hk hi) (aG hi)
 | succ k ih =>
  intro j s vb b c hk hj hit hl hS hT hb hvI hvS hbm hmin hR
  have hlt : j + 1 < vs.toArray.size := by rw [aH]; exact J13 11 hlen hk
  refine dM f0 ?_
  rw [cQ cJ _]
  show wpAny _ A.in1 (seqItems? (.ref S) >>= _) _ _ s
  refine aj (cS hS rfl ?_)
  show wpAny _ A.in1 (tryCatch (pyNext (.ref I)) _ >>= _) _ _ s
  refine aj (d6 (W.item (j + 1) s _ _ hlt ⟨hit, hl⟩ fun v h' tk hP hst' hk' => ?_))
  have hlt' : j + 1 < L.length := by exact J13 12 hk
  obtain ⟨v', hv', pv, q1, q2⟩ := hT (j + 1) L[j + 1] (aG hlt')
  have ev : v' = v := by
   have : vs[j + 1]? = some v := by simpa using hP
   rw [hv'] at this; exact bD this
  subst ev
  have hS' := hk' S _ hSw hS
  have kp : ∀ (u : Value) (x : Int × Int), u ≠ .ref I → lm s.heap u x → lm h' u x := fun u x h1 p => p.keep fun a o e q => hk' a o (by
   have : a ≠ I := fun z => h1 (z ▸ e)
   simpa using this) q
  show wpAny _ A.in1 (tryCatch (holding [v', v'] (richCompare .Lt v' vb >>= _)) _ >>= _) _ _ _
  refine aj (d6 (bv (aj (FW (s := { s with heap := h', toks := tk }) (kp _ _ q1 pv) (kp _ _ hvI hb) hu ?_))))
  refine aj (bv (cP ?_))
  refine aj (gJ (aB ?_))
  cases hbt : nL L[j + 1] b with
  | true =>
   simp only [if_true]
   refine aj ?_
   refine gx hS' rfl (aj (gJ ?_))
   rw [hname]
   have kp2 : ∀ a o, a ≠ I → a ≠ S → s.heap.get? a = some o → (h'.update S (bZ fun _ => #[v', v'])).get? a = some o := fun a o h1 h2 e => (cZ _ _ (fM h2)).trans (hk' a o (by simpa using h1) e)
   have kp3 : ∀ a o, a ≠ S → h'.get? a = some o → (h'.update S (bZ fun _ => #[v', v'])).get? a = some o := fun a o h2 e => (cZ _ _ (fM h2)).trans e
   refine aB ⟨dJ cJ _, ih (j + 1) _ v' L[j + 1] _ (by exact J6 2 hk) hlt' (hst'.1.at fun o e => kp3 I o (fM hSI) e) (hst'.2.at fun o e => kp3 l o (fM hSl) e) (cz _ hS' rfl)
    (fun i x hx => ?_) (pv.keep fun a o e q => kp2 a o (fun z => q1 (z ▸ e)) (fun z => q2 (z ▸ e)) q) q1 q2 ⟨j + 1, aG hlt', hv'⟩ (fun i x hi hx => ?_) fun v'' x'' h'' tk'' a2 a3 a4 => ?_⟩
   ·obtain ⟨u, g1, g2, g3, g4⟩ := hT i x hx
    exact ⟨u, g1, g2.keep fun a o e q => kp2 a o (fun z => g3 (z ▸ e)) (fun z => g4 (z ▸ e)) q, g3, g4⟩
   ·by_cases hij : i = j + 1
    ·subst hij
     rw [aG hlt'] at hx; cases hx
     simp [nL]
    ·have := hmin i x (by exact J6 3 hi hij) hx
     simp only [nL, cO, aX, decide_eq_true_eq, bX, b9, decide_eq_false_iff_not] at *; lia
   ·exact hR v'' x'' h'' tk'' a2 a3 fun a o h1 h2 e => a4 a o h1 h2 (kp2 a o h1 h2 e)
  | false =>
   simp only [cg, if_false]
   refine aj (gJ ?_)
   rw [hname]
   refine aB ⟨dJ cJ _, ih (j + 1) _ vb b c (by exact J6 2 hk) hlt' hst'.1 hst'.2 hS' (fun i x hx => ?_) (kp _ _ hvI hb) hvI hvS hbm (fun i x hi hx => ?_) fun v'' x'' h'' tk'' a2 a3 a4 => ?_⟩
   ·obtain ⟨u, g1, g2, g3, g4⟩ := hT i x hx
    exact ⟨u, g1, kp _ _ g3 g2, g3, g4⟩
   ·by_cases hij : i = j + 1
    ·subst hij
     rw [aG hlt'] at hx; cases hx
     exact hbt
    ·exact hmin i x (by exact J6 3 hi hij) hx
   ·exact hR v'' x'' h'' tk'' a2 a3 fun a o h1 h2 e => a4 a o h1 h2 (hk' a o (by simpa using h1) e)
end
noncomputable def oN (L : List (Int × Int)) : Int × Int := (nz L).headD (0, 0)
theorem uP {L : List (Int × Int)} {x : Int × Int} (hx : x ∈ L) (hm : ∀ y ∈ L, nL y x = false) : x = oN L := by
 unfold oN
 have hp := ki L
 have hs := rF L
 cases e : nz L with
 | nil => rw [e] at hp; rw [hp.symm.eq_nil] at hx; cases hx
 | cons a M =>
  rw [e] at hp hs
  rw [cj] at hs
  have h1 := hm a (hp.mem_iff.mp (.head _))
  show x = a
  rcases au.mp (hp.mem_iff.mpr hx) with q | q
  ·exact q
  ·have h2 := hs.1 x q
   simp only [nL, bX, b9, decide_eq_false_iff_not] at h1 h2
   exact fZ (by exact J6 0 h2 h1) (by exact J6 1 h2 h1)
section
variable {W : Wd} {n : Nat} {r : jr} {H : HH} {Q : CV}
theorem vM {p : PV} {L : List (Int × Int)} (w : Vw H p (.lst (L.map kW))) (hne : L ≠ []) (h : Q (kW (oN L)) H) : mM W n H (fun vs => call (.builtin "min") vs) [p] Q := kE fun A G s v R hr hv => by
 obtain ⟨a, vs, m, rfl, e1, rs⟩ := w.lstAt hr hv
 have hl : vs.length = L.length := by rw [rs.length, aa]
 have hname : (toString "min" ++ toString ".loop" : String) = "min.loop" := by decide
 have hpos : 0 < L.length := bI.mpr hne
 have hu : A.in1.units < cLine := by have := R.ult64; show A.units + 1 < _; exact J13 13 this
 have tupOf : ∀ (i : Nat) (x : Int × Int), L[i]? = some x → ∃ v, vs[i]? = some v ∧ lm s.heap v x ∧ ∃ b, v = .ref b ∧ b < s.heap.objs.size := fun i x hx => by
  obtain ⟨v, hv, rv⟩ := rs.get (i := i) (x := kW x) (by rw [ax, hx]; rfl)
  simp only [kW, RV, jY] at rv
  obtain ⟨b, ws, rfl, ⟨o, g1, g2, m', g3⟩, v1, _, rfl, ⟨t, rfl⟩, v2, _, rfl, ⟨u, rfl⟩, rfl⟩ := rv
  have g1' := (hr.imm _ _ g1).1
  exact ⟨_, hv, ⟨b, t, u, rfl, o, g1', g2, m', g3⟩, b, rfl, bq g1'⟩
 refine call_function_tree F.kind_min F.plain_min F.entry_min (F.args_min1 _) ?_
 show wpAny _ A.in1 (eZ "min" ["key", "default"] 0 ⟨[], []⟩ >>= _) _ _ s
 refine aj (wpAny_of_eq (show eZ "min" ["key", "default"] 0 ⟨[], []⟩ = pure [none, none] from rfl) ?_)
 refine aj (aB ?_)
 refine aj (fJ (jq e1) ?_)
 refine aj (fF ?_)
 rw [hname]
 have hal : a < s.heap.objs.size := bq e1
 have hIsz : (s.heap.push { cls := .type "list_iterator", data := .fields #[.ref a, .int 0 0] }).objs.size = s.heap.objs.size + 1 := cL ..
 have hit0 : ((s.heap.push { cls := .type "list_iterator", data := .fields #[.ref a, .int 0 0] }).push { cls := .type "list", data := .seq ([] : List Value).toArray }).IsListIter s.heap.objs.size a 0 := ⟨_, be _ (aV _ rfl), rfl, rfl⟩
 have hk0 : ∀ b o, s.heap.get? b = some o → ((s.heap.push { cls := .type "list_iterator", data := .fields #[.ref a, .int 0 0] }).push { cls := .type "list", data := .seq ([] : List Value).toArray }).get? b = some o := fun b o e => be _ (be _ e)
 have hS0 : ((s.heap.push { cls := .type "list_iterator", data := .fields #[.ref a, .int 0 0] }).push { cls := .type "list", data := .seq ([] : List Value).toArray }).get? (s.heap.objs.size + 1) = some { cls := .type "list", data := .seq ([] : List Value).toArray } := by
  have := aV (s.heap.push { cls := .type "list_iterator", data := .fields #[.ref a, .int 0 0] }) (o := { cls := .type "list", data := .seq ([] : List Value).toArray }) rfl
  rw [hIsz] at this; exact this
 rw [hIsz]
 generalize (s.heap.push { cls := .type "list_iterator", data := .fields #[.ref a, .int 0 0] }).push { cls := .type "list", data := .seq ([] : List Value).toArray } = h0 at hit0 hk0 hS0 ⊢
 have hne1 : a ≠ s.heap.objs.size := bK hal
 have hne2 : s.heap.objs.size + 1 ≠ s.heap.objs.size := iD _
 have Wl := hJ (prog := W.prog) (w := W.w) (A := A.in1) R.hd s.heap.objs.size a hne1 vs.toArray
 refine aB ⟨dJ cJ _, ?_⟩
 refine dM f0 ?_
 rw [cQ cJ _]
 show wpAny _ A.in1 (seqItems? (.ref (s.heap.objs.size + 1)) >>= _) _ _ { s with heap := h0 }
 refine aj (cS hS0 rfl ?_)
 show wpAny _ A.in1 (tryCatch (pyNext (.ref s.heap.objs.size)) _ >>= _) _ _ { s with heap := h0 }
 refine aj (d6 (Wl.item 0 { s with heap := h0 } _ _ (by rw [aH]; exact J6 4 hl hpos) ⟨hit0, (jq e1).at fun o e => hk0 _ o e⟩ fun v h' tk hP hst' hk' => ?_))
 have hS' := hk' (s.heap.objs.size + 1) _ (by simp) hS0
 show wpAny _ A.in1 (updateSeq (s.heap.objs.size + 1) (fun _ => #[v, v]) >>= _) _ _ _
 refine aj ?_
 refine gx hS' rfl ?_
 rw [hname]
 have kp1 : ∀ b o, s.heap.get? b = some o → h'.get? b = some o := fun b o e => hk' b o (by
  have : b ≠ s.heap.objs.size := bK (bq e)
  simpa using this) (hk0 b o e)
 have kp2 : ∀ b o, b ≠ s.heap.objs.size + 1 → h'.get? b = some o → (h'.update (s.heap.objs.size + 1) (bZ fun _ => #[v, v])).get? b = some o := fun b o h2 e => (cZ _ _ (fM h2)).trans e
 have kp : ∀ b o, s.heap.get? b = some o → (h'.update (s.heap.objs.size + 1) (bZ fun _ => #[v, v])).get? b = some o := fun b o e => kp2 b o (bK (d7 (bq e))) (kp1 b o e)
 obtain ⟨x0, hx0⟩ : ∃ x0, L[0]? = some x0 := ⟨L[0], aG hpos⟩
 have hv0 : vs[0]? = some v := by simpa using hP
 have tup2 : ∀ (i : Nat) (x : Int × Int), L[i]? = some x → ∃ v', vs[i]? = some v' ∧ lm (h'.update (s.heap.objs.size + 1) (bZ fun _ => #[v, v])) v' x ∧ v' ≠ .ref s.heap.objs.size ∧ v' ≠ .ref (s.heap.objs.size + 1) := fun i x hx => by
  obtain ⟨v', g1, g2, b, rfl, g3⟩ := tupOf i x hx
  refine ⟨_, g1, g2.keep fun a o e q => kp a o q, fun q => ?_, fun q => ?_⟩
  ·injection q with q; exact dm _ (q ▸ g3)
  ·injection q with q; rw [q] at g3; exact absurd g3 (dN.mpr (cW _))
 obtain ⟨v', g1, g2, g3, g4⟩ := tup2 0 x0 hx0
 rw [hv0] at g1; cases g1
 refine aB ⟨dJ cJ _, A8 R.hd hu hne1 hne2 (ik (d7 hal)) hl _ 0 _ v x0 _ rfl hpos (hst'.1.at fun o e => kp2 _ o (fM hne2) e) (hst'.2.at fun o e => kp2 _ o (bK (d7 hal)) e) (cz _ hS' rfl) tup2 g2 g3 g4 ⟨0, hx0, hv0⟩ (fun i x hi hx => ?_) fun v'' x'' h'' tk'' ⟨i, q1, q2⟩ a3 a4 => ?_⟩
 ·have : i = 0 := by exact J13 14 hi
  subst this
  rw [hx0] at hx; cases hx
  simp [nL]
 ·have e := uP (aS q1) a3
  obtain ⟨u, hu', ru⟩ := rs.get (i := i) (x := kW x'') (by rw [ax, q1]; rfl)
  rw [q2] at hu'; cases hu'
  rw [e] at ru
  exact FF hr (fun b o q => a4 b o (bK (bq q)) (bK (d7 (bq q))) (kp b o q)) ru h
end
noncomputable abbrev KP := List (Int × Int)
section
variable (prog : Program) (w : World)
noncomputable def CX (h : Heap) (v : Value) (x : Int × Int) : Prop := ∃ b, v = .ref b ∧ IsTupleKey (intKind prog w) h [x.1, x.2] b
inductive wL (h : Heap) : KP → List Value → Prop
 | nil : wL h [] []
 | cons {x v ks vs} : CX prog w h v x → wL h ks vs → wL h (x :: ks) (v :: vs)
noncomputable def oX (h : Heap) (ks : KP) (a : Addr) : Prop := ∃ o items n, h.get? a = some o ∧ o.cls = .type "tuple" ∧ o.data = .seq items n ∧ wL prog w h ks items.toList
end
section
variable {prog : Program} {w : World} {A : Around} {E : Value → Shared → Prop} {s : Shared}
theorem CX.inj {h : Heap} {v : Value} {x y : Int × Int} (hx : CX prog w h v x) (hy : CX prog w h v y) : x = y := by
 obtain ⟨b, rfl, k1⟩ := hx
 obtain ⟨b', e, k2⟩ := hy
 cases e
 have := k1.inj k2
 simp only [eJ, and_true] at this
 exact fZ this.1 this.2
theorem wL.inj {h : Heap} {x y : KP} {vs : List Value} (hx : wL prog w h x vs) (hy : wL prog w h y vs) : x = y := by
 induction hx generalizing y with
 | nil => cases hy; rfl
 | cons h1 _ ih =>
  cases hy with
  | cons h2 t2 => rw [h1.inj h2, ih t2]
theorem wL.keep {h h' : Heap} {x : KP} {vs : List Value} (hx : wL prog w h x vs) (hk : ∀ k b, IsTupleKey (intKind prog w) h k b → IsTupleKey (intKind prog w) h' k b) : wL prog w h' x vs := by
 induction hx with
 | nil => exact .nil
 | cons h1 _ ih => obtain ⟨b, e, k⟩ := h1; exact .cons ⟨b, e, hk _ _ k⟩ ih
theorem oX.typeIs {ks : KP} {a : Addr} (x : oX prog w s.heap ks a) : s.TypeIs (.ref a) "tuple" := let ⟨o, _, _, ho, hc, _⟩ := x; ⟨o, ho, hc⟩
theorem oX.inj {h : Heap} {a : Addr} {x y : KP} (hx : oX prog w h x a) (hy : oX prog w h y a) : x = y := by
 obtain ⟨o, items, n, ho, _, hd, hi⟩ := hx
 obtain ⟨o', items', n', ho', _, hd', hi'⟩ := hy
 obtain rfl : o = o' := bD (ho.symm.trans ho')
 rw [hd] at hd'
 injection hd' with h1 _
 subst h1
 exact hi.inj hi'
theorem oX.keeps {h h' : Heap} {ks : KP} {a d : Addr} {o : Obj} {es ep} (x : oX prog w h ks a) (ho : h.get? d = some o) (hd : o.data = .dict es ep) (hs : dW d h h') : oX prog w h' ks a := by
 obtain ⟨o', items, n, ho', hc, hd', hi⟩ := x
 have hne : a ≠ d := by
  rintro rfl
  obtain rfl : o' = o := bD (ho'.symm.trans ho)
  rw [hd] at hd'; exact nomatch hd'
 exact ⟨o', items, n, (hs.2 a hne).trans ho', hc, hd', hi.keep fun k b hk => hk.keeps ho hd hs⟩
noncomputable def xW (prog : Program) (w : World) (ks : KP) : Int := reduceHash (bC (ks.map fun x => tupleKeyHash (intKind prog w) [x.1, x.2]))
noncomputable def oo : KP → Nat
 | [] => 1
 | _ :: ks => 3 + oo ks
theorem A9 {ks : KP} {a : Addr} {Q : Int → Shared → Prop} (hu : A.units + 2 < cLine) (hk : oX prog w s.heap ks a) (h : Q (xW prog w ks) { s with toks := s.toks + oo ks }) :
  wpAny (model prog w) A (pyHash (.ref a)) Q E s := by
 have hT := hk.typeIs
 obtain ⟨o, items, n, ho, _, hd, hi⟩ := hk
 unfold pyHash
 first | unfold pyHashByItsType | skip
 first | refine aj (wpAny_cRoomFor_or (.inr (by exact J6 5 hu)) ?_) | skip
 refine aj (eK hT cU.lookup ?_)
 show wpAny _ _ (if (some (jd "tuple.__hash__") == some eg) = true then _ else _) Q E s
 rw [if_neg (by rw [beq_builtin_none]; exact dO)]
 refine aj (eK hT cU.lookup ?_)
 show wpAny _ _ (callSpecialIfBoundUnlessNone? (.ref a) "__hash__" _ >>= _) Q E s
 refine aj (wpAny_callSpecialIfBoundUnlessNone?_slot hT cU (cR cU hT PySem.F.entry_tuple_hash ?_ (PySem.F.args_tuple_hash_1 _)))
 show wpAny _ _ (Builtin.Tuple.tupleItemsOf (.ref a) >>= _) _ _ s
 refine aj (fm ho hd ?_)
 refine aj ?_
 rw [← fo]
 refine eA _
  (fun rest (b : Array Int) s' => ∃ done left m, ks = done ++ left ∧ wL prog w s.heap left rest ∧ b.toList = done.map (fun x => tupleKeyHash (intKind prog w) [x.1, x.2]) ∧ s' = { s with toks := m } ∧ m + oo left = s.toks + oo ks)
  _ ?_ ?_ _ _ ⟨[], ks, s.toks, rfl, hi, rfl, rfl, rfl⟩
 ·rintro x rest b s' ⟨done, left, m, rfl, hl, hb, rfl, hm⟩
  cases hl with
  | @cons k _ ks' _ h1 hl' =>
   obtain ⟨y, rfl, hy⟩ := h1
   refine aj (wpAny_pyHash_tuple (s := { s with toks := m }) (by show A.units + 1 < cLine; exact J6 6 hu) hy ?_)
   first
    | exact aB ⟨done ++ [k], ks', m + 3, by simp, hl', by simp [hb], rfl, by simp only [oo] at hm; exact J13 15 hm⟩
    | exact aj (aB (aB ⟨done ++ [k], ks', m + 3, by simp, hl', by simp [hb], rfl, by simp only [oo] at hm; lia⟩))
 ·rintro b s' ⟨done, left, m, rfl, hl, hb, rfl, hm⟩
  cases hl
  rw [bl] at h
  show wpAny _ _ (retInt (bC b.toList)) _ _ _
  rw [hb]
  have hm' : m + 1 = s.toks + oo done := by simpa [oo] using hm
  refine wpAny_ret_mkInt ?_
  show wpAny _ _ (if (decide (-(2 : Int) ^ 63 ≤ bC (done.map fun x => tupleKeyHash (intKind prog w) [x.1, x.2])) && decide (bC (done.map fun x => tupleKeyHash (intKind prog w) [x.1, x.2]) < 2 ^ 63)) = true then _ else _) Q E _
  unfold xW reduceHash at h
  rw [← hm'] at h
  by_cases hr : (decide (-(2 : Int) ^ 63 ≤ bC (done.map fun x => tupleKeyHash (intKind prog w) [x.1, x.2])) && decide (bC (done.map fun x => tupleKeyHash (intKind prog w) [x.1, x.2]) < 2 ^ 63)) = true
  ·rw [if_pos hr]
   rw [if_pos hr] at h
   exact aB h
  ·rw [if_neg hr]
   rw [if_neg hr] at h
   exact aj (fk (aB h))
theorem Ba {x y : KP} {a b : Addr} {P : jh → Shared → Prop} (hu : A.units < cLine) (hx : oX prog w s.heap x a) (hy : oX prog w s.heap y b) (h : P (.done (.ret (.bool (decide (x = y))))) s) :
  wpAny (model prog w) A (Builtin.«tuple.__eq__» ⟨[.ref a, .ref b], []⟩) P E s := by
 have hTb := hy.typeIs
 obtain ⟨oa, xs, na, hoa, _, hda, hia⟩ := hx
 obtain ⟨ob, ys, nb, hob, _, hdb, hib⟩ := hy
 show wpAny _ _ (isInstance (.ref b) (.type "tuple") >>= _) _ _ s
 refine aj (eu hTb ed ?_)
 refine bM rfl ?_
 refine aj (fm hoa hda ?_)
 refine aj (fm hob hdb ?_)
 refine aj ?_
 refine eA _
  (fun rest r s' => r.1 = none ∧ s' = s ∧ ∃ x' y' xs' ys', rest = List.zip xs' ys' ∧ wL prog w s.heap x' xs' ∧ wL prog w s.heap y' ys' ∧ decide (x' = y') = decide (x = y) ∧ (xs'.length == ys'.length) = (xs.size == ys.size))
  _ ?_ ?_ _ _ ⟨rfl, rfl, x, y, xs.toList, ys.toList, rfl, hia, hib, rfl, by simp⟩
 ·rintro ⟨u, v⟩ rest r s' ⟨hr, rfl, x', y', xs', ys', hz, hx', hy', hdec, hlen⟩
  cases hx' with
  | nil => simp at hz
  | @cons k1 u' x'' xs'' h1 hx'' =>
   cases hy' with
   | nil => simp at hz
   | @cons k2 v' y'' ys'' h2 hy'' =>
    simp only [cY, eJ, Prod.mk.injEq] at hz
    obtain ⟨⟨rfl, rfl⟩, rfl⟩ := hz
    obtain ⟨b1, rfl, t1⟩ := h1
    obtain ⟨b2, rfl, t2⟩ := h2
    refine aj (wpAny_eqBool_tuple hu t1 t2 ?_)
    have hkk : ([k1.1, k1.2] = [k2.1, k2.2]) ↔ k1 = k2 := by
     simp only [eJ, and_true]
     exact ⟨fun h => fZ h.1 h.2, fun h => by subst h; exact ⟨rfl, rfl⟩⟩
    by_cases hk : k1 = k2
    ·subst hk
     rw [decide_eq_true rfl]
     refine bM rfl ?_
     refine aB ⟨rfl, rfl, x'', y'', xs'', ys'', rfl, hx'', hy'', ?_, by simpa using hlen⟩
     rw [← hdec]
     by_cases hxy : x'' = y''
     ·simp [hxy]
     ·simp [hxy]
    ·rw [decide_eq_false (fun q => hk (hkk.mp q))]
     refine gI rfl ?_
     have hf : decide (x = y) = false := by rw [← hdec]; simp [hk]
     rw [hf] at h
     exact aj (aB (aB (aB h)))
 ·rintro ⟨r1, r2⟩ s' ⟨hr, rfl, x', y', xs', ys', hz, hx', hy', hdec, hlen⟩
  simp only at hr
  subst hr
  refine aB ?_
  have hfin : (xs.size == ys.size) = decide (x = y) := by
   rw [← hdec, ← hlen]
   cases hx' with
   | nil =>
    cases hy' with
    | nil => simp
    | cons _ _ => simp
   | cons _ _ =>
    cases hy' with
    | nil => simp
    | cons _ _ => simp at hz
  show P (.done (.ret (.bool (xs.size == ys.size)))) s'
  rw [hfin]; exact h
theorem EG {x y : KP} {a b : Addr} {Q : Bool → Shared → Prop} (hu : A.units + 2 < cLine) (hx : oX prog w s.heap x a) (hy : oX prog w s.heap y b) (h : Q (decide (x = y)) s) :
  wpAny (model prog w) A (eqBool (.ref a) (.ref b)) Q E s := by
 unfold eqBool
 try with_reducible refine bv ?_
 show wpAny _ _ (if (gP a == gP b) = true then _ else _) Q E s
 by_cases hab : (gP a == gP b) = true
 ·rw [if_pos hab]
  have e : a = b := by have := eq_of_beq hab; injection this
  subst e
  obtain rfl := hx.inj hy
  exact aj (fk (aB (by simpa using h)))
 ·rw [if_neg hab]
  exact aj (eY (op := .Eq) hx.typeIs hy.typeIs dq
   (cR dq hx.typeIs PySem.F.entry_tuple_eq (Ba (by show A.units + 1 < cLine; exact J6 6 hu) hx hy ⟨_, rfl, (fun e => nomatch e), cP h⟩) (PySem.F.args_tuple_eq_2 _ _)) (by exact J6 5 hu))
theorem y0 {ks : List Int} {a : Addr} {Q : Bool → Shared → Prop} (hk : IsTupleKey (intKind prog w) s.heap ks a) (h : Q true s) : wpAny (model prog w) A (eqIsQuiet 7 (.ref a)) Q E s := by
 have hT := hk.typeIs
 obtain ⟨o, items, n, ho, _, hd, hi⟩ := hk
 unfold eqIsQuiet
 refine aj (eK hT dq.lookup ?_)
 show wpAny _ _ (isInstance (.ref a) (.type "tuple") >>= _) _ _ s
 refine aj (eu hT ed ?_)
 refine bM rfl ?_
 refine aj (cS ho hd ?_)
 refine aj ?_
 show wpAny _ _ (forIn items _ _) _ _ s
 rw [← fo]
 refine eA _ (fun rest r s' => r.1 = none ∧ s' = s ∧ ∀ v ∈ rest, carriedByValue v = true) _ ?_ ?_ _ _ ⟨rfl, rfl, hi.byValue⟩
 ·rintro v rest r s' ⟨hr, rfl, hall⟩
  rw [eqIsQuiet_byValue _ (hall v gY)]
  refine aj (aB ?_)
  refine bM rfl ?_
  exact aB ⟨rfl, rfl, fun u hu' => hall u (List.mem_cons_of_mem _ hu')⟩
 ·rintro ⟨r1, r2⟩ s' ⟨hr, rfl, _⟩
  simp only at hr
  subst hr
  exact aB h
theorem y1 {ks : KP} {a : Addr} {Q : Bool → Shared → Prop} (hk : oX prog w s.heap ks a) (h : Q true s) : wpAny (model prog w) A (eqIsQuiet 8 (.ref a)) Q E s := by
 have hT := hk.typeIs
 obtain ⟨o, items, n, ho, _, hd, hi⟩ := hk
 unfold eqIsQuiet
 refine aj (eK hT dq.lookup ?_)
 show wpAny _ _ (isInstance (.ref a) (.type "tuple") >>= _) _ _ s
 refine aj (eu hT ed ?_)
 refine bM rfl ?_
 refine aj (cS ho hd ?_)
 refine aj ?_
 show wpAny _ _ (forIn items _ _) _ _ s
 rw [← fo]
 refine eA _ (fun rest r s' => r.1 = none ∧ s' = s ∧ ∃ ks', wL prog w s.heap ks' rest) _ ?_ ?_ _ _ ⟨rfl, rfl, ks, hi⟩
 ·rintro v rest r s' ⟨hr, rfl, ks', hall⟩
  cases hall with
  | cons h1 h2 =>
   obtain ⟨b, rfl, hb⟩ := h1
   refine aj (y0 hb ?_)
   refine bM rfl ?_
   exact aB ⟨rfl, rfl, _, h2⟩
 ·rintro ⟨r1, r2⟩ s' ⟨hr, rfl, _⟩
  simp only at hr
  subst hr
  exact aB h
end
noncomputable def nc (prog : Program) (w : World) : HeapKind prog w KP where
 is := oX prog w
 hash := xW prog w
 draws := oo
 room := fun A => A.units + 2 < cLine
 inj := fun hx hy => hx.inj hy
 keeps := fun x ho hd hs => x.keeps ho hd hs
 pyHash := fun hu hk h => A9 hu hk h
 eqBool := fun hu hx hy h => EG hu hx hy h
 quiet := fun hk h => y1 hk h
noncomputable def wx (d : List (KP × Int)) : List (PV × PV) := d.map fun p => (PV.tup (p.1.map kW), PV.int p.2)
noncomputable def qu (d : List (KP × Int)) (k : KP) : Option Int := (d.find? fun p => p.1 = k).map (·.2)
section
variable {W : Wd} {n : Nat} {r : jr} {H : HH} {Q : CV}
theorem EH (x : Int × Int) : GU W (kW x) = tupleKeyHash (intKind W.prog W.w) [x.1, x.2] := by
 rfl
theorem xX : ∀ ks : KP, Cv W (ks.map kW) = ks.map fun x => tupleKeyHash (intKind W.prog W.w) [x.1, x.2]
 | [] => rfl
 | k :: ks => congr (congrArg jg (EH k)) (xX ks)
theorem Bb (ks : KP) : GU W (.tup (ks.map kW)) = xW W.prog W.w ks := by
 show reduceHash (bC (Cv W _)) = _
 rw [xX]; rfl
theorem Bc {G} {s : Shared} (hr : HR W G H s) : ∀ {ks : KP} {vs : List Value}, jY W G (ks.map kW) vs → wL W.prog W.w s.heap ks vs
 | [], vs, h => by subst h; exact .nil
 | k :: ks, vs, h => by
  obtain ⟨v, r, rfl, hv, hr'⟩ := h
  refine .cons ?_ (Bc hr hr')
  simp only [kW, RV, jY] at hv
  obtain ⟨b, ws, rfl, ⟨o, g1, g2, m, g3⟩, v1, _, rfl, ⟨t, rfl⟩, v2, _, rfl, ⟨u, rfl⟩, rfl⟩ := hv
  exact ⟨b, rfl, o, _, m, (hr.imm _ _ g1).1, g2, g3, .cons (dz _ _ _ _) (.cons (dz _ _ _ _) .nil)⟩
theorem xY {G} {s : Shared} (hr : HR W G H s) {ks : KP} {v : Value} (h : RV W G (.tup (ks.map kW)) v) : ∃ a, v = .ref a ∧ oX W.prog W.w s.heap ks a := by
 obtain ⟨a, vs, rfl, ⟨o, g1, g2, m, g3⟩, rs⟩ := h
 exact ⟨a, rfl, o, _, m, (hr.imm _ _ g1).1, g2, g3, by rw [b7]; exact Bc hr rs⟩
inductive KH (W : Wd) (G : Gh) : List (KP × Int) → List (KP × Addr × Value) → Prop
 | nil : KH W G [] []
 | cons {k i a v d xs} : RV W G (.tup (k.map kW)) (.ref a) → RV W G (.int i) v → KH W G d xs → KH W G ((k, i) :: d) ((k, a, v) :: xs)
theorem KH.keys {G d xs} (h : KH W G d xs) : xs.map (·.1) = d.map ai := by
 induction h with
 | nil => rfl
 | cons _ _ _ ih => simp only [aC, ih]
theorem KH.length {G d xs} (h : KH W G d xs) : xs.length = d.length := by
 have := congrArg eF h.keys; simpa using this
theorem KH.get {G d xs} (h : KH W G d xs) (k : KP) : (qu d k = none → atKey xs k = none) ∧ ∀ i, qu d k = some i → ∃ a v, atKey xs k = some (a, v) ∧ RV W G (.int i) v := by
 induction h with
 | nil => exact ⟨fun _ => rfl, fun i h => by cases h⟩
 | @cons k0 i a v d xs h1 h2 h3 ih =>
  unfold qu atKey at *
  rw [di, di]
  by_cases e : k0 = k
  ·subst e; simp only [decide_true]
   refine ⟨fun h => ?_, fun j h => ?_⟩
   ·cases h
   ·cases h; exact ⟨a, v, rfl, h2⟩
  ·simp only [e, decide_false]
   exact ih
theorem KH.snoc {G d xs k i a v} (h : KH W G d xs) (h1 : RV W G (.tup (k.map kW)) (.ref a)) (h2 : RV W G (.int i) v) : KH W G (d ++ [(k, i)]) (xs ++ [(k, a, v)]) := by
 induction h with
 | nil => exact .cons h1 h2 .nil
 | cons a b _ ih => exact .cons a b ih
theorem D4 {G} : ∀ {d : List (KP × Int)} {ds : List DictEntry}, oK W G (wx d) ds → ∃ xs, KH W G d xs ∧ ds = xs.map (entryOfKey (nc W.prog W.w))
 | [], ds, h => by simp only [wx, cX, oK] at h; exact ⟨[], .nil, h⟩
 | (k, i) :: d, ds, h => by
  simp only [wx, aC, oK] at h
  obtain ⟨e, r, rfl, hh, h1, h2, h3⟩ := h
  obtain ⟨xs, q1, q2⟩ := D4 (d := d) h3
  have h1' := h1
  obtain ⟨a, vs, ea, _⟩ := h1
  rw [ea] at h1'
  refine ⟨(k, a, e.val) :: xs, .cons h1' h2 q1, ?_⟩
  rw [aC, ← q2]
  congr 1
  obtain ⟨eh, ek, ev⟩ := e
  simp only at hh ea
  subst ea
  rw [hh, Bb]
  rfl
theorem FX {G d xs} (h : KH W G d xs) : oK W G (wx d) (xs.map (entryOfKey (nc W.prog W.w))) := by
 induction h with
 | nil => simp [wx, oK]
 | cons h1 h2 _ ih =>
  simp only [wx, aC, oK]
  exact ⟨_, _, rfl, by rw [Bb]; rfl, h1, h2, ih⟩
theorem xZ : ∀ {a b : KP}, a.map kW = b.map kW → a = b
 | [], [], _ => rfl
 | [], _ :: _, h => by simp at h
 | _ :: _, [], h => by simp at h
 | x :: a, y :: b, h => by
  simp only [aC, eJ, kW, PV.tup.injEq, PV.int.injEq, and_true] at h
  rw [xZ h.2, fZ h.1.1 h.1.2]
theorem ug {d : List (KP × Int)} : ((wx d).map ai).Nodup ↔ (d.map ai).Nodup := by
 have : (wx d).map ai = (d.map ai).map fun k => PV.tup (k.map kW) := by simp [wx, aW, cI]
 rw [this]
 unfold gh
 rw [bU]
 exact ⟨fun h => h.imp fun q e => q (by rw [e]), fun h => h.imp fun q e => q (xZ (PV.tup.inj e))⟩
theorem p4 {G} {s : Shared} (hr : HR W G H s) {a : Addr} {d : List (KP × Int)} {ds m} (e : s.heap.get? a = some (nS ds m)) (nd : ((wx d).map ai).Nodup) (rs : oK W G (wx d) ds) : ∃ xs, KH W G d xs ∧ s.heap.DictOfH (nc W.prog W.w) a xs := by
 obtain ⟨xs, q1, q2⟩ := D4 rs
 refine ⟨xs, q1, _, ds.toArray, m, e, ⟨rfl, rfl, rfl⟩, rfl, by simpa using q2, ?_, by rw [q1.keys]; exact ug.mp nd⟩
 have : ∀ {d xs}, KH W G d xs → ∀ x ∈ xs, oX W.prog W.w s.heap x.1 x.2.1 := by
  intro d xs h
  induction h with
  | nil => intro x hx; cases hx
  | cons h1 _ _ ih =>
   intro x hx
   rcases au.mp hx with rfl | hx
   ·obtain ⟨a, e, k⟩ := xY hr h1
    cases e; exact k
   ·exact ih x hx
 exact this q1
theorem EI {p : PV} {k : KP} {d : List (KP × Int)} (w : Vw H p (.dct (wx d))) (h : Q (.bool (!(qu d k).isSome)) H) : lA W n H (compareOp .NotIn) (.tup (k.map kW)) p Q := fun A G s u v R hr hu hv => by
 obtain ⟨a, ds, m, rfl, e1, ⟨hsys, nd⟩, rs⟩ := w.dctAt hr hv
 obtain ⟨b, rfl, hk⟩ := xY hr hu
 obtain ⟨xs, kh, dh⟩ := p4 hr e1 nd rs
 refine wpAny_notIn_heap (knd := nc W.prog W.w) (by have := R.ult64; show A.units + 1 + 2 < cLine; exact J3 16 this) hk hsys dh ?_
 obtain ⟨q1, q2⟩ := kh.get k
 have e : (atKey xs k).isSome = (qu d k).isSome := by
  cases hd : qu d k with
  | none => rw [q1 hd]; rfl
  | some i => obtain ⟨_, _, z, _⟩ := q2 i hd; rw [z]; rfl
 rw [e]
 exact n8 hr (by wtm_at "rv") h
theorem Be {p : PV} {k : KP} {i : Int} {d : List (KP × Int)} (w : Vw H p (.dct (wx d))) (hx : qu d k = some i) (h : Q (.int i) H) : oM W n H p (.tup (k.map kW)) Q := fun A G s co ci R hr v1 v2 => by
 obtain ⟨a, ds, m, rfl, e1, ⟨hsys, nd⟩, rs⟩ := w.dctAt hr v1
 obtain ⟨b, rfl, hk⟩ := xY hr v2
 obtain ⟨xs, kh, dh⟩ := p4 hr e1 nd rs
 obtain ⟨c, v, z, rv⟩ := (kh.get k).2 i hx
 exact ⟨⟨_, _, dh.typeIs, PySem.slot_dict_getitem.lookup⟩, wpAny_getItem_heap (knd := nc W.prog W.w) (by have := R.ult64; show A.units + 1 + 2 < cLine; exact J3 16 this) hk dh z (n8 hr rv h)⟩
theorem EJ {a : Addr} {k : KP} {v : PV} {i : Int} {d : List (KP × Int)} {H' : HH} {P : HH → Prop} (hv : v = .int i) (hnew : qu d k = none) (U : kO a (.dct (wx d)) (.dct (wx (d ++ [(k, i)]))) H H') (hl : d.length ≤ sizeLine) (h : P H') : uz W n H (.ref a) (.tup (k.map kW)) v P := fun A G s cv co ci R hr vv vo vi => by
 subst hv
 have e0 : co = .ref a := by exact vo
 subst e0
 obtain ⟨ds, m, e1, ho, nd, rs⟩ := hr.slot _ _ U.there
 have vi' := vi
 obtain ⟨b, rfl, hk⟩ := xY hr vi
 obtain ⟨xs, kh, dh⟩ := p4 hr e1 nd rs
 refine wpAny_setItem_heap (knd := nc W.prog W.w) (by have := R.ult64; show A.units + 1 + 2 < cLine; exact J3 16 this) hk dh (fun h' dh' hs => ?_) (by rw [kh.length]; exact hl)
 rw [storedH_new ((kh.get k).1 hnew)] at dh'
 obtain ⟨o, es, ep, g1, ⟨g2, g3, g4⟩, g5, g6, g7, g8⟩ := dh'
 have eo : o = nS es.toList ep := by
  obtain ⟨c, dd, dt, sl⟩ := o
  simp only at g2 g3 g4 g5
  subst g2; subst g3; subst g4; subst g5
  rfl
 subst eo
 have kh' := kh.snoc vi' vv
 obtain ⟨y, e⟩ := hr.updD (tk := s.toks + (nc W.prog W.w).draws k) U hs g1 (ug.mpr (by rw [← kh'.keys]; exact g8)) (by rw [g6]; exact FX kh')
 exact ⟨G, H', e, y, h⟩
end
noncomputable abbrev pg : Program := Challenge.rw_nn0384_01.row.prog
noncomputable def HE {α : Type} (d : α) : List α → Nat → α
 | [], _ => d
 | a :: _, 0 => a
 | _ :: l, n + 1 => HE d l n
noncomputable def D (i : Nat) : Stmt := HE (.Pass ⟨0, 0, 0, 0⟩) pg.main.body i
noncomputable def M (i j : Nat) : Stmt := match D i with
 | .ClassDef _ _ _ b _ _ _ _ _ _ _ => HE (.Pass ⟨0, 0, 0, 0⟩) b j
 | s => s
noncomputable def en (P : Params) (x : Str) (t : Nat) (v : Value) : DictEntry := ⟨bE P x, .str x t, v⟩
noncomputable def dc (n : Nat) (l : List DictEntry) : Data := .dict l.toArray n
noncomputable def vN (n : Nat) (l : List DictEntry) : Obj := ⟨.type "dict", none, .dict l.toArray n, #[]⟩
noncomputable def lp (l : List Value) : Obj := ⟨.type "tuple", none, .seq l.toArray 0, #[]⟩
noncomputable def lS (c : Value) (l : List Value) : Obj := ⟨c, none, .fields l.toArray, #[]⟩
noncomputable def CY (l : List (Option Value)) : Obj := ⟨.type "frame", none, .plain, l.toArray⟩
noncomputable def oP (n q : Str) (t : Nat) (a b c d e : Int) (x : Addr) (g : Bool) (z : Int) (y : Addr) (u v f : Value) (k : Nat) : Obj :=
 lS (.type "code") [.str n t, .str q (t + 1), .str "/claim/cut.py" (t + 2), .int a 0, .int b 0, .int c 0, .int d 0, .int e 0, .ref x, .bool g, .int z 0, .ref y, .none, u, v, f, .int k 0, .int a 0, .str "/claim/cut.py" (k + 1)]
noncomputable def D5 (c : Value) (st : Stmt) (q : Str) (g : Addr) (dv kv doc pm cd ct : Value) (bi : Addr) : Obj := match st with
 | .FunctionDef n a b _ _ _ sc _ _ _ => ⟨c, none, .func ⟨n, q, a, .stmts b, sc, g, [], dv, kv, doc, pm, none, cd, ct, bi⟩, #[]⟩
 | _ => default
noncomputable def D6 (n : Str) (b m : List Value) (ns : Addr) (q : Str) (hd : Bool) (sl : List Str) (su : List Value) (ab : Bool) (co : Option Bool) (de : Bool) (s : List (Option Value)) : Obj := ⟨.type "type", none, .cls ⟨n, b, m, ns, q, hd, sl, su, ab, co, de⟩, s.toArray⟩
noncomputable def sts : List Str → Nat → List Value
 | [], _ => []
 | x :: xs, t => .str x t :: sts xs (t + 1)
noncomputable def nmS : Stmt → Str
 | .FunctionDef n _ _ _ _ _ _ _ _ _ => n
 | _ => ""
noncomputable def fb (st : Stmt) (q : Str) (a t : Nat) (l c : Int) (vs : List Str) (md : Value) : List Obj :=
 [lp [], lS .none [], lp (sts vs (t + 3)), lp [], D5 .none st q 0 .none .none .none .none .none .none 0, oP (nmS st) q t l c 0 0 3 a true 181 (a + 1) (.ref (a + 2)) (.ref (a + 3)) (.ref (a + 4)) (t + 3 + vs.length), D5 (.type "function") st q 3 .none .none .none md (.ref (a + 5)) .none 0]
noncomputable def rG (st : Stmt) (q : Str) : Obj := D5 .none st q 0 .none .none .none .none .none .none 0
noncomputable def tF (st : Stmt) (q : Str) (m : Value) (a : Addr) : Obj := D5 (.type "function") st q 3 .none .none .none m (.ref a) .none 0
noncomputable def wy (l : List Value) : Obj := lS (.type "builtin_function_or_method") l
noncomputable def Bf (l : List Value) : Obj := lS (.type "getset_descriptor") l
noncomputable def er (P : Params) (x : Str) (t : Nat) (a : Addr) : DictEntry := en P x t (.ref a)
noncomputable def mA : Value := .str "grammarmill.source" 194
noncomputable def mB : Value := .str "grammarmill.dfa" 269
noncomputable def mC : Value := .str "grammarmill.tables" 341
noncomputable def mD : Value := .str "grammarmill.packing" 490
noncomputable def mF : Value := .str "law_nn0384_01" 1034
noncomputable def tr (c : Int) : List Nat → List Value
 | l :: a :: r => .int l 0 :: .int c 0 :: .ref a :: tr c r
 | _ => []
noncomputable def lf : Life := PySem.Life.mk [] [] [] 0 [] [] false #[] [] 0 false false false 0 [2000, 10, 10] false 0 true [] [] 0 false
noncomputable def evs : List Obj → List Obj
 | [] => []
 | [a] => [a]
 | a :: _ :: l => a :: evs l
noncomputable def ods : List Obj → List Obj
 | [] => []
 | [_] => []
 | _ :: b :: l => b :: ods l
noncomputable def bt : Nat → List Obj → BT
 | 0, _ => .nil
 | _, [] => .nil
 | n + 1, a :: l => .node a (bt n (evs l)) (bt n (ods l))
noncomputable def sl (i c : Nat) : List Stmt := (pg.main.body.drop i).take c
noncomputable def ev : Env := { scope := pg.main.scope, locals := mainNs, globals := mainNs, cells := [], code := .ref 13, frame := some 14 }
noncomputable def cE : Code := .body (behindTheImports pg) ev
noncomputable def nt (x : Str) (t : Nat) (v : Value) : Str × Nat × Value := (x, t, v)
noncomputable def mN : List (Str × Nat × Value) := [nt "__doc__" 166 .none, nt "__package__" 167 .none, nt "__loader__" 168 (.builtin "__main__.__loader__#opaque"), nt "__spec__" 169 .none, nt "__annotations__" 170 (.ref 6), nt "__builtins__" 171 (.ref 4), nt "__file__" 173 (.str "/claim/cut.py" 172), nt "__cached__" 174 .none, nt "_wall" 193 (.ref 21), nt "ToolError" 233 (.ref 46), nt "TableError" 249 (.ref 59), nt "bits" 259 (.ref 68), nt "mask_of" 268 (.ref 75), nt "DEAD" 273 (.int (-1) 272), nt "Dfa" 340 (.ref 125), nt "ACCEPT" 346 (.int 1048576 345), nt "BARRED" 351 (.int (-1048576) 350), nt "ERROR" 353 (.int 1 352), nt "UNDEFINED" 355 (.int 2 354), nt "Tables" 489 (.ref 223), nt "TEMPLATES" 493 (.int 8 492), nt "KINDS" 512 (.ref 232), nt "row_key" 518 (.ref 237), nt "owners_of" 529 (.ref 244), nt "packing_order" 535 (.ref 249), nt "Comb" 611 (.ref 301), nt "pack_rows" 617 (.ref 310), nt "look_up" 630 (.ref 317), nt "PackedRows" 725 (.ref 379), nt "packed_rows" 735 (.ref 390), nt "most_frequent" 745 (.ref 397), nt "PackedTables" 827 (.ref 442), nt "action_rows" 839 (.ref 451), nt "goto_columns" 851 (.ref 458), nt "pack" 857 (.ref 463), nt "saved" 865 (.ref 470), nt "goto_states" 873 (.ref 477), nt "cell_kind" 886 (.ref 484), nt "octets" 896 (.ref 491), nt "PackedDfa" 990 (.ref 550), nt "live_entries" 999 (.ref 561), nt "unlike_entries" 1009 (.ref 568), nt "choose_parent" 1021 (.ref 575), nt "pack_dfa" 1027 (.ref 581), nt "unpack_dfa" 1033 (.ref 586), nt "_law_pen" 1041 (.ref 591), nt "_law_draw" 1054 (.ref 598), nt "_law_pick" 1062 (.ref 605), nt "_law_sparse" 1074 (.ref 612), nt "_law_first_fit" 1080 (.ref 617), nt "_law_rows_hold" 1096 (.ref 624), nt "_law_usual" 1102 (.ref 629), nt "_law_lines" 1117 (.ref 636), nt "_law_goals" 1123 (.ref 641), nt "_law_rests" 1129 (.ref 646), nt "_law_cells_hold" 1135 (.ref 651), nt "_law_width" 1146 (.ref 658), nt "_law_widths_hold" 1152 (.ref 663), nt "_law_tables_hold" 1158 (.ref 668), nt "_law_automaton" 1164 (.ref 673), nt "_law_farthest" 1177 (.ref 680), nt "_law_walked" 1187 (.ref 687), nt "_law_parents" 1193 (.ref 692), nt "_law_chain" 1202 (.ref 699), nt "_law_automaton_holds" 1208 (.ref 704), nt "_law_is_sound" 1214 (.ref 709), nt "_law_arrays_hold" 1220 (.ref 714), nt "law" 1226 (.ref 719)]
noncomputable def mE (P : Params) : List DictEntry := mN.map fun (x, t, v) => en P x t v
noncomputable def o3 (P : Params) (nm : Value) (n k : Nat) : Obj := vN n (en P "__name__" 165 nm :: (mE P).take k)
noncomputable def l12 : List Value := (tr 0 [1, 20, 5, 27, 16, 55, 18, 67, 28, 74, 35, 81, 62, 135, 121, 236, 123, 243, 132, 248, 138, 255, 172, 309, 179, 316, 184, 323, 246, 389, 249, 396, 258, 403, 297, 450, 307, 457, 317, 462, 331, 469, 333, 476, 335, 483, 342, 490, 350, 497, 403, 560, 409, 567, 415, 574, 424, 580, 437, 585, 443, 590, 445, 597, 462, 604, 464, 611, 477, 616, 492, 623, 509, 628, 512, 635, 526, 640, 531, 645, 537, 650, 554, 657, 563, 662, 571, 667, 596, 672, 607, 679, 616, 686, 621, 691, 630, 698, 635, 703, 661, 708, 673, 713, 694, 718])
noncomputable def c0 (P : Params) (a b c : Obj) : List Obj := [boot_o_0 P, boot_o_1 P, a, b, boot_o_4 P, boot_o_5 P, boot_o_6 P, boot_o_7 P, boot_o_8 P, boot_o_9 P, boot_o_10 P, lp [], c, oP "<module>" "<module>" 182 1 0 0 0 0 11 false 181 12 .none .none .none 185, CY [some (.ref 13), some (.ref 3), some (.ref 3), none, some (.str "__main__" 164), none, some (.ref 0)]]
noncomputable def T0 (P : Params) : BT := bt 12 (c0 P (boot_o_2 P) (boot_o_3 P) (lS .none []))
noncomputable def S0 (w : World) (os : OsState) : SharedT := ⟨T0 w.params, 15, lf, #[], ⟨0, 0, 0, 0⟩, 187, os⟩
noncomputable def c1 (P : Params) : List Obj := fb (D 0) "_wall" 15 187 1 1 ["k"] (.str "__main__" 164) ++ ([lp [.type "Exception"], wy [.builtin "type.__prepare__", .type "type"], vN 6 [en P "__module__" 203 mA, en P "__qualname__" 205 (.str "ToolError" 204), en P "__firstlineno__" 207 (.int 5 206), er P "__init__" 216 36, er P "told" 223 43, er P "__static_attributes__" 226 44], lp [], lS .none [.int 7 0, .int 4 0, .ref 35, .int 12 0, .int 4 0, .ref 42], oP "ToolError" "ToolError" 198 5 0 0 0 0 25 false 181 26 .none .none .none 201, CY [some (.ref 27), some (.ref 3), some (.ref 24), none, some mA, none, some (.ref 0)], lp [.none], lp [], lS .none [], lp [.str "self" 211, .str "what" 212, .str "at" 213], lp [], rG (M 2 0) "ToolError.__init__", oP "__init__" "ToolError.__init__" 208 7 3 0 0 3 30 true 181 31 (.ref 32) (.ref 33) (.ref 34) 214, D5 (.type "function") (M 2 0) "ToolError.__init__" 3 (.ref 29) .none .none mA (.ref 35) .none 0] ++ (fb (M 2 1) "ToolError.told" 37 217 12 1 ["self"] mA ++ ([lp [.str "at" 224, .str "what" 225], vN 3 [en P "__module__" 203 mA, en P "__firstlineno__" 207 (.int 5 206), er P "__init__" 216 36, er P "told" 223 43, er P "__static_attributes__" 226 44, er P "__weakref__" 228 47, en P "__doc__" 229 .none], D6 "ToolError" [.type "Exception"] [.ref 46, .type "Exception", .type "BaseException", .type "object"] 45 "ToolError" true [] [.ref 59] false none false [some (.ref 22), none, some (.str "ToolError" 196), some (.str "ToolError" 204), some (.builtin "Exception.__new__"), some (.bool true)], Bf [.str "__weakref__" 227, .ref 46, .builtin "ExceptionGroup.__weakref__", .none], lS (.type "super") [.ref 46, .ref 46, .ref 46], wy [.builtin "object.__init_subclass__", .ref 46], lp [.ref 46], wy [.builtin "type.__prepare__", .type "type"], vN 4 [en P "__module__" 241 mA, en P "__qualname__" 243 (.str "TableError" 242), en P "__firstlineno__" 245 (.int 16 244), er P "__static_attributes__" 246 57], lp [], lS .none [], oP "TableError" "TableError" 236 16 0 0 0 0 53 false 181 54 .none .none .none 239, CY [some (.ref 55), some (.ref 3), some (.ref 52), none, some mA, none, some (.ref 0)], lp [], vN 2 [en P "__module__" 241 mA, en P "__firstlineno__" 245 (.int 16 244), er P "__static_attributes__" 246 57, en P "__doc__" 247 .none], D6 "TableError" [.ref 46] [.ref 59, .ref 46, .type "Exception", .type "BaseException", .type "object"] 58 "TableError" true [] [] false none false [some (.ref 50), none, some (.str "TableError" 234), some (.str "TableError" 242), some (.builtin "Exception.__new__"), some (.bool true)], lS (.type "super") [.ref 59, .ref 59, .ref 59], wy [.builtin "object.__init_subclass__", .ref 59]] ++ (fb (D 4) "bits" 62 250 18 1 ["mask", "found", "at", "left"] mA ++ (fb (D 5) "mask_of" 69 260 28 1 ["numbers", "mask", "number"] mA)))))
noncomputable def s2 (P : Params) : Obj := ⟨.none, none, dc 2 [en P "type.__subclasses__.Exception.0" 230 (.int 46 0), en P "type.__subclasses__.Exception.n" 231 (.int 1 0)], #[]⟩
noncomputable def T1 (P : Params) : BT := bt 12 (c0 P (s2 P) (o3 P mB 15 14) (lS .none (l12.take 15)) ++ c1 P)
noncomputable def S1 (w : World) (os : OsState) : SharedT := ⟨T1 w.params, 76, lf, #[], ⟨0, 0, 0, 0⟩, 274, os⟩
noncomputable def c2 (P : Params) : List Obj := [lp [], wy [.builtin "type.__prepare__", .type "type"], vN 10 [en P "__module__" 281 mB, en P "__qualname__" 283 (.str "Dfa" 282), en P "__firstlineno__" 285 (.int 35 284), er P "__init__" 294 89, er P "class_count" 301 96, er P "state_count" 308 103, er P "step" 317 110, er P "links" 324 117, er P "told" 330 122, er P "__static_attributes__" 333 123], lp [], lS .none (tr 4 [37, 88, 41, 95, 44, 102, 47, 109, 52, 116, 55, 121]), oP "Dfa" "Dfa" 276 35 0 0 0 0 79 false 181 80 .none .none .none 279, CY [some (.ref 81), some (.ref 3), some (.ref 78), none, some mB, none, some (.ref 0)]] ++ (fb (M 8 0) "Dfa.__init__" 83 286 37 3 ["self", "rows", "tags"] mB ++ (fb (M 8 1) "Dfa.class_count" 90 295 41 1 ["self"] mB ++ (fb (M 8 2) "Dfa.state_count" 97 302 44 1 ["self"] mB ++ (fb (M 8 3) "Dfa.step" 104 309 47 3 ["self", "state", "number"] mB ++ (fb (M 8 4) "Dfa.links" 111 318 52 1 ["self"] mB ++ ([lp [], lS .none [], rG (M 8 5) "Dfa.told", oP "told" "Dfa.told" 325 55 1 0 0 3 118 true 181 119 .none .none (.ref 120) 328, tF (M 8 5) "Dfa.told" mB 121, lp [.str "rows" 331, .str "tags" 332], vN 4 [en P "__module__" 281 mB, en P "__firstlineno__" 285 (.int 35 284), er P "__init__" 294 89, er P "class_count" 301 96, er P "state_count" 308 103, er P "step" 317 110, er P "links" 324 117, er P "told" 330 122, er P "__static_attributes__" 333 123, er P "__dict__" 335 126, er P "__weakref__" 337 127, en P "__doc__" 338 .none], D6 "Dfa" [.type "object"] [.ref 125, .type "object"] 124 "Dfa" true [] [] false none false [none, none, some (.str "Dfa" 274), some (.str "Dfa" 282), some (.builtin "object.__new__"), some (.bool true)], Bf [.str "__dict__" 334, .ref 125, .builtin "function.__dict__", .builtin "function.__dict__#set"], Bf [.str "__weakref__" 336, .ref 125, .builtin "ExceptionGroup.__weakref__", .none], lS (.type "super") [.ref 125, .ref 125, .ref 125], wy [.builtin "object.__init_subclass__", .ref 125]]))))))
noncomputable def T2 (P : Params) : BT := bt 12 (c0 P (s2 P) (o3 P mC 20 19) (lS .none (l12.take 18)) ++ c1 P ++ c2 P)
noncomputable def S2 (w : World) (os : OsState) : SharedT := ⟨T2 w.params, 130, lf, #[], ⟨0, 0, 0, 0⟩, 356, os⟩
noncomputable def c3 (P : Params) (u : List Value) : List Obj := [lp [], wy [.builtin "type.__prepare__", .type "type"], vN 16 [en P "__module__" 363 mC, en P "__qualname__" 365 (.str "Tables" 364), en P "__firstlineno__" 367 (.int 62 366), er P "__init__" 380 143, er P "terminal" 388 150, er P "left" 396 157, er P "length" 404 164, er P "before" 412 171, er P "state_count" 419 178, er P "explicit" 428 185, er P "default" 436 192, er P "goto" 445 199, er P "action" 455 206, er P "expected" 466 213, er P "is_consistent" 474 220, er P "__static_attributes__" 482 221], lp [], lS .none (tr 4 [64, 142, 75, 149, 78, 156, 81, 163, 84, 170, 87, 177, 90, 184, 93, 191, 96, 198, 99, 205, 107, 212, 116, 219]), oP "Tables" "Tables" 358 62 0 0 0 0 133 false 181 134 .none .none .none 361, CY [some (.ref 135), some (.ref 3), some (.ref 132), none, some mC, none, some (.ref 0)]] ++ (fb (M 14 0) "Tables.__init__" 137 368 64 6 ["self", "names", "terminal_count", "lefts", "lengths", "befores", "number"] mC ++ (fb (M 14 1) "Tables.terminal" 144 381 75 2 ["self", "name"] mC ++ (fb (M 14 2) "Tables.left" 151 389 78 2 ["self", "rule"] mC ++ (fb (M 14 3) "Tables.length" 158 397 81 2 ["self", "rule"] mC ++ (fb (M 14 4) "Tables.before" 165 405 84 2 ["self", "rule"] mC ++ (fb (M 14 5) "Tables.state_count" 172 413 87 1 ["self"] mC ++ (fb (M 14 6) "Tables.explicit" 179 420 90 3 ["self", "state", "terminal"] mC ++ (fb (M 14 7) "Tables.default" 186 429 93 2 ["self", "state"] mC ++ (fb (M 14 8) "Tables.goto" 193 437 96 3 ["self", "state", "nonterminal"] mC ++ (fb (M 14 9) "Tables.action" 200 446 99 3 ["self", "state", "terminal", "told"] mC ++ (fb (M 14 10) "Tables.expected" 207 456 107 2 ["self", "state", "found", "terminal", "told"] mC ++ (fb (M 14 11) "Tables.is_consistent" 214 467 116 2 ["self", "state"] mC ++ ([lp [.str "befores" 475, .str "defaults" 476, .str "lefts" 477, .str "lengths" 478, .str "names" 479, .str "numbers" 480, .str "terminal_count" 481], vN 4 [en P "__module__" 363 mC, en P "__firstlineno__" 367 (.int 62 366), er P "__init__" 380 143, er P "terminal" 388 150, er P "left" 396 157, er P "length" 404 164, er P "before" 412 171, er P "state_count" 419 178, er P "explicit" 428 185, er P "default" 436 192, er P "goto" 445 199, er P "action" 455 206, er P "expected" 466 213, er P "is_consistent" 474 220, er P "__static_attributes__" 482 221, er P "__dict__" 484 224, er P "__weakref__" 486 225, en P "__doc__" 487 .none], D6 "Tables" [.type "object"] [.ref 223, .type "object"] 222 "Tables" true [] u false none false [none, none, some (.str "Tables" 356), some (.str "Tables" 364), some (.builtin "object.__new__"), some (.bool true)], Bf [.str "__dict__" 483, .ref 223, .builtin "function.__dict__", .builtin "function.__dict__#set"], Bf [.str "__weakref__" 485, .ref 223, .builtin "ExceptionGroup.__weakref__", .none], lS (.type "super") [.ref 223, .ref 223, .ref 223], wy [.builtin "object.__init_subclass__", .ref 223]])))))))))))))
noncomputable def T3 (P : Params) : BT := bt 12 (c0 P (s2 P) (o3 P mD 22 21) (lS .none (l12.take 21)) ++ c1 P ++ c2 P ++ c3 P [])
noncomputable def S3 (w : World) (os : OsState) : SharedT := ⟨T3 w.params, 228, lf, #[], ⟨0, 0, 0, 0⟩, 494, os⟩
noncomputable def c4 (P : Params) : List Obj := [lp [.str "int8" 494, .int (-128) 496, .int 127 497, .int 1 498], lp [.str "uint8" 499, .int 0 500, .int 255 501, .int 1 502], lp [.str "int16" 503, .int (-32768) 505, .int 32767 506, .int 2 507], lp [.str "uint16" 508, .int 0 509, .int 65535 510, .int 2 511], lp [.ref 228, .ref 229, .ref 230, .ref 231], lp [], lS .none [], rG (D 18) "row_key", oP "row_key" "row_key" 513 121 1 0 0 3 233 true 181 234 .none .none (.ref 235) 516, tF (D 18) "row_key" mD 236] ++ (fb (D 19) "owners_of" 238 519 123 1 ["rows", "firsts", "owners", "number", "key"] mD ++ ([lp [], lS .none [], rG (D 20) "packing_order", oP "packing_order" "packing_order" 530 132 2 0 0 3 245 true 181 246 .none .none (.ref 247) 533, tF (D 20) "packing_order" mD 248, lp [], wy [.builtin "type.__prepare__", .type "type"], vN 10 [en P "__module__" 543 mD, en P "__qualname__" 545 (.str "Comb" 544), en P "__firstlineno__" 547 (.int 138 546), er P "__init__" 554 263, er P "is_free" 562 270, er P "fits" 572 277, er P "first_fit" 581 284, er P "grow" 589 291, er P "put" 601 298, er P "__static_attributes__" 604 299], lp [], lS .none (tr 4 [140, 262, 144, 269, 147, 276, 153, 283, 159, 290, 164, 297]), oP "Comb" "Comb" 538 138 0 0 0 0 253 false 181 254 .none .none .none 541, CY [some (.ref 255), some (.ref 3), some (.ref 252), none, some mD, none, some (.ref 0)]] ++ (fb (M 21 0) "Comb.__init__" 257 548 140 1 ["self"] mD ++ (fb (M 21 1) "Comb.is_free" 264 555 144 2 ["self", "cell"] mD ++ (fb (M 21 2) "Comb.fits" 271 563 147 3 ["self", "base", "columns", "column"] mD ++ (fb (M 21 3) "Comb.first_fit" 278 573 153 2 ["self", "columns", "base"] mD ++ (fb (M 21 4) "Comb.grow" 285 582 159 2 ["self", "many"] mD ++ (fb (M 21 5) "Comb.put" 292 590 164 3 ["self", "owner", "row", "columns", "base", "column"] mD ++ ([lp [.str "check" 602, .str "table" 603], vN 4 [en P "__module__" 543 mD, en P "__firstlineno__" 547 (.int 138 546), er P "__init__" 554 263, er P "is_free" 562 270, er P "fits" 572 277, er P "first_fit" 581 284, er P "grow" 589 291, er P "put" 601 298, er P "__static_attributes__" 604 299, er P "__dict__" 606 302, er P "__weakref__" 608 303, en P "__doc__" 609 .none], D6 "Comb" [.type "object"] [.ref 301, .type "object"] 300 "Comb" true [] [] false none false [none, none, some (.str "Comb" 536), some (.str "Comb" 544), some (.builtin "object.__new__"), some (.bool true)], Bf [.str "__dict__" 605, .ref 301, .builtin "function.__dict__", .builtin "function.__dict__#set"], Bf [.str "__weakref__" 607, .ref 301, .builtin "ExceptionGroup.__weakref__", .none], lS (.type "super") [.ref 301, .ref 301, .ref 301], wy [.builtin "object.__init_subclass__", .ref 301], lp [], lS .none [], rG (D 22) "pack_rows", oP "pack_rows" "pack_rows" 612 172 1 0 0 3 306 true 181 307 .none .none (.ref 308) 615, tF (D 22) "pack_rows" mD 309] ++ (fb (D 23) "look_up" 311 618 179 6 ["bases", "table", "check", "owner", "row", "column", "cell"] mD))))))))))
noncomputable def T4 (P : Params) : BT := bt 12 (c0 P (s2 P) (o3 P mD 29 28) (lS .none (l12.take 39)) ++ c1 P ++ c2 P ++ c3 P [] ++ c4 P)
noncomputable def S4 (w : World) (os : OsState) : SharedT := ⟨T4 w.params, 318, lf, #[], ⟨0, 0, 0, 0⟩, 631, os⟩
noncomputable def c5 (P : Params) : List Obj := [lp [], wy [.builtin "type.__prepare__", .type "type"], vN 12 [en P "__module__" 638 mD, en P "__qualname__" 640 (.str "PackedRows" 639), en P "__firstlineno__" 642 (.int 184 641), er P "__init__" 653 331, er P "get" 662 338, er P "unpacked" 668 343, er P "cell_count" 675 350, er P "gaps" 681 355, er P "flaw_of_rows" 691 362, er P "flaw_of_cells" 701 369, er P "flaw" 713 376, er P "__static_attributes__" 718 377], lp [], lS .none (tr 4 [186, 330, 192, 337, 195, 342, 203, 349, 206, 354, 209, 361, 220, 368, 235, 375]), oP "PackedRows" "PackedRows" 633 184 0 0 0 0 321 false 181 322 .none .none .none 636, CY [some (.ref 323), some (.ref 3), some (.ref 320), none, some mD, none, some (.ref 0)]] ++ (fb (M 24 0) "PackedRows.__init__" 325 643 186 5 ["self", "bases", "table", "check", "owners"] mD ++ (fb (M 24 1) "PackedRows.get" 332 654 192 3 ["self", "row", "column"] mD ++ ([lp [], lS .none [], rG (M 24 2) "PackedRows.unpacked", oP "unpacked" "PackedRows.unpacked" 663 195 1 0 0 3 339 true 181 340 .none .none (.ref 341) 666, tF (M 24 2) "PackedRows.unpacked" mD 342] ++ (fb (M 24 3) "PackedRows.cell_count" 344 669 203 1 ["self"] mD ++ ([lp [], lS .none [], rG (M 24 4) "PackedRows.gaps", oP "gaps" "PackedRows.gaps" 676 206 1 0 0 3 351 true 181 352 .none .none (.ref 353) 679, tF (M 24 4) "PackedRows.gaps" mD 354] ++ (fb (M 24 5) "PackedRows.flaw_of_rows" 356 682 209 2 ["self", "many", "row", "owner"] mD ++ (fb (M 24 6) "PackedRows.flaw_of_cells" 363 692 220 2 ["self", "columns", "cell", "owner"] mD ++ (fb (M 24 7) "PackedRows.flaw" 370 702 235 3 ["self", "many", "columns", "found", "rows", "row"] mD ++ ([lp [.str "bases" 714, .str "check" 715, .str "owners" 716, .str "table" 717], vN 4 [en P "__module__" 638 mD, en P "__firstlineno__" 642 (.int 184 641), er P "__init__" 653 331, er P "get" 662 338, er P "unpacked" 668 343, er P "cell_count" 675 350, er P "gaps" 681 355, er P "flaw_of_rows" 691 362, er P "flaw_of_cells" 701 369, er P "flaw" 713 376, er P "__static_attributes__" 718 377, er P "__dict__" 720 380, er P "__weakref__" 722 381, en P "__doc__" 723 .none], D6 "PackedRows" [.type "object"] [.ref 379, .type "object"] 378 "PackedRows" true [] [] false none false [none, none, some (.str "PackedRows" 631), some (.str "PackedRows" 639), some (.builtin "object.__new__"), some (.bool true)], Bf [.str "__dict__" 719, .ref 379, .builtin "function.__dict__", .builtin "function.__dict__#set"], Bf [.str "__weakref__" 721, .ref 379, .builtin "ExceptionGroup.__weakref__", .none], lS (.type "super") [.ref 379, .ref 379, .ref 379], wy [.builtin "object.__init_subclass__", .ref 379]] ++ (fb (D 25) "packed_rows" 384 726 246 1 ["rows", "bases", "table", "check"] mD ++ (fb (D 26) "most_frequent" 391 736 249 1 ["numbers", "counts", "number", "best"] mD)))))))))))
noncomputable def T5 (P : Params) : BT := bt 12 (c0 P (s2 P) (o3 P mD 32 31) (lS .none (l12.take 48)) ++ c1 P ++ c2 P ++ c3 P [] ++ c4 P ++ c5 P)
noncomputable def S5 (w : World) (os : OsState) : SharedT := ⟨T5 w.params, 398, lf, #[], ⟨0, 0, 0, 0⟩, 746, os⟩
noncomputable def c6 (P : Params) : List Obj := [lp [.ref 223], wy [.builtin "type.__prepare__", .type "type"], vN 9 [en P "__module__" 753 mD, en P "__qualname__" 755 (.str "PackedTables" 754), en P "__firstlineno__" 757 (.int 258 756), er P "__init__" 775 411, er P "state_count" 782 418, er P "explicit" 792 425, er P "goto" 803 432, er P "cells" 810 439, er P "__static_attributes__" 824 440], lp [], lS .none (tr 4 [260, 410, 277, 417, 280, 424, 286, 431, 295, 438]), oP "PackedTables" "PackedTables" 748 258 0 0 0 0 401 false 181 402 .none .none .none 751, CY [some (.ref 403), some (.ref 3), some (.ref 400), none, some mD, none, some (.ref 0)]] ++ (fb (M 27 0) "PackedTables.__init__" 405 758 260 7 ["self", "frame", "defaults", "actions", "gotos", "goto_defaults", "goto_masks", "names", "terminal_count", "lefts", "lengths", "befores"] mD ++ (fb (M 27 1) "PackedTables.state_count" 412 776 277 1 ["self"] mD ++ (fb (M 27 2) "PackedTables.explicit" 419 783 280 3 ["self", "state", "terminal", "found"] mD ++ (fb (M 27 3) "PackedTables.goto" 426 793 286 3 ["self", "state", "nonterminal", "row", "found"] mD ++ (fb (M 27 4) "PackedTables.cells" 433 804 295 1 ["self"] mD ++ ([lp [.str "actions" 811, .str "bases" 812, .str "check" 813, .str "defaults" 814, .str "goto_bases" 815, .str "goto_check" 816, .str "goto_defaults" 817, .str "goto_masks" 818, .str "goto_owners" 819, .str "goto_table" 820, .str "gotos" 821, .str "owners" 822, .str "table" 823], vN 2 [en P "__module__" 753 mD, en P "__firstlineno__" 757 (.int 258 756), er P "__init__" 775 411, er P "state_count" 782 418, er P "explicit" 792 425, er P "goto" 803 432, er P "cells" 810 439, er P "__static_attributes__" 824 440, en P "__doc__" 825 .none], D6 "PackedTables" [.ref 223] [.ref 442, .ref 223, .type "object"] 441 "PackedTables" true [] [] false none false [some (.ref 398), none, some (.str "PackedTables" 746), some (.str "PackedTables" 754), some (.builtin "object.__new__"), some (.bool true)], lS (.type "super") [.ref 442, .ref 442, .ref 442], wy [.builtin "object.__init_subclass__", .ref 442]] ++ (fb (D 28) "action_rows" 445 828 297 1 ["tables", "rows", "state", "row", "terminal", "action"] mD ++ (fb (D 29) "goto_columns" 452 840 307 1 ["tables", "columns", "nonterminal", "column", "state", "goal"] mD ++ ([lp [], lS .none [], rG (D 30) "pack", oP "pack" "pack" 852 317 1 0 0 3 459 true 181 460 .none .none (.ref 461) 855, tF (D 30) "pack" mD 462] ++ (fb (D 31) "saved" 464 858 331 2 ["tables", "packed"] mD ++ (fb (D 32) "goto_states" 471 866 333 2 ["packed", "nonterminal"] mD ++ (fb (D 33) "cell_kind" 478 874 335 1 ["numbers", "low", "high", "name", "least", "most", "size"] mD ++ (fb (D 34) "octets" 485 887 342 1 ["packed", "total", "rows", "numbers"] mD)))))))))))))
noncomputable def T6 (P : Params) : BT := bt 12 (c0 P (s2 P) (o3 P mD 40 39) (lS .none (l12.take 72)) ++ c1 P ++ c2 P ++ c3 P [.ref 442] ++ c4 P ++ c5 P ++ c6 P)
noncomputable def S6 (w : World) (os : OsState) : SharedT := ⟨T6 w.params, 492, lf, #[], ⟨0, 0, 0, 0⟩, 897, os⟩
noncomputable def c7 (P : Params) : List Obj := [lp [], wy [.builtin "type.__prepare__", .type "type"], vN 11 [en P "__module__" 904 mD, en P "__qualname__" 906 (.str "PackedDfa" 905), en P "__firstlineno__" 908 (.int 350 907), er P "__init__" 914 504, er P "step" 925 511, er P "run" 937 519, er P "accepts" 946 526, er P "longest" 958 533, er P "state_count" 965 540, er P "chain" 975 547, er P "__static_attributes__" 983 548], lp [], lS .none (tr 4 [352, 503, 361, 510, 370, 518, 376, 525, 382, 532, 393, 539, 396, 546]), oP "PackedDfa" "PackedDfa" 899 350 0 0 0 0 495 false 181 496 .none .none .none 902, CY [some (.ref 497), some (.ref 3), some (.ref 494), none, some mD, none, some (.ref 0)], lp [.none], lp [], lS .none [], rG (M 35 0) "PackedDfa.__init__", oP "__init__" "PackedDfa.__init__" 909 352 8 0 0 3 500 true 181 501 .none .none (.ref 502) 912, D5 (.type "function") (M 35 0) "PackedDfa.__init__" 3 (.ref 499) .none .none mD (.ref 503) .none 0] ++ (fb (M 35 1) "PackedDfa.step" 505 915 361 3 ["self", "state", "number", "here", "found"] mD ++ ([lp [.int 0 926], lp [], lS .none [], lp [.str "self" 930, .str "numbers" 931, .str "state" 932, .str "here" 933, .str "number" 934], lp [], rG (M 35 2) "PackedDfa.run", oP "run" "PackedDfa.run" 927 370 3 0 0 3 513 true 181 514 (.ref 515) (.ref 516) (.ref 517) 935, D5 (.type "function") (M 35 2) "PackedDfa.run" 3 (.ref 512) .none .none mD (.ref 518) .none 0] ++ (fb (M 35 3) "PackedDfa.accepts" 520 938 376 2 ["self", "numbers", "state"] mD ++ (fb (M 35 4) "PackedDfa.longest" 527 947 382 3 ["self", "numbers", "at", "best", "state", "here"] mD ++ (fb (M 35 5) "PackedDfa.state_count" 534 959 393 1 ["self"] mD ++ (fb (M 35 6) "PackedDfa.chain" 541 966 396 2 ["self", "state", "found", "here"] mD ++ ([lp [.str "bases" 976, .str "check" 977, .str "count" 978, .str "owners" 979, .str "parents" 980, .str "table" 981, .str "tags" 982], vN 4 [en P "__module__" 904 mD, en P "__firstlineno__" 908 (.int 350 907), er P "__init__" 914 504, er P "step" 925 511, er P "run" 937 519, er P "accepts" 946 526, er P "longest" 958 533, er P "state_count" 965 540, er P "chain" 975 547, er P "__static_attributes__" 983 548, er P "__dict__" 985 551, er P "__weakref__" 987 552, en P "__doc__" 988 .none], D6 "PackedDfa" [.type "object"] [.ref 550, .type "object"] 549 "PackedDfa" true [] [] false none false [none, none, some (.str "PackedDfa" 897), some (.str "PackedDfa" 905), some (.builtin "object.__new__"), some (.bool true)], Bf [.str "__dict__" 984, .ref 550, .builtin "function.__dict__", .builtin "function.__dict__#set"], Bf [.str "__weakref__" 986, .ref 550, .builtin "ExceptionGroup.__weakref__", .none], lS (.type "super") [.ref 550, .ref 550, .ref 550], wy [.builtin "object.__init_subclass__", .ref 550]] ++ (fb (D 36) "live_entries" 555 991 403 1 ["row", "found", "number"] mD ++ (fb (D 37) "unlike_entries" 562 1000 409 2 ["row", "parent", "found", "number"] mD ++ (fb (D 38) "choose_parent" 569 1010 415 2 ["rows", "state", "best", "fewest", "other", "many"] mD ++ ([lp [.bool false], lp [], lS .none [], rG (D 39) "pack_dfa", oP "pack_dfa" "pack_dfa" 1022 424 2 0 0 3 577 true 181 578 .none .none (.ref 579) 1025, D5 (.type "function") (D 39) "pack_dfa" 3 (.ref 576) .none .none mD (.ref 580) .none 0, lp [], lS .none [], rG (D 40) "unpack_dfa", oP "unpack_dfa" "unpack_dfa" 1028 437 1 0 0 3 582 true 181 583 .none .none (.ref 584) 1031, tF (D 40) "unpack_dfa" mD 585, lp [], lS .none [], rG (D 42) "_law_pen", oP "_law_pen" "_law_pen" 1036 443 1 0 0 3 587 true 181 588 .none .none (.ref 589) 1039, tF (D 42) "_law_pen" mF 590])))))))))))
noncomputable def T7 (P : Params) : BT := bt 12 (c0 P (s2 P) (o3 P mF 47 46) (lS .none (l12.take 93)) ++ c1 P ++ c2 P ++ c3 P [.ref 442] ++ c4 P ++ c5 P ++ c6 P ++ c7 P)
noncomputable def S7 (w : World) (os : OsState) : SharedT := ⟨T7 w.params, 592, lf, #[], ⟨0, 0, 0, 0⟩, 1042, os⟩
noncomputable def c8 (P : Params) : List Obj := fb (D 43) "_law_draw" 592 1042 445 2 ["pen", "many", "digit", "spot", "cell", "great", "mixed"] mF ++ (fb (D 44) "_law_pick" 599 1055 462 2 ["pen", "some"] mF ++ (fb (D 45) "_law_sparse" 606 1063 464 1 ["pen", "found", "turn", "one", "column", "number"] mF ++ ([lp [], lS .none [], rG (D 46) "_law_first_fit", oP "_law_first_fit" "_law_first_fit" 1075 477 1 0 0 3 613 true 181 614 .none .none (.ref 615) 1078, tF (D 46) "_law_first_fit" mF 616] ++ (fb (D 47) "_law_rows_hold" 618 1081 492 1 ["some", "places", "cells", "marks", "firsts", "heard", "at", "column", "held", "back"] mF ++ ([lp [], lS .none [], rG (D 48) "_law_usual", oP "_law_usual" "_law_usual" 1097 509 1 0 0 3 625 true 181 626 .none .none (.ref 627) 1100, tF (D 48) "_law_usual" mF 628] ++ (fb (D 49) "_law_lines" 630 1103 512 4 ["pen", "size", "count", "many", "lines", "state", "line", "terminal", "way"] mF ++ ([lp [], lS .none [], rG (D 50) "_law_goals", oP "_law_goals" "_law_goals" 1118 526 3 0 0 3 637 true 181 638 .none .none (.ref 639) 1121, tF (D 50) "_law_goals" mF 640, lp [], lS .none [], rG (D 51) "_law_rests", oP "_law_rests" "_law_rests" 1124 531 2 0 0 3 642 true 181 643 .none .none (.ref 644) 1127, tF (D 51) "_law_rests" mF 645, lp [], lS .none [], rG (D 52) "_law_cells_hold", oP "_law_cells_hold" "_law_cells_hold" 1130 537 4 0 0 3 647 true 181 648 .none .none (.ref 649) 1133, tF (D 52) "_law_cells_hold" mF 650] ++ (fb (D 53) "_law_width" 652 1136 554 1 ["numbers", "low", "high", "size", "half"] mF ++ ([lp [], lS .none [], rG (D 54) "_law_widths_hold", oP "_law_widths_hold" "_law_widths_hold" 1147 563 2 0 0 3 659 true 181 660 .none .none (.ref 661) 1150, tF (D 54) "_law_widths_hold" mF 662, lp [], lS .none [], rG (D 55) "_law_tables_hold", oP "_law_tables_hold" "_law_tables_hold" 1153 571 1 0 0 3 664 true 181 665 .none .none (.ref 666) 1156, tF (D 55) "_law_tables_hold" mF 667, lp [], lS .none [], rG (D 56) "_law_automaton", oP "_law_automaton" "_law_automaton" 1159 596 1 0 0 3 669 true 181 670 .none .none (.ref 671) 1162, tF (D 56) "_law_automaton" mF 672] ++ (fb (D 57) "_law_farthest" 674 1165 607 4 ["lines", "marks", "word", "start", "best", "state", "at"] mF ++ (fb (D 58) "_law_walked" 681 1178 616 2 ["lines", "word", "state", "number"] mF ++ ([lp [], lS .none [], rG (D 59) "_law_parents", oP "_law_parents" "_law_parents" 1188 621 1 0 0 3 688 true 181 689 .none .none (.ref 690) 1191, tF (D 59) "_law_parents" mF 691] ++ (fb (D 60) "_law_chain" 693 1194 630 2 ["parents", "state", "found"] mF ++ ([lp [], lS .none [], rG (D 61) "_law_automaton_holds", oP "_law_automaton_holds" "_law_automaton_holds" 1203 635 3 0 0 3 700 true 181 701 .none .none (.ref 702) 1206, tF (D 61) "_law_automaton_holds" mF 703, lp [], lS .none [], rG (D 62) "_law_is_sound", oP "_law_is_sound" "_law_is_sound" 1209 661 5 0 0 3 705 true 181 706 .none .none (.ref 707) 1212, tF (D 62) "_law_is_sound" mF 708, lp [], lS .none [], rG (D 63) "_law_arrays_hold", oP "_law_arrays_hold" "_law_arrays_hold" 1215 673 1 0 0 3 710 true 181 711 .none .none (.ref 712) 1218, tF (D 63) "_law_arrays_hold" mF 713]))))))))))))))
noncomputable def T8 (P : Params) : BT := bt 12 (c0 P (s2 P) (o3 P mF 68 67) (lS .none (l12.take 156)) ++ c1 P ++ c2 P ++ c3 P [.ref 442] ++ c4 P ++ c5 P ++ c6 P ++ c7 P ++ c8 P)
noncomputable def S8 (w : World) (os : OsState) : SharedT := ⟨T8 w.params, 715, lf, #[], ⟨0, 0, 0, 0⟩, 1221, os⟩
noncomputable def c9 (P : Params) : List Obj := [lp [], lS .none [], rG (D 64) "law", oP "law" "law" 1221 694 1 0 0 3 715 true 181 716 .none .none (.ref 717) 1224, tF (D 64) "law" mF 718]
noncomputable def T9 (P : Params) : BT := bt 12 (c0 P (s2 P) (o3 P mF 69 68) (lS .none (l12.take 159)) ++ c1 P ++ c2 P ++ c3 P [.ref 442] ++ c4 P ++ c5 P ++ c6 P ++ c7 P ++ c8 P ++ c9 P)
noncomputable def S9 (w : World) (os : OsState) : SharedT := ⟨T9 w.params, 720, lf, #[], ⟨0, 0, 0, 0⟩, 1227, os⟩
theorem g1 (w : World) (os : OsState) : segRunT treeTable pg w 11 (some (.ref 6)) 1 600 (S0 w os) ⟨(execs (sl 0 8) ev).wrap doneF deadEnd id id, cE, ⟨0, 0, 0, 0⟩, [topFrame ⟨0, 0, 0, 0⟩]⟩ = some (.next, S1 w os, cE, ⟨34, 0, 34, 4⟩) := by rw [bn, bh, bp]; kernel_rfl
theorem g2 (w : World) (os : OsState) : segRunT treeTable pg w 11 (some (.ref 6)) 1 441 (S1 w os) ⟨(execs (sl 8 6) ev).wrap doneF deadEnd id id, cE, ⟨34, 0, 34, 4⟩, [topFrame ⟨0, 0, 0, 0⟩]⟩ = some (.next, S2 w os, cE, ⟨61, 0, 61, 9⟩) := by rw [bn, bh, bp]; kernel_rfl
theorem g3 (w : World) (os : OsState) : segRunT treeTable pg w 11 (some (.ref 6)) 1 610 (S2 w os) ⟨(execs (sl 14 3) ev).wrap doneF deadEnd id id, cE, ⟨61, 0, 61, 9⟩, [topFrame ⟨0, 0, 0, 0⟩]⟩ = some (.next, S3 w os, cE, ⟨119, 0, 119, 9⟩) := by rw [bn, bh, bp]; kernel_rfl
theorem g4 (w : World) (os : OsState) : segRunT treeTable pg w 11 (some (.ref 6)) 1 580 (S3 w os) ⟨(execs (sl 17 7) ev).wrap doneF deadEnd id id, cE, ⟨119, 0, 119, 9⟩, [topFrame ⟨0, 0, 0, 0⟩]⟩ = some (.next, S4 w os, cE, ⟨179, 0, 183, 22⟩) := by rw [bn, bh, bp]; kernel_rfl
theorem g5 (w : World) (os : OsState) : segRunT treeTable pg w 11 (some (.ref 6)) 1 517 (S4 w os) ⟨(execs (sl 24 3) ev).wrap doneF deadEnd id id, cE, ⟨179, 0, 183, 22⟩, [topFrame ⟨0, 0, 0, 0⟩]⟩ = some (.next, S5 w os, cE, ⟨249, 0, 257, 15⟩) := by rw [bn, bh, bp]; kernel_rfl
theorem g6 (w : World) (os : OsState) : segRunT treeTable pg w 11 (some (.ref 6)) 1 620 (S5 w os) ⟨(execs (sl 27 8) ev).wrap doneF deadEnd id id, cE, ⟨249, 0, 257, 15⟩, [topFrame ⟨0, 0, 0, 0⟩]⟩ = some (.next, S6 w os, cE, ⟨342, 0, 349, 16⟩) := by rw [bn, bh, bp]; kernel_rfl
theorem g7 (w : World) (os : OsState) : segRunT treeTable pg w 11 (some (.ref 6)) 1 617 (S6 w os) ⟨(execs (sl 35 8) ev).wrap doneF deadEnd id id, cE, ⟨342, 0, 349, 16⟩, [topFrame ⟨0, 0, 0, 0⟩]⟩ = some (.next, S7 w os, cE, ⟨443, 0, 444, 54⟩) := by rw [bn, bh, bp]; kernel_rfl
theorem g8 (w : World) (os : OsState) : segRunT treeTable pg w 11 (some (.ref 6)) 1 618 (S7 w os) ⟨(execs (sl 43 21) ev).wrap doneF deadEnd id id, cE, ⟨443, 0, 444, 54⟩, [topFrame ⟨0, 0, 0, 0⟩]⟩ = some (.next, S8 w os, cE, ⟨673, 0, 693, 47⟩) := by rw [bn, bh, bp]; kernel_rfl
theorem g9 (w : World) (os : OsState) : segRunT treeTable pg w 11 (some (.ref 6)) 1 27 (S8 w os) ⟨(execs (sl 64 1) ev).wrap doneF deadEnd id id, cE, ⟨673, 0, 693, 47⟩, [topFrame ⟨0, 0, 0, 0⟩]⟩ = some (.next, S9 w os, cE, ⟨694, 0, 705, 15⟩) := by rw [bn, bh, bp]; kernel_rfl
noncomputable def num : Nat → List Obj → Frag
 | _, [] => []
 | n, a :: l => (n, a) :: num (n + 1) l
noncomputable def LL (P : Params) : List Obj := c0 P (s2 P) (o3 P mF 69 68) (lS .none l12) ++ (c1 P ++ (c2 P ++ (c3 P [.ref 442] ++ (c4 P ++ (c5 P ++ (c6 P ++ (c7 P ++ (c8 P ++ c9 P))))))))
noncomputable def KF (P : Params) : Frag := num 0 (LL P)
theorem okT : Challenge.rw_nn0384_01.wellSaid = true := by
 refine (congrFun PySem.W.Fast.te9446332074065402090 _).trans ?_
 delta Fast.tw9446332074065402090
 delta Fast.tw17960256430627541270
 try delta Fast.tw2436336058641802641
 try delta Fast.tw12908688711261696721
 repeat' with_reducible refine look_both ?_ ?_
 all_goals decide +kernel
noncomputable def Hk : Hook := kHook KF (av 720) (fun _ => by kernel_rfl)
noncomputable def qv : Program := { pg with main := { pg.main with body := [D 64] } }
noncomputable def lo : List Str := ((mN.drop 8).take 59).map (·.1)
noncomputable abbrev rr := Challenge.rw_nn0384_01.row
noncomputable abbrev XT : Shared → Bool := fun s => xlAt qv [] s && recOk (RowW.records rr.toRowW) s
noncomputable abbrev Hf (P : Params) : Heap := absHeap (T9 P) 720 lf
theorem l1 (w : World) : staticsOk (importedModules pg.main.body) (eB w.params) (Hf w.params) = true := by kernel_rfl
theorem l2 (w : World) : namesBound pg (Hf w.params) = true := by kernel_rfl
theorem l4 (w : World) : laidKept (eB w.params) (Hf w.params) = true := by kernel_rfl
theorem rg (t : BT) (n : Nat) (life : Life) : (av n).map (absHeap t n life).get? = (av n).map fun i => alive ((t.get i).getD default) := by
 refine bQ fun i hi => ?_
 have h := aM.mp hi
 unfold Heap.get?
 rw [absHeap_at, if_pos h]
 generalize (t.get i).getD default = o
 obtain ⟨c, d, dt, s⟩ := o
 cases dt <;> rfl
theorem l5 (w : World) : (av 720).map (Hf w.params).get? = (KF w.params).map fun p => some p.2 := (rg _ _ _).trans (by kernel_rfl)
noncomputable abbrev Sf (w : World) (os : OsState) : Shared := ⟨Hf w.params, io [], ⟨0, 0, 0, 0⟩, 1227, os⟩
theorem l6 (w : World) (os : OsState) : openSeen qv lo (importedModules pg.main.body) XT true (Sf w os) = openGood qv lo := by rw [Fast.te4187177175401517315]; kernel_rfl
noncomputable abbrev Bs : List Frame := [topFrame ⟨0, 0, 0, 0⟩]
theorem HF (w : World) (os : OsState) : topGo treeTable pg w 11 (some (.ref 6)) 12 ⟨eB w.params, io [], boot_drawn, boot_toks, os⟩ (topStub pg) = some ((S0 w os).abs, ⟨denote treeTable cE, cE, ⟨0, 0, 0, 0⟩, Bs⟩) := by rw [Fast.te15667345088766844465, Fast.te11892475500146522536, bh]; kernel_rfl
theorem HG (w : World) (os : OsState) : segRun treeTable pg w 11 (some (.ref 6)) 1 1 (S0 w os).abs (blockOf (behindTheImports pg) ev cE ⟨0, 0, 0, 0⟩ Bs) = some (.next, (S0 w os).abs, cE, ⟨0, 0, 0, 0⟩) := by kernel_rfl
theorem HI (w : World) (s : Shared) : topRun treeTable pg w 11 (some (.ref 6)) 2 s ⟨doneF .next, cE, ⟨694, 0, 705, 15⟩, Bs⟩ = some s := by kernel_rfl
theorem HJ (w : World) (os : OsState) : topRun treeTable pg w 11 (some (.ref 6)) 2 (S9 w os).abs ⟨doneF .next, cE, ⟨694, 0, 705, 15⟩, Bs⟩ = some (S9 w os).abs := HI w _
theorem FY : behindTheImports pg = sl 0 8 ++ (sl 8 6 ++ (sl 14 3 ++ (sl 17 7 ++ (sl 24 3 ++ (sl 27 8 ++ (sl 35 8 ++ (sl 43 21 ++ (sl 64 1 ++ [])))))))) := by kernel_rfl
theorem HK (w : World) (os : OsState) : topRun treeTable pg w 11 (some (.ref 6)) (12 + (1 + (600 + (441 + (610 + (580 + (517 + (620 + (617 + (618 + (27 + 2))))))))))) ⟨eB w.params, io [], boot_drawn, boot_toks, os⟩ (topStub pg) = some (S9 w os).abs :=
 go_top (HF w os) (piece_block (HG w os) (FY ▸ dT (dU (g1 w os)) (dT (dU (g2 w os)) (dT (dU (g3 w os)) (dT (dU (g4 w os)) (dT (dU (g5 w os)) (dT (dU (g6 w os)) (dT (dU (g7 w os)) (dT (dU (g8 w os)) (dT (dU (g9 w os)) (piece_nil (HJ w os))))))))))))
noncomputable abbrev NN : Nat := 9368
theorem FZ : ∀ w : World, (fencedOpening treeTable pg w NN).map (fun s => (s.heap, s.gens, s.drawn, s.toks)) = some (eB w.params, io [], boot_drawn, boot_toks) := boot_open (by kernel_rfl) (by kernel_rfl) (fun s => by kernel_rfl)
theorem F0 : ∀ w : World, ((eB w.params).isNs mainGlobals && (io [] : Array GenState).size == 0, (eB w.params).objs.size, (eB w.params).nsMap mainGlobals "__annotations__") = (true, 11, some (.ref 6)) := fun w => by kernel_rfl
theorem F1 : LeftO pg qv lo XT Hk.obs Hk.val NN := LeftO.of_pieces (H₁ := Hf) FZ F0 HK (by decide +kernel) fun w => funext fun os => by
 refine fZ ?_ (fZ (l6 w os) (l5 w))
 show (_ && _ && _ && _) = true
 rw [l1, l2, l4]; rfl
noncomputable def dL : DefRec := match D 64 with
 | .FunctionDef n a b _ _ _ sc _ _ ps => ⟨n, a, b, sc, ps⟩
 | _ => ⟨"", ⟨[], [], none, [], [], none, []⟩, [], pg.main.scope, ⟨0, 0, 0, 0⟩⟩
theorem head (call : WalkO qv lo (XL qv []) Hk.says rr.toRowW dL [] fun f vs => PySem.call f vs) : Challenge.rw_nn0384_01.Holds :=
 holds_law okT fun said => holds_open F1 Hk.of Hk.keeps (fun s e => xl_of s (cn.mp e).1) XL.keeps (by kernel_rfl) (by kernel_rfl) (by kernel_rfl) (fun s e => recFacts_of (cn.mp e).2) (by rfl) said (by decide +kernel) ⟨rfl, rfl, rfl, rfl, rfl, by decide +kernel⟩ (by w_witness2) call
local macro_rules | `(tactic| kd_p) => return zW "ms"
local macro_rules | `(tactic| kd_in) => return zW "upd"
local macro_rules | `(tactic| kd_mem) => return zW "mem"
local macro_rules | `(tactic| kd_all) => return zW "rhow"
local macro_rules | `(tactic| kd_p1) => return zW "m1"
local macro_rules | `(tactic| exists $t) => `(tactic| (refine $t; wtm_at "ms"))
noncomputable abbrev gb (x : Str) : Str × Bd := (x, .glb)
noncomputable abbrev lu (x : Str) : Str × Bd := (x, .loc false none)
noncomputable abbrev lc (x : Str) (v : PV) : Str × Bd := (x, .loc false (some v))
noncomputable abbrev cu (x : Str) : Str × Bd := (x, .loc true none)
noncomputable abbrev cc (x : Str) (v : PV) : Str × Bd := (x, .loc true (some v))
noncomputable abbrev fr (x : Str) (v : PV) : Str × Bd := (x, .fre v)
noncomputable def tP (K : Frag) (x : Str) : Option Value := match K.lookup 3 with
 | some ⟨_, _, .dict es _, _⟩ => (es.toList.find? (·.key.isStr x)).map (·.val)
 | _ => none
structure PW (W : Wd) : Prop where
 K : W.K = KF W.w.params
 mg : ∀ x, W.mg x = tP (KF W.w.params) x
theorem PW.fn {W : Wd} (P : PW W) {x : Str} {f : Addr} (h : tP (KF W.w.params) x = some (.ref f)) (hf : fnIn (KF W.w.params) f = true) : Ew W x f :=
 ⟨(P.mg x).trans h, uE W.inK (by rw [P.K]; exact hf)⟩
theorem PW.at (P : PW W) {x : Str} {C : Addr} (h : W.mg x = some (.ref C)) {attr : Str} (ha : pV (KF W.w.params) C attr = true) : nJ W x attr := ⟨C, h, by rw [P.K]; exact ha⟩
theorem PW.me (P : PW W) {x : Str} {C f : Addr} (h : W.mg x = some (.ref C)) {attr : Str} (ha : uD (KF W.w.params) C attr f = true) : sE W x attr f := ⟨C, h, by rw [P.K]; exact ha⟩
section
variable {W : Wd} {n : Nat} {r : jr} {H : HH} {Q : CV}
noncomputable abbrev Bg (Q : CV) (a : Addr) : CV := fun p H => p = .none ∧ Q (.ref a) H
theorem Bh (P : PW W) : W.mg "Dfa" = some (.ref 125) := (P.mg _).trans (by kernel_rfl)
theorem D7 (P : PW W) {args p pos} (hm : gb "Dfa" ∈ r) (h : nR W n r H args (FJ W n (.ref 125) Q)) (hs : autoParam (args.all jE = true) aR) : Ev W n r H (.Call (.Name "Dfa" p) args [] pos) Q := sD hm (Bh P) (by rw [P.K]; kernel_rfl) hs h (by kernel_rfl)
theorem CZ (P : PW W) {ps : List PV} (h : ∀ a, jX W n ((a, .ins "Dfa" []) :: H) (.ref 89) (.ref a :: ps) (Bg Q a)) : jX W (n + 1) H (.ref 125) ps Q := ql (Bh P) (by rw [P.K]; kernel_rfl) (by rw [P.K]; kernel_rfl) (by rw [P.K]; kernel_rfl) h
theorem y2 (P : PW W) : W.mg "Tables" = some (.ref 223) := (P.mg _).trans (by kernel_rfl)
theorem C0 (P : PW W) : W.mg "Comb" = some (.ref 301) := (P.mg _).trans (by kernel_rfl)
theorem Bi (P : PW W) {ps : List PV} (h : ∀ a, jX W n ((a, .ins "Comb" []) :: H) (.ref 263) (.ref a :: ps) (Bg Q a)) : jX W (n + 1) H (.ref 301) ps Q := ql (C0 P) (by rw [P.K]; kernel_rfl) (by rw [P.K]; kernel_rfl) (by rw [P.K]; kernel_rfl) h
theorem pM (P : PW W) : W.mg "PackedRows" = some (.ref 379) := (P.mg _).trans (by kernel_rfl)
theorem uQ (P : PW W) {args p pos} (hm : gb "PackedRows" ∈ r) (h : nR W n r H args (FJ W n (.ref 379) Q)) (hs : autoParam (args.all jE = true) aR) : Ev W n r H (.Call (.Name "PackedRows" p) args [] pos) Q := sD hm (pM P) (by rw [P.K]; kernel_rfl) hs h (by kernel_rfl)
theorem sY (P : PW W) {ps : List PV} (h : ∀ a, jX W n ((a, .ins "PackedRows" []) :: H) (.ref 331) (.ref a :: ps) (Bg Q a)) : jX W (n + 1) H (.ref 379) ps Q := ql (pM P) (by rw [P.K]; kernel_rfl) (by rw [P.K]; kernel_rfl) (by rw [P.K]; kernel_rfl) h
theorem rU (P : PW W) : W.mg "PackedTables" = some (.ref 442) := (P.mg _).trans (by kernel_rfl)
theorem ra (P : PW W) {ps : List PV} (h : ∀ a, jX W n ((a, .ins "PackedTables" []) :: H) (.ref 411) (.ref a :: ps) (Bg Q a)) : jX W (n + 1) H (.ref 442) ps Q := ql (rU P) (by rw [P.K]; kernel_rfl) (by rw [P.K]; kernel_rfl) (by rw [P.K]; kernel_rfl) h
theorem uR (P : PW W) : W.mg "PackedDfa" = some (.ref 550) := (P.mg _).trans (by kernel_rfl)
theorem pN (P : PW W) {ps : List PV} (h : ∀ a, jX W n ((a, .ins "PackedDfa" []) :: H) (.ref 504) (.ref a :: ps) (Bg Q a)) : jX W (n + 1) H (.ref 550) ps Q := ql (uR P) (by rw [P.K]; kernel_rfl) (by rw [P.K]; kernel_rfl) (by rw [P.K]; kernel_rfl) h
theorem EK (P : PW W) : W.mg "abs" = none := (P.mg _).trans (by kernel_rfl)
theorem D8 (P : PW W) {args p pos} (hm : gb "abs" ∈ r) (h : nR W n r H args (xH W n (.builtin "abs") Q)) (hs : autoParam (args.all jE = true) aR) : Ev W n r H (.Call (.Name "abs" p) args [] pos) Q := nX hm (EK P) (by kernel_rfl) hs h (by exact Ag (by kernel_rfl)) (by kernel_rfl)
theorem C1 (P : PW W) : W.mg "dict" = none := (P.mg _).trans (by kernel_rfl)
theorem sZ (P : PW W) {args p pos} (hm : gb "dict" ∈ r) (h : nR W n r H args (xH W n (.type "dict") Q)) (hs : autoParam (args.all jE = true) aR) : Ev W n r H (.Call (.Name "dict" p) args [] pos) Q := nY hm (C1 P) (by kernel_rfl) hs h (by exact Ag (by kernel_rfl)) (by kernel_rfl)
theorem qw (P : PW W) : W.mg "enumerate" = none := (P.mg _).trans (by kernel_rfl)
theorem EL (P : PW W) : W.mg "int" = none := (P.mg _).trans (by kernel_rfl)
theorem D9 (P : PW W) {args p pos} (hm : gb "int" ∈ r) (h : nR W n r H args (xH W n (.type "int") Q)) (hs : autoParam (args.all jE = true) aR) : Ev W n r H (.Call (.Name "int" p) args [] pos) Q := nY hm (EL P) (by kernel_rfl) hs h (by exact Ag (by kernel_rfl)) (by kernel_rfl)
theorem EM (P : PW W) : W.mg "len" = none := (P.mg _).trans (by kernel_rfl)
theorem vO (P : PW W) {args p pos} (hm : gb "len" ∈ r) (h : nR W n r H args (xH W n (.builtin "len") Q)) (hs : autoParam (args.all jE = true) aR) : Ev W n r H (.Call (.Name "len" p) args [] pos) Q := nX hm (EM P) (by kernel_rfl) hs h (by exact Ag (by kernel_rfl)) (by kernel_rfl)
theorem C2 (P : PW W) : W.mg "list" = none := (P.mg _).trans (by kernel_rfl)
theorem wM (P : PW W) {args p pos} (hm : gb "list" ∈ r) (h : nR W n r H args (xH W n (.type "list") Q)) (hs : autoParam (args.all jE = true) aR) : Ev W n r H (.Call (.Name "list" p) args [] pos) Q := nY hm (C2 P) (by kernel_rfl) hs h (by exact Ag (by kernel_rfl)) (by kernel_rfl)
theorem EN (P : PW W) : W.mg "max" = none := (P.mg _).trans (by kernel_rfl)
theorem vP (P : PW W) {args p pos} (hm : gb "max" ∈ r) (h : nR W n r H args (xH W n (.builtin "max") Q)) (hs : autoParam (args.all jE = true) aR) : Ev W n r H (.Call (.Name "max" p) args [] pos) Q := nX hm (EN P) (by kernel_rfl) hs h (by exact Ag (by kernel_rfl)) (by kernel_rfl)
theorem EO (P : PW W) : W.mg "min" = none := (P.mg _).trans (by kernel_rfl)
theorem vQ (P : PW W) {args p pos} (hm : gb "min" ∈ r) (h : nR W n r H args (xH W n (.builtin "min") Q)) (hs : autoParam (args.all jE = true) aR) : Ev W n r H (.Call (.Name "min" p) args [] pos) Q := nX hm (EO P) (by kernel_rfl) hs h (by exact Ag (by kernel_rfl)) (by kernel_rfl)
theorem Bj (P : PW W) : W.mg "range" = none := (P.mg _).trans (by kernel_rfl)
theorem uS (P : PW W) {args p pos} (hm : gb "range" ∈ r) (h : nR W n r H args (xH W n (.type "range") Q)) (hs : autoParam (args.all jE = true) aR) : Ev W n r H (.Call (.Name "range" p) args [] pos) Q := nY hm (Bj P) (by kernel_rfl) hs h (by exact Ag (by kernel_rfl)) (by kernel_rfl)
theorem y3 (P : PW W) : W.mg "sorted" = none := (P.mg _).trans (by kernel_rfl)
theorem lr (P : PW W) {args p pos} (hm : gb "sorted" ∈ r) (h : nR W n r H args (xH W n (.builtin "sorted") Q)) (hs : autoParam (args.all jE = true) aR) : Ev W n r H (.Call (.Name "sorted" p) args [] pos) Q := nX hm (y3 P) (by kernel_rfl) hs h (by exact Ag (by kernel_rfl)) (by kernel_rfl)
theorem EP (P : PW W) : W.mg "str" = none := (P.mg _).trans (by kernel_rfl)
theorem F2 (P : PW W) {args p pos} (hm : gb "str" ∈ r) (h : nR W n r H args (xH W n (.type "str") Q)) (hs : autoParam (args.all jE = true) aR) : Ev W n r H (.Call (.Name "str" p) args [] pos) Q := nY hm (EP P) (by kernel_rfl) hs h (by exact Ag (by kernel_rfl)) (by kernel_rfl)
theorem EQ (P : PW W) : W.mg "sum" = none := (P.mg _).trans (by kernel_rfl)
theorem Bk (P : PW W) {args p pos} (hm : gb "sum" ∈ r) (h : nR W n r H args (xH W n (.builtin "sum") Q)) (hs : autoParam (args.all jE = true) aR) : Ev W n r H (.Call (.Name "sum" p) args [] pos) Q := nX hm (EQ P) (by kernel_rfl) hs h (by exact Ag (by kernel_rfl)) (by kernel_rfl)
theorem Bl (P : PW W) : W.mg "tuple" = none := (P.mg _).trans (by kernel_rfl)
theorem sh (P : PW W) {args p pos} (hm : gb "tuple" ∈ r) (h : nR W n r H args (xH W n (.type "tuple") Q)) (hs : autoParam (args.all jE = true) aR) : Ev W n r H (.Call (.Name "tuple" p) args [] pos) Q := nY hm (Bl P) (by kernel_rfl) hs h (by exact Ag (by kernel_rfl)) (by kernel_rfl)
end
section
variable {W : Wd} {n : Nat} {r : jr} {H : HH}
noncomputable def j4 {β : Type} (x : Str) : List (Str × β) → Option β
 | [] => none
 | (y, b) :: r => match cF x y with
  | true => some b
  | false => j4 x r
theorem jD {β : Type} {x : Str} {b : β} : ∀ {r : List (Str × β)}, j4 x r = some b → (x, b) ∈ r := fun {r} => by
 induction r with
 | nil => exact fun h => nomatch h
 | cons p r ih =>
  intro h
  have h : (match cF x p.1 with | true => some p.2 | false => j4 x r) = some b := h
  cases e : cF x p.1 with
  | true => rw [e] at h; cases h; cases cD.mp e; exact .head _
  | false => rw [e] at h; exact .tail _ (ih h)
noncomputable def mkE (x : Str) (k : NameKind) (bs : List (Str × PV)) (r : jr) : Option jr := match k with
 | .globalImplicit => some ((x, .glb) :: r)
 | .local => match j4 x bs with
  | some p => some ((x, .loc false (some p)) :: r)
  | none => some ((x, .loc false none) :: r)
 | .cell => match j4 x bs with
  | some p => some ((x, .loc true (some p)) :: r)
  | none => some ((x, .loc true none) :: r)
 | _ => none
noncomputable def ER : List (Str × NameKind) → List (Str × PV) → Option jr
 | [], _ => some []
 | (x, k) :: ns, bs => match ER ns bs with
  | some r => mkE x k bs r
  | none => none
theorem wN {bs : List (Str × PV)} : ∀ {ns : List (Str × NameKind)} {r : jr}, ER ns bs = some r → lU ns bs r := fun {ns} => by
 induction ns with
 | nil => intro r h; cases h; exact .nil
 | cons p ns ih =>
  obtain ⟨x, k⟩ := p
  intro r h
  have h : (match ER ns bs with | some r => mkE x k bs r | none => none) = some r := h
  cases e : ER ns bs with
  | none => rw [e] at h; cases h
  | some q =>
   rw [e] at h
   have := ih e
   cases k with
   | globalImplicit => cases h; exact .glb this
   | «local» =>
    have h : (match j4 x bs with | some p => some ((x, Bd.loc false (some p)) :: q) | none => some ((x, Bd.loc false none) :: q)) = some r := h
    cases z : j4 x bs <;> rw [z] at h <;> cases h
    ·exact .locL this
    ·exact .parL (jD z) this
   | cell =>
    have h : (match j4 x bs with | some p => some ((x, Bd.loc true (some p)) :: q) | none => some ((x, Bd.loc true none) :: q)) = some r := h
    cases z : j4 x bs <;> rw [z] at h <;> cases h
    ·exact .locC this
    ·exact .parC (jD z) this
   | _ => cases h
theorem F3 {Q : CV} {f : Addr} {name qual : Str} {ps : List Arg} {es : List Expr} {body : List Stmt} {scope : Scope} {kV doc pm cdv ct oc : Value} {an od : Option Addr} {osl : Array (Option Value)} {pvs : List PV} {r0 : jr} {K : Frag} (hK : W.K = K)
  (ho : K.lookup f = some ⟨oc, od, .func (fnX name qual ⟨[], ps, none, [], [], none, es⟩ body scope [] .none kV doc pm an cdv ct), osl⟩)
  (hk : scope.kind = .function) (hco : scope.isCoroutine = false) (hgen : scope.isGenerator = false) (hcd : codeIn K cdv qual = true)
  (hn : (ps.map (·.arg)).Nodup) (hnn : (scope.names.map ai).Nodup) (hkd : ((ps.map (·.arg)).all fun y => scope.names.lookup y == some .local || scope.names.lookup y == some .cell) = true)
  (hl : pvs.length = ps.length) (hr0 : ER scope.names ((ps.map (·.arg)).zip pvs) = some r0) (h : lj W n r0 H body (vy Q)) :
  jX W (n + 1) H (.ref f) pvs Q := AJ (by rw [hK]; exact ho) (by rw [hK]; exact hcd) hn hnn hkd hl (wN hr0) h hk hco hgen
theorem jA.pos {c : Prop} [Decidable c] {P P' : Prop} (hc : c) (h : P) : jA (decide c) P P' := jA.dec (fun _ => h) fun h' => absurd hc h'
theorem jA.neg {c : Prop} [Decidable c] {P P' : Prop} (hc : ¬ c) (h : P') : jA (decide c) P P' := jA.dec (fun h' => absurd h' hc) fun _ => h
theorem my.drop {W r r' H} (w : mz [] r r') : my W r H r' H := my.frz jI.none w mS.refl
theorem ES {α : Type} {x y : α} {l : List α} (h : x ∈ l) : x ∈ y :: l := .tail _ h
theorem szL {α : Type} {l : List α} (h : l.length ≤ 64) : l.length ≤ sizeLine := bj h (by decide)
theorem F4 {Q : CV} {x pos c} {v : PV} (hm : (x, Bd.loc c (some v)) ∈ r) (h : Q v H) (hd : autoParam ((x == ("__debug__" : Str)) = false) aK) : Ev W n r H (.Name x pos) Q := Aw hm h hd
theorem F5 {Q : CV} {x pos} {v : PV} (hm : (x, Bd.fre v) ∈ r) (h : Q v H) (hd : autoParam ((x == ("__debug__" : Str)) = false) aK) (hn : autoParam ((x == ("__classdict__" : Str)) = false) aK) : Ev W n r H (.Name x pos) Q := Ax hm h hd hn
noncomputable abbrev HL (W : Wd) (n : Nat) (f : Value) (p : PV) (Q : CV) : CL := fun ps H => mM W n H (fun vs => call f vs) (p :: ps) Q
noncomputable abbrev HM (W : Wd) (n : Nat) (r : jr) (T : String) (f : Value) (args : List Expr) (Q : CV) : CV := fun p H => sJ W H T p ∧ nR W n r H args (HL W n f p Q)
noncomputable abbrev HN (W : Wd) (n : Nat) (f : Addr) (p : PV) (Q : CV) : CL := fun ps H => jX W n H (.ref f) (p :: ps) Q
noncomputable abbrev HP (W : Wd) (n : Nat) (r : jr) (args : List Expr) (p : PV) (H : HH) (Q : CV) : Addr → Prop := fun f => nR W n r H args (HN W n f p Q)
noncomputable abbrev kMt (W : Wd) (n : Nat) (r : jr) (name : Str) (args : List Expr) (Q : CV) : CV := fun p H => oS W H p name (HP W n r args p H Q)
noncomputable abbrev HQ (Q : CV) (H : HH) : PV → Prop := fun v => Q v H
noncomputable abbrev kAt (W : Wd) (a : Str) (Q : CV) : CV := fun p H => rC W H p a (HQ Q H)
theorem k8 {Q : CV} {o apos pos} {args : List Expr}
  (h : Ev W n r H o (HM W n r "list" (.builtin "list.append") args Q)) (hl : autoParam ((apos.endLine == pos.line) = true) aR) (hb : autoParam (k4 o = true) aR) (hs : autoParam (args.all jE = true) aR) (hn : autoParam (args.length < 29) aE) : Ev W n r H (.Call (.Attribute o "append" apos) args [] pos) Q :=
 sK "list" "list.append" ip slot_list_append F.type_list_append hb hl hs hn h
theorem x1 {Q : CV} {o apos pos} {args : List Expr}
  (h : Ev W n r H o (HM W n r "list" (.builtin "list.count") args Q)) (hl : autoParam ((apos.endLine == pos.line) = true) aR) (hb : autoParam (k4 o = true) aR) (hs : autoParam (args.all jE = true) aR) (hn : autoParam (args.length < 29) aE) : Ev W n r H (.Call (.Attribute o "count" apos) args [] pos) Q :=
 sK "list" "list.count" ip F.slot_list_count F.type_list_count hb hl hs hn h
theorem x_get {Q : CV} {o apos pos} {args : List Expr}
  (h : Ev W n r H o (HM W n r "dict" (.builtin "dict.get") args Q)) (hl : autoParam ((apos.endLine == pos.line) = true) aR) (hb : autoParam (k4 o = true) aR) (hs : autoParam (args.all jE = true) aR) (hn : autoParam (args.length < 29) aE) : Ev W n r H (.Call (.Attribute o "get" apos) args [] pos) Q :=
 sK "dict" "dict.get" F.plainAttrs_dict gt F.type_dict_get hb hl hs hn h
theorem ny.snoc {S : HH} : ∀ {xs : List PV} {p q}, pp S p q → ny S (xs ++ [p]) (xs ++ [q])
 | [], _, _, h => .cons h .refl
 | _ :: xs, _, _, h => .cons .refl (ny.snoc (xs := xs) h)
theorem jI.one {H : HH} {e} : jI (e :: H) H [e] := .r .none
theorem jI.two {H : HH} {e f} : jI (e :: f :: H) H [e, f] := .r (.r .none)
theorem jI.three {H : HH} {e f g} : jI (e :: f :: g :: H) H [e, f, g] := .r (.r (.r .none))
theorem jI.four {H : HH} {e f g i} : jI (e :: f :: g :: i :: H) H [e, f, g, i] := .r (.r (.r (.r .none)))
inductive ZP (p : PV) (H1 : HH) (K : CL) : Prop
 | mk (a : Addr) (xs : List PV) (H0 : HH) (e : p = .ref a) (e1 : H1 = (a, .lst xs) :: H0) (q : K xs H0)
inductive ZDP (p : PV) (H1 : HH) (K : List (PV × PV) → HH → Prop) : Prop
 | mk (a : Addr) (xs : List (PV × PV)) (H0 : HH) (e : p = .ref a) (e1 : H1 = (a, .dct xs) :: H0) (q : K xs H0)
inductive GcP (H1 : HH) (K : HH → Prop) : Prop
 | mk (H2 S : HH) (sp : jI H1 H2 S) (q : K H2)
noncomputable abbrev kZ2 (Q : CV) : CL := fun xs H => Q (.lst xs) H
noncomputable abbrev kZ (Q : CV) : CV := fun p H => ZP p H (kZ2 Q)
noncomputable abbrev HS (Q : CV) : List (PV × PV) → HH → Prop := fun xs H => Q (.dct xs) H
noncomputable abbrev kZd (Q : CV) : CV := fun p H => ZDP p H (HS Q)
noncomputable abbrev kGc (Q : CV) : CV := fun p H => GcP H (Q p)
theorem lg {Q : CV} {e} (h : Ev W n r H e (kZ Q)) : Ev W n r H e Q :=
 Ev.frz (h.mono fun p H1 h => by obtain ⟨a, xs, H0, rfl, rfl, q⟩ := h; exact ⟨_, _, _, _, .one, .lst (.head _) .refl, mS.refl, q⟩)
theorem vR {Q : CV} {e} (h : Ev W n r H e (kZd Q)) : Ev W n r H e Q :=
 Ev.frz (h.mono fun p H1 h => by obtain ⟨a, xs, H0, rfl, rfl, q⟩ := h; exact ⟨_, _, _, _, .one, .dct (.head _) .refl, mS.refl, q⟩)
theorem kP {Q : CV} {e} (h : Ev W n r H e (kGc Q)) : Ev W n r H e Q :=
 Ev.frz (h.mono fun p H1 h => by obtain ⟨K, S, sp, q⟩ := h; exact ⟨K, S, K, p, sp, .refl, mS.refl, q⟩)
theorem Bm {Q : jH} {c K S} (sp : jI H K S) (h : lj W n r K c Q) : lj W n r H c Q := mG (my.frz sp mz.refl mS.refl) h
noncomputable abbrev HT {α : Type} (W : Wd) (n : Nat) (r : jr) (elt : Expr) (x : Str) (scope : Scope) (φ : α → PV) (Q : CV) : CL := fun xs H => yT W n r elt x scope φ (fun L => Q (.lst (L.map φ)) H) xs H
noncomputable abbrev HU {α : Type} (W : Wd) (n : Nat) (r : jr) (elt : Expr) (x : Str) (c : Expr) (scope : Scope) (p : α → Bool) (φ : α → PV) (Q : CV) : CL := fun xs H => t8 W n r elt x c scope p φ (fun L => Q (.lst ((L.filter p).map φ)) H) xs H
noncomputable abbrev F6 {α : Type} (W : Wd) (n : Nat) (r : jr) (elt : Expr) (x : Str) (scope : Scope) (φ : α → PV) (t : Str) (Q : jH) : CL := fun xs H => yT W n r elt x scope φ (fun L => lJ t (.lst (L.map φ)) r (Ho Q H)) xs H
noncomputable abbrev F7 {α : Type} (W : Wd) (n : Nat) (r : jr) (elt : Expr) (x : Str) (c : Expr) (scope : Scope) (p : α → Bool) (φ : α → PV) (t : Str) (Q : jH) : CL := fun xs H => t8 W n r elt x c scope p φ (fun L => lJ t (.lst ((L.filter p).map φ)) r (Ho Q H)) xs H
theorem kq {Q : CV} {α : Type} {elt iter : Expr} {x : Str} {px pos : Pos} {scope : Scope} (φ : α → PV) (hcap : ∃ cr, k7 r scope.names cr)
  (h : tM W false n r H iter (HT W n r elt x scope φ Q))
  (hk : autoParam (scope.kind = .function) aF) (hn : autoParam ((scope.names.map ai).Nodup) aN) (hs : autoParam (∀ env x, foldedSetIterable iter env x = pure x) aI) :
  Ev W n r H (.ListComp elt [⟨.Name x px, iter, [], 0⟩] scope pos) Q :=
 lg (qn hcap (sO φ (h.mono fun xs H1 h1 => h1.mono fun L q D => ⟨D, _, _, rfl, rfl, q⟩)) hk hn hs)
theorem lh {Q : CV} {α : Type} {elt iter c : Expr} {x : Str} {px pos : Pos} {scope : Scope} (p : α → Bool) (φ : α → PV) (hcap : ∃ cr, k7 r scope.names cr)
  (h : tM W false n r H iter (HU W n r elt x c scope p φ Q))
  (hk : autoParam (scope.kind = .function) aF) (hn : autoParam ((scope.names.map ai).Nodup) aN) (hs : autoParam (∀ env x, foldedSetIterable iter env x = pure x) aI) :
  Ev W n r H (.ListComp elt [⟨.Name x px, iter, [c], 0⟩] scope pos) Q :=
 lg (qn hcap (rE p φ (h.mono fun xs H1 h1 => h1.mono fun L q D => ⟨D, _, _, rfl, rfl, q⟩)) hk hn hs)
inductive qx (x : Str) (v w : PV) : jr → jr → jr → Prop
 | head {c o r} : qx x v w ((x, .loc c o) :: r) ((x, .loc c (some v)) :: r) ((x, .loc c (some w)) :: r)
 | tail {p r r' r''} : qx x v w r r' r'' → qx x v w (p :: r) (p :: r') (p :: r'')
theorem lk.two {x v w} {r r'' : jr} (h : lk x w r r'') : ∃ r', qx x v w r r' r'' := by
 induction h with
 | head => exact ⟨_, .head⟩
 | tail _ ih => obtain ⟨_, q⟩ := ih; exact ⟨_, .tail q⟩
theorem qx.fst {x v w} {r r' r'' : jr} (h : qx x v w r r' r'') : lk x v r r' := by
 induction h with
 | head => exact .head
 | tail _ ih => exact .tail ih
theorem qx.rhow {x v w S} (hv : pp S v w) {r r' r'' : jr} (h : qx x v w r r' r'') : mz S r' r'' := by
 induction h with
 | head => exact .rfy hv mz.refl
 | tail _ ih => exact .same ih
inductive F8 (t : Str) (r : jr) (Q : jH) (fl : Fl) (r' : jr) (H1 : HH) : Prop
 | mk (e : fl = .next) (D : Addr) (ys : List PV) (H' : HH) (r'' : jr) (U : qx t (.ref D) (.lst ys) r r' r'') (e1 : H1 = (D, .lst ys) :: H') (q : Q .next r'' H')
theorem uT {t pt spos elt gens scope pos} {Q : jH} (h : ∀ Q' : jH, (∀ D ys H' r'' , lk t (.lst ys) r r'' → Q .next r'' H' → lJ t (.ref D) r fun r' => Q' .next r' ((D, .lst ys) :: H')) → Ex W n r H (.Assign [.Name t pt] (.ListComp elt gens scope pos) spos) Q') :
  Ex W n r H (.Assign [.Name t pt] (.ListComp elt gens scope pos) spos) Q :=
 CF (h (F8 t r Q) fun D ys H' r'' U q => by
   obtain ⟨r', U2⟩ := U.two (v := .ref D)
   exact ⟨r', U2.fst, rfl, D, ys, H', r'', U2, rfl, q⟩)
  fun fl r' H1 h => by
   obtain ⟨rfl, D, ys, H', r'', U2, rfl, q⟩ := h
   exact .inr ⟨.inl rfl, r'', H', my.frz .one (U2.rhow (.lst (.head _) .refl)) mS.refl, q⟩
theorem lz {t pt spos} {Q : jH} {α : Type} {elt iter : Expr} {x : Str} {px pos : Pos} {scope : Scope} (φ : α → PV) (hcap : ∃ cr, k7 r scope.names cr)
  (h : tM W false n r H iter (F6 W n r elt x scope φ t Q))
  (hk : autoParam (scope.kind = .function) aF) (hn : autoParam ((scope.names.map ai).Nodup) aN) (hs : autoParam (∀ env x, foldedSetIterable iter env x = pure x) aI) :
  Ex W n r H (.Assign [.Name t pt] (.ListComp elt [⟨.Name x px, iter, [], 0⟩] scope pos) spos) Q :=
 uT fun Q' hQ => m8 hcap (sO φ (h.mono fun xs H1 h1 => h1.mono fun L q D => by obtain ⟨r', b5, b6⟩ := q; exact hQ D _ _ r' b5 b6)) hk hn hs
theorem C3 {t pt spos} {Q : jH} {α : Type} {elt iter c : Expr} {x : Str} {px pos : Pos} {scope : Scope} (p : α → Bool) (φ : α → PV) (hcap : ∃ cr, k7 r scope.names cr)
  (h : tM W false n r H iter (F7 W n r elt x c scope p φ t Q))
  (hk : autoParam (scope.kind = .function) aF) (hn : autoParam ((scope.names.map ai).Nodup) aN) (hs : autoParam (∀ env x, foldedSetIterable iter env x = pure x) aI) :
  Ex W n r H (.Assign [.Name t pt] (.ListComp elt [⟨.Name x px, iter, [c], 0⟩] scope pos) spos) Q :=
 uT fun Q' hQ => m8 hcap (rE p φ (h.mono fun xs H1 h1 => h1.mono fun L q D => by obtain ⟨r', b5, b6⟩ := q; exact hQ D _ _ r' b5 b6)) hk hn hs
theorem jv.nx {Inv : CR} {Q : jH} {r3 r4 H3} (w : mz [] r3 r4) (h : Inv r4 H3) : jv W Inv Q .next r3 H3 := ⟨r4, H3, my.drop w, h⟩
theorem jv.ct {Inv : CR} {Q : jH} {r3 r4 H3} (w : mz [] r3 r4) (h : Inv r4 H3) : jv W Inv Q .cont r3 H3 := ⟨r4, H3, my.drop w, h⟩
theorem jv.fz {Inv : CR} {Q : jH} {r3 r4 H3 K S K'} (sp : jI H3 K S) (w : mz S r3 r4) (k : mS S K K') (h : Inv r4 K') : jv W Inv Q .next r3 H3 := ⟨r4, K', my.frz sp w k, h⟩
inductive Ea (p : PV) (K : Bool → Prop) : Prop
 | mk (b : Bool) (e : p = .bool b) (k : K b)
theorem uU {Q : CV} {x y rest pos} (h : Ev W n r H x fun p H1 => Ea p fun b => jA b (Ev W n r H1 (.BoolOp .And (y :: rest) pos) Q) (Q (.bool false) H1)) : Ev W n r H (.BoolOp .And (x :: y :: rest) pos) Q := fun A env fa G s R hr f => by
 refine BoolOp_and (ay (h A env fa G s R hr f) (fun v s1 h1 => ?_) fun _ _ x => x)
 obtain ⟨G1, p, H1, e1, r1, v1, ⟨b, rfl, q⟩⟩ := h1
 have : v = .bool b := by exact v1
 subst this
 refine cP ?_
 cases b with
 | false => exact ⟨G1, _, H1, e1, r1, v1, q.2 rfl⟩
 | true => exact ay (q.1 rfl A env fa G1 s1 R r1 (f.ext e1)) (fun v s4 h4 => h4.trans e1) fun _ _ x => x
theorem Bn {Q : CV} {x y rest pos} (h : Ev W n r H x fun p H1 => Ea p fun b => jA b (Q (.bool true) H1) (Ev W n r H1 (.BoolOp .Or (y :: rest) pos) Q)) : Ev W n r H (.BoolOp .Or (x :: y :: rest) pos) Q := fun A env fa G s R hr f => by
 refine BoolOp_or (ay (h A env fa G s R hr f) (fun v s1 h1 => ?_) fun _ _ x => x)
 obtain ⟨G1, p, H1, e1, r1, v1, ⟨b, rfl, q⟩⟩ := h1
 have : v = .bool b := by exact v1
 subst this
 refine cP ?_
 cases b with
 | true => exact ⟨G1, _, H1, e1, r1, v1, q.1 rfl⟩
 | false => exact ay (q.2 rfl A env fa G1 s1 R r1 (f.ext e1)) (fun v s4 h4 => h4.trans e1) fun _ _ x => x
theorem Bo {Q : CV} {op x pos} (h : Ev W n r H x Q) : Ev W n r H (.BoolOp op [x] pos) Q := fun A env fa G s R hr f => BoolOp_one (h A env fa G s R hr f)
inductive HV (p : PV) (K : Int → Int → Prop) : Prop
 | mk (lo hi : Int) (e : p = .rng lo hi) (b : -(2 ^ 62) ≤ lo ∧ lo < 2 ^ 62 ∧ -(2 ^ 62) ≤ hi ∧ hi < 2 ^ 62) (k : K lo hi)
inductive F9 (p : PV) (K : Nat → Prop) : Prop
 | mk (hi : Nat) (e : p = .rng 0 hi) (b : hi < 2 ^ 62) (k : K hi)
inductive HW (p : PV) (K : List PV → Prop) : Prop
 | mk (xs : List PV) (e : p = .lst xs) (k : K xs)
inductive HX (p : PV) (K : List PV → Prop) : Prop
 | mk (xs : List PV) (e : p = .tup xs) (k : K xs)
inductive HY {α : Type} (f : α → PV) (p : PV) (K : List (Int × α) → Prop) : Prop
 | mk (d : List (Int × α)) (e : p = .dct (Dk f d)) (k : K d)
noncomputable abbrev HZ (Q : CL) (H : HH) : Int → Int → Prop := fun lo hi => Q ((tN lo hi).map .int) H
noncomputable abbrev kIr (Q : CL) : CV := fun p H => HV p (HZ Q H)
noncomputable abbrev H8 (Q : CL) (H : HH) : Nat → Prop := fun hi => Q ((av hi).map fun (i : Nat) => PV.int i) H
noncomputable abbrev kIn (Q : CL) : CV := fun p H => F9 p (H8 Q H)
noncomputable abbrev Ga (Q : CL) (H : HH) : List PV → Prop := fun xs => Q xs H
noncomputable abbrev kIl (Q : CL) : CV := fun p H => HW p (Ga Q H)
noncomputable abbrev kIt (Q : CL) : CV := fun p H => HX p (Ga Q H)
noncomputable abbrev Ia {α : Type} (Q : CL) (H : HH) : List (Int × α) → Prop := fun d => Q (d.map fun p => .int p.1) H
noncomputable abbrev kId {α : Type} (f : α → PV) (Q : CL) : CV := fun p H => HY f p (Ia Q H)
theorem ta {e} {Q : CL} (h : Ev W n r H e (kIr Q)) : tM W false n r H e Q :=
 uH (h.mono fun p H1 h => by obtain ⟨lo, hi, rfl, hb, q⟩ := h; exact CJ hb.1 hb.2.1 hb.2.2.1 hb.2.2.2 q)
theorem jM {e} {Q : CL} (h : Ev W n r H e (kIn Q)) : tM W false n r H e Q :=
 ta (h.mono fun p H1 h => by
  obtain ⟨hi, rfl, hb, q⟩ := h
  refine ⟨0, hi, rfl, ⟨by decide, by decide, by exact J3 18, by exact J14 0 hb⟩, ?_⟩
  have : (tN 0 (hi : Int)).map PV.int = (av hi).map fun (i : Nat) => PV.int i := by
   unfold tN; simp [aW, Function.comp_def]
  show Q _ _
  rw [this]; exact q)
theorem jN {e} {Q : CL} (h : Ev W n r H e (kIl Q)) : tM W false n r H e Q :=
 uH (h.mono fun p H1 h => by obtain ⟨xs, rfl, q⟩ := h; exact CH q)
theorem tb {e} {Q : CL} (h : Ev W n r H e (kIt Q)) : tM W false n r H e Q :=
 uH (h.mono fun p H1 h => by obtain ⟨xs, rfl, q⟩ := h; exact CI q)
theorem wO {α : Type} {f : α → PV} {e} {Q : CL} (h : Ev W n r H e (kId f Q)) : tM W false n r H e Q :=
 uH (h.mono fun p H1 h => by obtain ⟨d, rfl, q⟩ := h; exact CK q)
inductive Gb (W : Wd) (n : Nat) (r : jr) (x : Str) (body : List Stmt) (Q : jH) (p : PV) (H1 : HH) : Prop
 | mk (hi : Nat) (e : p = .rng 0 hi) (b : hi < 2 ^ 62) (I : IT jr) (i0 : Of (I 0) r H1)
   (step : ∀ i, i < hi → I i (CG W n x (.int (i : Nat)) body (jv W (Of (I (i + 1))) Q))) (fin : I hi (Q .next))
inductive Eb (W : Wd) (n : Nat) (r : jr) (x : Str) (body : List Stmt) (Q : jH) (α : Type) (ct : List PV → PV) (p : PV) (H1 : HH) : Prop
 | mk (L : List α) (g : α → PV) (e : p = ct (L.map g)) (I : IT jr) (i0 : Of (I 0) r H1)
   (step : ∀ i a, L[i]? = some a → I i (CG W n x (g a) body (jv W (Of (I (i + 1))) Q))) (fin : I L.length (Q .next))
theorem jG {x px iter body pos} {Q : jH} (h : Ev W n r H iter (Gb W n r x body Q))
  (hs : autoParam (∀ env x, foldedSetIterable iter env x = pure x) aI) : Ex W n r H (.For (.Name x px) iter body [] pos) Q :=
 m7 (tt := false) (fun h => nomatch h) (jM (h.mono fun p H1 h => by
  obtain ⟨hi, e, hb, I, h0, step, done⟩ := h
  exact ⟨hi, e, hb, fun i => Of (I i), h0, fun i x' r' H' hx hI => by
  rw [ax] at hx
  obtain ⟨y, hy, rfl⟩ := bc.mp hx
  obtain ⟨hi', hy⟩ := aA.mp hy
  rw [bL] at hy
  subst hy
  rw [aq] at hi'
  obtain ⟨r2, U, E⟩ := hI _ (step i hi')
  exact m6 U E, fun r' H' hI => by rw [aa, aq] at hI; exact hI _ done⟩)) hs
theorem mX {α : Type} {x px iter body pos} {Q : jH} (h : Ev W n r H iter (Eb W n r x body Q α .lst))
  (hs : autoParam (∀ env x, foldedSetIterable iter env x = pure x) aI) : Ex W n r H (.For (.Name x px) iter body [] pos) Q :=
 m7 (tt := false) (fun h => nomatch h) (jN (h.mono fun p H1 h => by
  obtain ⟨L, g, e, I, h0, step, done⟩ := h
  exact ⟨_, e, fun i => Of (I i), h0, fun i x' r' H' hx hI => by
  rw [ax] at hx
  obtain ⟨y, hy, rfl⟩ := bc.mp hx
  obtain ⟨r2, U, E⟩ := hI _ (step i y hy)
  exact m6 U E, fun r' H' hI => by rw [aa] at hI; exact hI _ done⟩)) hs
noncomputable abbrev kWh (W : Wd) (n : Nat) (test : Expr) (body : List Stmt) (I : IT jr) (k : Nat) (Q : jH) : CR := fun r H => Tv W n r H test fun b H1 => jA b (lj W n r H1 body (jv W (AQ (fun i => Of (I i)) k) Q)) (Q .next r H1)
theorem lC {test body pos} {Q : jH} (I : IT jr) (m : Nat) (h0 : Of (I m) r H) (step : ∀ k, I k (kWh W n test body I k Q)) : Ex W n r H (.While test body [] pos) Q :=
 AS (fun i => Of (I i)) m h0 fun k r' H' h => h _ (step k)
noncomputable abbrev Gc (W : Wd) (n : Nat) (tgt : Expr) (v : PV) (c : List Stmt) (Q : jH) : CR := fun r H => Fo W n tgt v r H fun r2 H2 => lj W n r2 H2 c Q
theorem uI.T {tgt : Expr} {body : List Stmt} {Q : jH} {xs : List PV} (I : IT jr) (i0 : Of (I 0) r H) (step : ∀ i v, xs[i]? = some v → I i (Gc W n tgt v body (jv W (Of (I (i + 1))) Q))) (fin : I xs.length (Q .next)) : uI W n r tgt body Q xs H :=
 ⟨fun i => Of (I i), i0, fun i v _ _ hx h => h _ (step i v hx), fun _ _ h => h _ fin⟩
inductive vS (name : Str) (v : PV) : List (Str × PV) → List (Str × PV) → Prop
 | nil : vS name v [] [(name, v)]
 | cons {p fs fs'} : vS name v fs fs' → vS name v (p :: fs) (p :: fs')
theorem vS.eq {name v fs fs'} (h : vS name v fs fs') : fs' = fs ++ [(name, v)] := by
 induction h with
 | nil => rfl
 | cons _ ih => rw [ih]; rfl
theorem Bp {a : Addr} {c : Str} {fs fs' : List (Str × PV)} {attr : Str} {v : PV} {H' : HH} {P : HH → Prop} (U : kO a (.ins c fs) (.ins c fs') H H') (V : vS attr v fs fs') (hc : (fs.map ai).contains attr = false) (ha : nJ W c attr) (hz : fs.length ≤ 1000) (h : P H') : vr W n H (.ref a) attr v P := by
 have := V.eq
 subst this
 exact AN U (fun q => by rw [ec.mpr q] at hc; cases hc) ha hz h
theorem x_meth {Q : CV} {o name apos pos} {args : List Expr}
  (h : Ev W n r H o (kMt W n r name args Q)) (hl : autoParam ((apos.endLine == pos.line) = true) aR) (hb : autoParam (k4 o = true) aR) (hs : autoParam (args.all jE = true) aR) (hn : autoParam (args.length < 29) aE) : Ev W n r H (.Call (.Attribute o name apos) args [] pos) Q :=
 CD hb hl hs hn h
theorem my.perm {H' : HH} (p : H.Perm H') : my W r H r H' := fun env fa G s hr f => ⟨G, ky.refl, hr.perm p, f⟩
theorem Bq {Q : CV} {x xp attr pos} (h : Ev W n r H (.Name x xp) (kAt W attr Q)) : Ev W n r H (.Attribute (.Name x xp) attr pos) Q := CA (c := "") h
theorem C4 {r' : jr} {H' : HH} {c} {Q : jH} (w : my W r H r' H') (h : Ex W n r' H' c Q) : Ex W n r H c Q := fun A env fa G s R hr f => by
 obtain ⟨G', e, hr', f'⟩ := w env fa G s hr f
 exact jF (h A env fa G' s R hr' f') fun _ _ q => q.trans e.weak
theorem x2 {H' : HH} {c} {Q : jH} (p : H.Perm H') (h : Ex W n r H' c Q) : Ex W n r H c Q := C4 (my.perm p) h
theorem C5 {Q : CV} {G s v s1} (h : Fin W (EB Q) G s v s1) : Fin W Q G s v s1 := by
 obtain ⟨G1, p, P', e1, r1, v1, ⟨K, S, K', q, sp, rf, hw, q1⟩⟩ := h
 obtain ⟨e2, y, hy, _⟩ := r1.freeze2 sp hw
 exact ⟨_, q, K', e1.trans e2, y, hy _ _ _ rf v1, q1⟩
theorem jX.frz {Q : CV} {f ps} (h : jX W n H f ps (EB Q)) : jX W n H f ps Q := fun A G s vs R hr hv =>
 gf (h A G s vs R hr hv) fun r s' ⟨v, e, x⟩ => ⟨v, e, C5 x⟩
noncomputable def slots (as : List Addr) (os : List HO) : HH := as.zip os
theorem uh : ∀ {as : List Addr} {os : List HO} {j : Nat} {a : Addr} {o o' : HO} {H : HH}, as[j]? = some a → os[j]? = some o → kO a o o' (slots as os ++ H) (slots as (os.set j o') ++ H)
 | [], _, _, _, _, _, _, h, _ => by simp at h
 | _ :: _, [], _, _, _, _, _, _, h => by simp at h
 | b :: as, p :: os, 0, a, o, o', H, h, h' => by
  simp at h h'; subst h h'; exact .head
 | b :: as, p :: os, j + 1, a, o, o', H, h, h' => by
  simp only [fV] at h h'
  exact .tail (uh h h')
theorem y4 {as : List Addr} {os : List HO} {j : Nat} {a : Addr} {o : HO} {H : HH} (h : as[j]? = some a) (h' : os[j]? = some o) : (a, o) ∈ slots as os ++ H := by
 refine bu _ ?_
 unfold slots
 exact aS (i := j) (by rw [fA]; exact ⟨h, h'⟩)
theorem td {as : List Addr} {os : List HO} {a o} (h : as.length = os.length) : slots (as ++ [a]) (os ++ [o]) = slots as os ++ [(a, o)] := by
 unfold slots; rw [gv h]; rfl
theorem ny.slots {S : HH} {f : HO → PV} (hf : ∀ a o, (a, o) ∈ S → pp S (.ref a) (f o)) : ∀ {as : List Addr} {os : List HO}, as.length = os.length → (∀ p ∈ Mine.Internal.slots as os, p ∈ S) → ny S (as.map .ref) (os.map f)
 | [], [], _, _ => .refl
 | a :: as, o :: os, h, hm => .cons (hf a o (hm _ (.head _))) (ny.slots hf (by simpa using h) fun p hp => hm p (.tail _ hp))
theorem jI.slots : ∀ {S H : HH}, jI (S ++ H) H S
 | [], H => .none
 | e :: S, H => .r jI.slots
inductive Gd (H1 : HH) (K : HH → Prop) : Prop
 | mk (H2 : HH) (p : H1.Perm H2) (q : K H2)
theorem Br {Q : CV} {e} (h : Ev W n r H e fun p H1 => Gd H1 (Q p)) : Ev W n r H e Q := fun A env fa G s R hr f =>
 jF (h A env fa G s R hr f) fun v s1 h1 => by
  obtain ⟨G1, p, H1, e1, r1, v1, ⟨H2, hp, q⟩⟩ := h1
  exact ⟨G1, p, H2, e1, r1.perm hp, v1, q⟩
theorem jI.pre {H K S : HH} (h : jI H K S) : ∀ L : HH, jI (L ++ H) (L ++ K) S
 | [] => h
 | _ :: L => .l (jI.pre h L)
end
noncomputable abbrev jn (L : List Int) : List PV := L.map .int
noncomputable abbrev oY (L : List Nat) : List PV := L.map fun (x : Nat) => PV.int (x : Int)
noncomputable section
structure jm (p : Prop) : Prop where
 i ::
 o : p
noncomputable def Ge (x : Str) (v : PV) (b : Bd) (r : jr) : Option jr := match b with
 | .loc c _ => some ((x, .loc c (some v)) :: r)
 | _ => none
noncomputable def y5 (x : Str) (v : PV) : jr → Option jr
 | [] => none
 | p :: r => match cF x p.1 with
  | true => Ge x v p.2 r
  | false => match y5 x v r with
   | some r' => some (p :: r')
   | none => none
theorem te {x : Str} {v : PV} : ∀ {r r' : jr}, y5 x v r = some r' → lk x v r r' := fun {r} => by
 induction r with
 | nil => exact fun h => nomatch h
 | cons p r ih =>
  obtain ⟨y, b⟩ := p
  intro r' h
  have h : (match cF x y with | true => Ge x v b r | false => match y5 x v r with | some r' => some ((y, b) :: r') | none => none) = some r' := h
  cases e : cF x y with
  | true =>
   rw [e] at h
   cases cD.mp e
   cases b <;> cases h
   exact .head
  | false =>
   rw [e] at h
   cases e2 : y5 x v r with
   | none => rw [e2] at h; cases h
   | some q => rw [e2] at h; cases h; exact .tail (ih e2)
noncomputable def crE (x : Str) (o : Option Bd) (r' : jr) : Option jr := match o with
 | none => none
 | some b => match b with
  | .fre v => some ((x, .fre v) :: r')
  | .loc c u => match c with
   | true => match u with
    | some v => some ((x, .fre v) :: r')
    | none => none
   | false => none
  | .glb => none
noncomputable def crK (r : jr) (x : Str) (k : NameKind) (r' : jr) : Option jr := match k with
 | .globalImplicit => some ((x, .glb) :: r')
 | .local => some ((x, .loc false none) :: r')
 | .cell => some ((x, .loc true none) :: r')
 | .free => crE x (j4 x r) r'
 | _ => none
noncomputable def Gf (r : jr) : List (Str × NameKind) → Option jr
 | [] => some []
 | (x, k) :: ns => match Gf r ns with
  | none => none
  | some r' => crK r x k r'
theorem Bt {r : jr} : ∀ {ns : List (Str × NameKind)} {r' : jr}, Gf r ns = some r' → k7 r ns r' := fun {ns} => by
 induction ns with
 | nil => intro r' h; cases h; exact .nil
 | cons p ns ih =>
  obtain ⟨x, k⟩ := p
  intro r' h
  have h : (match Gf r ns with | none => none | some r' => crK r x k r') = some r' := h
  cases e : Gf r ns with
  | none => rw [e] at h; cases h
  | some q =>
   rw [e] at h
   have := ih e
   cases k with
   | globalImplicit => cases h; exact .glb this
   | «local» => cases h; exact .loc this
   | cell => cases h; exact .cel this
   | free =>
    have h : crE x (j4 x r) q = some r' := h
    cases z : j4 x r with
    | none => rw [z] at h; cases h
    | some b => cases b with
     | glb => rw [z] at h; cases h
     | fre v => rw [z] at h; cases h; exact .capF (jD z) this
     | loc c u => cases c with
      | false => rw [z] at h; cases h
      | true => cases u with
       | none => rw [z] at h; cases h
       | some v => rw [z] at h; cases h; exact .capL (jD z) this
   | _ => cases h
noncomputable def fT : List (Str × Addr) := List.append [("bits", 68), ("mask_of", 75), ("row_key", 237), ("owners_of", 244), ("packing_order", 249), ("pack_rows", 310), ("look_up", 317), ("packed_rows", 390), ("most_frequent", 397), ("action_rows", 451), ("goto_columns", 458), ("pack", 463), ("saved", 470), ("goto_states", 477), ("cell_kind", 484), ("octets", 491), ("live_entries", 561), ("unlike_entries", 568), ("choose_parent", 575), ("pack_dfa", 581), ("unpack_dfa", 586), ("_law_pen", 591)] [("_law_draw", 598), ("_law_pick", 605), ("_law_sparse", 612), ("_law_first_fit", 617), ("_law_rows_hold", 624), ("_law_usual", 629), ("_law_lines", 636), ("_law_goals", 641), ("_law_rests", 646), ("_law_cells_hold", 651), ("_law_width", 658), ("_law_widths_hold", 663), ("_law_tables_hold", 668), ("_law_automaton", 673), ("_law_farthest", 680), ("_law_walked", 687), ("_law_parents", 692), ("_law_chain", 699), ("_law_automaton_holds", 704), ("_law_is_sound", 709), ("_law_arrays_hold", 714), ("law", 719)]
noncomputable def kT : List (Str × Addr) := [("Dfa", 125), ("Tables", 223), ("Comb", 301), ("PackedRows", 379), ("PackedTables", 442), ("PackedDfa", 550)]
noncomputable def gT : List (Str × Int) := [("DEAD", -1), ("UNDEFINED", 2), ("ERROR", 1), ("TEMPLATES", 8), ("ACCEPT", 1048576), ("BARRED", -1048576)]
noncomputable def bT : List (Str × Nat) := [("len", 0), ("range", 1), ("int", 2), ("abs", 3), ("max", 4), ("min", 5), ("sorted", 6), ("sum", 7), ("dict", 8), ("list", 9), ("str", 10), ("tuple", 11)]
noncomputable def aT : List (Str × List Str) := [("Dfa", ["rows", "tags"]), ("Comb", ["table", "check"]), ("PackedRows", ["bases", "table", "check", "owners"]), ("PackedTables", ["names", "terminal_count", "lefts", "lengths", "befores", "defaults", "numbers", "actions", "bases", "table", "check", "owners", "gotos", "goto_bases", "goto_table", "goto_check", "goto_owners", "goto_defaults", "goto_masks"]), ("PackedDfa", ["bases", "table", "check", "owners", "tags", "count", "parents"])]
noncomputable def mT : List (Str × List (Str × Addr)) := [("Dfa", [("class_count", 96), ("state_count", 103), ("step", 110)]), ("Comb", [("is_free", 270), ("fits", 277), ("first_fit", 284), ("grow", 291), ("put", 298)]), ("PackedRows", [("get", 338), ("unpacked", 343), ("cell_count", 350), ("gaps", 355), ("flaw_of_rows", 362), ("flaw_of_cells", 369), ("flaw", 376)]), ("PackedTables", [("state_count", 418), ("explicit", 425), ("goto", 432), ("cells", 439), ("default", 192), ("action", 206), ("expected", 213)]), ("PackedDfa", [("step", 511), ("run", 519), ("accepts", 526), ("longest", 533), ("state_count", 540), ("chain", 547)])]
noncomputable def GW (c : Str) : Addr := match j4 c kT with | some a => a | none => 0
noncomputable def Gg (v : Value) (a : Addr) : Bool := match v with | .ref b => b.beq a | _ => false
noncomputable def vT (o : Option Value) (a : Addr) : Bool := match o with | some v => Gg v a | none => false
theorem qy {o a} (h : vT o a = true) : o = some (.ref a) := by
 cases o with
 | none => cases h
 | some v => cases v with
  | ref b => rw [Nat.eq_of_beq_eq_true h]
  | _ => cases h
noncomputable def Gi (v : Value) (i : Int) : Bool := match v with | .int j _ => decide (j = i) | _ => false
noncomputable def Ec (o : Option Value) (i : Int) : Bool := match o with | some v => Gi v i | none => false
theorem Bu {o i} (h : Ec o i = true) : ∃ t, o = some (.int i t) := by
 cases o with
 | none => cases h
 | some v => cases v with
  | int j t => exact ⟨t, by rw [of_decide_eq_true h]⟩
  | _ => cases h
noncomputable def Gj (K : Frag) : Bool := fT.all (fun p => vT (tP K p.1) p.2 && fnIn K p.2) && kT.all (fun p => vT (tP K p.1) p.2 && keepIn K (.ref p.2)) && gT.all (fun p => Ec (tP K p.1) p.2)
 && aT.all (fun p => vT (tP K p.1) (GW p.1) && p.2.all fun x => pV K (GW p.1) x) && mT.all (fun p => vT (tP K p.1) (GW p.1) && p.2.all fun q => uD K (GW p.1) q.1 q.2)
structure Gk (W : Wd) : Prop where
 f : ∀ p ∈ fT, Ew W p.1 p.2
 k : ∀ p ∈ kT, W.mg p.1 = some (.ref p.2) ∧ keepIn W.K (.ref p.2) = true
 g : ∀ p ∈ gT, ∃ t, W.mg p.1 = some (.int p.2 t)
 a : ∀ p ∈ aT, ∀ x ∈ p.2, nJ W p.1 x
 m : ∀ p ∈ mT, ∀ q ∈ p.2, sE W p.1 q.1 q.2
theorem mY {W : Wd} (P : PW W) : Gk W := by
 have h : Gj (KF W.w.params) = true := by kernel_rfl
 unfold Gj at h
 rw [aX, aX, aX, aX] at h
 obtain ⟨⟨⟨⟨h1, h2⟩, h3⟩, h4⟩, h5⟩ := h
 rw [a8] at h1 h2 h3 h4 h5
 refine ⟨fun p hp => ?_, fun p hp => ?_, fun p hp => ?_, fun p hp x hx => ?_, fun p hp q hq => ?_⟩
 ·have := cn.mp (h1 p hp); exact P.fn (qy this.1) this.2
 ·have := cn.mp (h2 p hp); exact ⟨(P.mg _).trans (qy this.1), by rw [P.K]; exact this.2⟩
 ·obtain ⟨t, e⟩ := Bu (h3 p hp); exact ⟨t, (P.mg _).trans e⟩
 ·have := cn.mp (h4 p hp); exact P.at ((P.mg _).trans (qy this.1)) (a8.mp this.2 x hx)
 ·have := cn.mp (h5 p hp); exact P.me ((P.mg _).trans (qy this.1)) (a8.mp this.2 q hq)
noncomputable def pA (x : Str) : Bool := match cF x "__debug__" with
 | true => false
 | false => match cF x "__classdict__" with
  | true => false
  | false => true
theorem lD {x : Str} (h : pA x = true) : (x == ("__debug__" : Str)) = false ∧ (x == ("__classdict__" : Str)) = false := by
 unfold pA at h
 constructor
 ·refine beq_eq_false_iff_ne.mpr fun e => ?_
  rw [cD.mpr e] at h; cases h
 ·refine beq_eq_false_iff_ne.mpr fun e => ?_
  rw [cD.mpr e] at h
  cases q : cF x "__debug__" <;> rw [q] at h <;> cases h
section
variable {W : Wd} {n : Nat} {r : jr} {H : HH}
noncomputable abbrev RE := Expr → HH → CV → Prop
noncomputable def GX (K : CV) : CV := fun v H => jm (K v H)
noncomputable def Ib (K : CB) : CB := fun v H => jm (K v H)
noncomputable def kLs (K : CL) : CL := fun v H => jm (K v H)
noncomputable def oG (b : Bool) (p q : Prop) : Prop := match b with | true => p | false => q
theorem oG.e {b : Bool} {p q R : Prop} (h : oG b p q) (h1 : b = true → p → R) (h2 : b = false → q → R) : R := by
 cases b
 ·exact h2 rfl h
 ·exact h1 rfl h
noncomputable def Fp (o : Option Bd) (f : PV → Prop) (g d : Prop) : Prop := match o with
 | none => d
 | some b => match b with
  | .loc _ u => match u with
   | some v => f v
   | none => d
  | .fre v => f v
  | .glb => g
theorem Fp.e {o : Option Bd} {f : PV → Prop} {g d R : Prop} (h : Fp o f g d) (h1 : ∀ c v, o = some (.loc c (some v)) → f v → R) (h2 : ∀ v, o = some (.fre v) → f v → R) (h3 : o = some .glb → g → R) (h4 : d → R) : R := by
 cases o with
 | none => exact h4 h
 | some b => cases b with
  | loc c u => cases u with
   | none => exact h4 h
   | some v => exact h1 c v rfl h
  | fre v => exact h2 v rfl h
  | glb => exact h3 rfl h
noncomputable def Fq (a : PV) (f : Str → List (Str × PV) → Prop) (d : Prop) : Prop := match a with
 | .ins c fs => f c fs
 | _ => d
theorem Fq.e {a : PV} {f : Str → List (Str × PV) → Prop} {d R : Prop} (h : Fq a f d) (h1 : ∀ c fs, a = .ins c fs → f c fs → R) (h2 : d → R) : R := by
 cases a with
 | ins c fs => exact h1 c fs rfl h
 | _ => exact h2 h
noncomputable def si {α : Type} (o : Option α) (f : α → Prop) (d : Prop) : Prop := match o with
 | some x => f x
 | none => d
theorem si.e {α : Type} {o : Option α} {f : α → Prop} {d R : Prop} (h : si o f d) (h1 : ∀ x, o = some x → f x → R) (h2 : d → R) : R := by
 cases o with
 | none => exact h2 h
 | some x => exact h1 x rfl h
noncomputable def vj (a : PV) (f : Int → Prop) (d : Prop) : Prop := match a with
 | .int i => f i
 | _ => d
theorem vj.e {a : PV} {f : Int → Prop} {d R : Prop} (h : vj a f d) (h1 : ∀ i, a = .int i → f i → R) (h2 : d → R) : R := by
 cases a with
 | int i => exact h1 i rfl h
 | _ => exact h2 h
noncomputable def Ai {α : Type} (l : List α) (f : α → Prop) (d : Prop) : Prop := match l with
 | [] => d
 | x :: r => match r with
  | [] => f x
  | _ :: _ => d
theorem Ai.e {α : Type} {l : List α} {f : α → Prop} {d R : Prop} (h : Ai l f d) (h1 : ∀ x, l = [x] → f x → R) (h2 : d → R) : R := by
 cases l with
 | nil => exact h2 h
 | cons x r => cases r with
  | nil => exact h1 x rfl h
  | cons _ _ => exact h2 h
noncomputable def C6 {α : Type} (l : List α) (f : α → Prop) (g : α → α → Prop) (d : Prop) : Prop := match l with
 | [] => d
 | x :: r => match r with
  | [] => f x
  | y :: s => match s with
   | [] => g x y
   | _ :: _ => d
theorem C6.e {α : Type} {l : List α} {f : α → Prop} {g : α → α → Prop} {d R : Prop} (h : C6 l f g d) (h1 : ∀ x, l = [x] → f x → R) (h2 : ∀ x y, l = [x, y] → g x y → R) (h3 : d → R) : R := by
 cases l with
 | nil => exact h3 h
 | cons x r => cases r with
  | nil => exact h1 x rfl h
  | cons y s => cases s with
   | nil => exact h2 x y rfl h
   | cons _ _ => exact h3 h
noncomputable def tG (a b : PV) (f : Int → Int → Prop) (d : Prop) : Prop := vj a (fun i => vj b (fun j => f i j) d) d
theorem tG.e {a b : PV} {f : Int → Int → Prop} {d R : Prop} (h : tG a b f d) (h1 : ∀ i j, a = .int i → b = .int j → f i j → R) (h2 : d → R) : R :=
 vj.e h (fun i e h => vj.e h (fun j e2 h => h1 i j e e2 h) h2) h2
noncomputable def opB (W : Wd) (n : Nat) (op : Operator) (a b : PV) (H : HH) (K : CV) : Prop := match op with
 | .Add => tG a b (fun i j => K (.int (i + j)) H) (jm (lA W n H (binaryOp .Add) a b K))
 | .Sub => tG a b (fun i j => K (.int (i - j)) H) (jm (lA W n H (binaryOp .Sub) a b K))
 | .BitAnd => tG a b (fun i j => K (.int (fh i j)) H) (jm (lA W n H (binaryOp .BitAnd) a b K))
 | .BitOr => tG a b (fun i j => K (.int (eC i j)) H) (jm (lA W n H (binaryOp .BitOr) a b K))
 | op => jm (lA W n H (binaryOp op) a b K)
theorem Bv {op a b} {K : CV} (h : opB W n op a b H K) : lA W n H (binaryOp op) a b K := by
 cases op with
 | Add => exact tG.e h (fun i j e1 e2 h => e1 ▸ e2 ▸ AF h) jm.o
 | Sub => exact tG.e h (fun i j e1 e2 h => e1 ▸ e2 ▸ AG h) jm.o
 | BitAnd => exact tG.e h (fun i j e1 e2 h => e1 ▸ e2 ▸ AH h) jm.o
 | BitOr => exact tG.e h (fun i j e1 e2 h => e1 ▸ e2 ▸ DR h) jm.o
 | _ => exact jm.o h
noncomputable def opC (W : Wd) (n : Nat) (op : CmpOp) (a b : PV) (H : HH) (K : CV) : Prop := match op with
 | .Lt => tG a b (fun i j => K (.bool (decide (i < j))) H) (jm (lA W n H (compareOp .Lt) a b K))
 | .LtE => tG a b (fun i j => K (.bool (decide (i ≤ j))) H) (jm (lA W n H (compareOp .LtE) a b K))
 | .Gt => tG a b (fun i j => K (.bool (decide (i > j))) H) (jm (lA W n H (compareOp .Gt) a b K))
 | .GtE => tG a b (fun i j => K (.bool (decide (i ≥ j))) H) (jm (lA W n H (compareOp .GtE) a b K))
 | .Eq => vj b (fun j => vj a (fun i => K (.bool (decide (i = j))) H) (jm (lA W n H (compareOp .Eq) a b K))) (jm (lA W n H (compareOp .Eq) a b K))
 | .NotEq => vj b (fun j => vj a (fun i => K (.bool (decide (i ≠ j))) H) (jm (lA W n H (compareOp .NotEq) a b K))) (jm (lA W n H (compareOp .NotEq) a b K))
 | op => jm (lA W n H (compareOp op) a b K)
theorem uV {op a b} {K : CV} (h : opC W n op a b H K) : lA W n H (compareOp op) a b K := by
 cases op with
 | Lt => exact tG.e h (fun i j e1 e2 h => e1 ▸ e2 ▸ DV h) jm.o
 | LtE => exact tG.e h (fun i j e1 e2 h => e1 ▸ e2 ▸ DW h) jm.o
 | Gt => exact tG.e h (fun i j e1 e2 h => e1 ▸ e2 ▸ DX h) jm.o
 | GtE => exact tG.e h (fun i j e1 e2 h => e1 ▸ e2 ▸ DY h) jm.o
 | Eq => exact vj.e h (fun j e2 h => vj.e h (fun i e1 h => e1 ▸ e2 ▸ DT h) jm.o) jm.o
 | NotEq => exact vj.e h (fun j e2 h => vj.e h (fun i e1 h => e1 ▸ e2 ▸ DU h) jm.o) jm.o
 | _ => exact jm.o h
noncomputable def opI (W : Wd) (n : Nat) (op : Operator) (a b : PV) (H : HH) (K : CV) : Prop := match op with
 | .Add => tG a b (fun i j => K (.int (i + j)) H) (jm (lA W n H (inplaceOp .Add) a b K))
 | op => jm (lA W n H (inplaceOp op) a b K)
theorem ET {op a b} {K : CV} (h : opI W n op a b H K) : lA W n H (inplaceOp op) a b K := by
 cases op with
 | Add => exact tG.e h (fun i j e1 e2 h => e1 ▸ e2 ▸ xE h) jm.o
 | _ => exact jm.o h
noncomputable def Gl (W : Wd) (n : Nat) (op : Operator) (a : PV) (K : CV) : CV := fun b H => opB W n op a b H K
noncomputable def Ed (W : Wd) (n : Nat) (R : RE) (op : Operator) (e : Expr) (K : CV) : CV := fun a H => R e H (Gl W n op a K)
noncomputable def Gm (W : Wd) (n : Nat) (op : CmpOp) (a : PV) (K : CV) : CV := fun b H => opC W n op a b H K
noncomputable def x3 (W : Wd) (n : Nat) (R : RE) (op : CmpOp) (e : Expr) (K : CV) : CV := fun a H => R e H (Gm W n op a K)
noncomputable def Gn (W : Wd) (n : Nat) (o : PV) (K : CV) : CV := fun i H => jm (oM W n H o i K)
noncomputable def Ee (W : Wd) (n : Nat) (R : RE) (e : Expr) (K : CV) : CV := fun a H => R e H (Gn W n a K)
noncomputable def opU (W : Wd) (n : Nat) (op : UnaryOp) (a : PV) (H : HH) (K : CV) : Prop := match op with
 | .USub => vj a (fun i => K (.int (-i)) H) (jm (FE W n H (unaryOp .USub) a K))
 | op => jm (FE W n H (unaryOp op) a K)
theorem EU {op a} {K : CV} (h : opU W n op a H K) : FE W n H (unaryOp op) a K := by
 cases op with
 | USub => exact vj.e h (fun i e h => e ▸ DS h) jm.o
 | _ => exact jm.o h
noncomputable def kUn (W : Wd) (n : Nat) (op : UnaryOp) (K : CV) : CV := fun a H => opU W n op a H K
noncomputable def EV (K : CV) : CL := fun ps H => oG (Nat.ble ps.length sizeLine) (K (.tup ps) H) False
noncomputable def EW (K : CV) : CL := fun ps H => oG (Nat.ble ps.length sizeLine) (jm (∀ a, K (.ref a) ((a, .lst ps) :: H))) False
theorem uW {K : CV} {ps H} (h : EV K ps H) : ps.length ≤ sizeLine ∧ K (.tup ps) H := oG.e h (fun e h => ⟨dp e, h⟩) fun _ h => h.elim
theorem x4 {K : CV} {ps H} (h : EW K ps H) : ps.length ≤ sizeLine ∧ ∀ a, K (.ref a) ((a, .lst ps) :: H) := oG.e h (fun e h => ⟨dp e, h.o⟩) fun _ h => h.elim
noncomputable def Go (p : PV) (K : CL) : CL := fun ps H => K (p :: ps) H
noncomputable def kB (W : Wd) (n : Nat) (K : CB) : CV := fun c H => match c with
 | .bool b => K b H
 | c => jm (Ah W n H c K)
noncomputable def Ic (W : Wd) (n : Nat) (K : CB) : CV := fun c H => jm (Ah W n H c K)
theorem Bw {c} {K : CB} (h : kB W n K c H) : Ah W n H c K := by
 cases c with
 | bool b => exact vn h
 | _ => exact jm.o h
noncomputable def Gp (K : CB) : CB := fun b H => K (!b) H
noncomputable def kIf (R : RE) (a b : Expr) (K : CV) : CB := fun c H => jm (jA c (R a H K) (R b H K))
noncomputable def kL1 (RL : List Expr → HH → (CL) → Prop) (es : List Expr) (K : CL) : CV := fun p H => RL es H (Go p K)
noncomputable def Id (RT : Expr → HH → (CB) → Prop) (rest : List Expr) (pos : Pos) (K : CB) : CB := fun b H => jm (jA b (RT (.BoolOp .And rest pos) H K) (K false H))
noncomputable def kOr (RT : Expr → HH → (CB) → Prop) (rest : List Expr) (pos : Pos) (K : CB) : CB := fun b H => jm (jA b (K true H) (RT (.BoolOp .Or rest pos) H K))
noncomputable def Bx (W : Wd) (n : Nat) (r : jr) (c : Const) (a : Nat) (p : Pos) (H : HH) (K : CV) : Prop := match c with
 | .int i => K (.int i) H
 | .none => K .none H
 | .bool b => K (.bool b) H
 | .str s => K (.str s) H
 | c => jm (Ev W n r H (.Constant c a p) K)
theorem y6 {c a p K} (h : Bx W n r c a p H K) : Ev W n r H (.Constant c a p) K := by
 cases c with
 | int i => exact Au h
 | none => exact xx h
 | bool b => exact xy h
 | str s => exact Av h
 | _ => exact jm.o h
noncomputable def Ef (W : Wd) (n : Nat) (r : jr) (x : Str) (p : Pos) (H : HH) (K : CV) : Prop :=
 oG (pA x) (Fp (j4 x r) (fun v => K v H) (si (j4 x gT) (fun i => K (.int i) H) (jm (Ev W n r H (.Name x p) K))) (jm (Ev W n r H (.Name x p) K))) (jm (Ev W n r H (.Name x p) K))
theorem By (P : PW W) {x p K} (h : Ef W n r x p H K) : Ev W n r H (.Name x p) K :=
 oG.e h (fun hp h => Fp.e h (fun c v e h => Aw (jD e) h (lD hp).1) (fun v e h => Ax (jD e) h (lD hp).1 (lD hp).2)
  (fun e h => si.e h (fun i e2 h => by
   obtain ⟨t, q⟩ := (mY P).g _ (jD e2)
   exact xz (jD e) ⟨_, q, fun _ _ _ => Es⟩ h (lD hp).1) jm.o) jm.o) fun _ => jm.o
theorem nR.mono {e} {Q Q' : CL} (h : nR W n r H e Q) (hq : ∀ p H', Q p H' → Q' p H') : nR W n r H e Q' := fun A env fa G s R x f =>
 ay (h A env fa G s R x f) (fun v s' h => by obtain ⟨G', p, H', e, h1, h2, h3⟩ := h; exact ⟨G', p, H', e, h1, h2, hq _ _ h3⟩) fun _ _ x => x
noncomputable def bV : Nat → Value
 | 0 => .builtin "len" | 1 => .type "range" | 2 => .type "int" | 3 => .builtin "abs" | 4 => .builtin "max" | 5 => .builtin "min" | 6 => .builtin "sorted" | 7 => .builtin "sum"
 | 8 => .type "dict" | 9 => .type "list" | 10 => .type "str" | _ => .type "tuple"
noncomputable def opF (W : Wd) (n : Nat) (b : Nat) (ps : List PV) (H : HH) (K : CV) : Prop := match b with
 | 0 => jm (mM W n H (fun vs => call (.builtin "len") vs) ps K)
 | 1 => C6 ps (fun p => vj p (fun i => K (.rng 0 i) H) (jm (mM W n H (fun vs => call (.type "range") vs) ps K))) (fun p q => tG p q (fun i j => K (.rng i j) H) (jm (mM W n H (fun vs => call (.type "range") vs) ps K))) (jm (mM W n H (fun vs => call (.type "range") vs) ps K))
 | 2 => jm (mM W n H (fun vs => call (.type "int") vs) ps K)
 | 3 => jm (mM W n H (fun vs => call (.builtin "abs") vs) ps K)
 | 4 => jm (mM W n H (fun vs => call (.builtin "max") vs) ps K)
 | 5 => jm (mM W n H (fun vs => call (.builtin "min") vs) ps K)
 | 6 => jm (mM W n H (fun vs => call (.builtin "sorted") vs) ps K)
 | 7 => jm (mM W n H (fun vs => call (.builtin "sum") vs) ps K)
 | 8 => jm (mM W n H (fun vs => call (.type "dict") vs) ps K)
 | 9 => jm (mM W n H (fun vs => call (.type "list") vs) ps K)
 | 10 => jm (mM W n H (fun vs => call (.type "str") vs) ps K)
 | _ => jm (mM W n H (fun vs => call (.type "tuple") vs) ps K)
theorem EX {b ps} {K : CV} (h : opF W n b ps H K) : mM W n H (fun vs => call (bV b) vs) ps K := by
 rcases b with _ | _ | _ | _ | _ | _ | _ | _ | _ | _ | _ | b
 case succ.zero => exact C6.e h (fun p e h => vj.e h (fun i e2 h => by subst e e2; exact sP h) jm.o) (fun p q e h => tG.e h (fun i j e2 e3 h => by subst e e2 e3; exact sQ h) jm.o) jm.o
 all_goals exact jm.o h
noncomputable def kBi (W : Wd) (n : Nat) (b : Nat) (K : CV) : CL := fun ps H => opF W n b ps H K
noncomputable def kC (W : Wd) (n : Nat) (f : Addr) (K : CV) : CL := fun ps H => jm (jX W n H (.ref f) ps K)
noncomputable def Fr (W : Wd) (n : Nat) (f : Addr) (p : PV) (K : CV) : CL := fun ps H => jm (jX W n H (.ref f) (p :: ps) K)
noncomputable def kBm (W : Wd) (n : Nat) (s : String) (p : PV) (K : CV) : CL := fun ps H => jm (mM W n H (fun vs => call (.builtin s) vs) (p :: ps) K)
noncomputable abbrev EY := List Expr → HH → (CL) → Prop
noncomputable def Gq (W : Wd) (a : Str) (K : CV) : CV := fun p H => Fq p (fun c fs => si (j4 c aT) (fun l => oG (l.any (cF a)) (si (j4 a fs) (fun v => K v H) (jm (rC W H p a fun v => K v H))) (jm (rC W H p a fun v => K v H))) (jm (rC W H p a fun v => K v H))) (jm (rC W H p a fun v => K v H))
noncomputable def Gr (W : Wd) (n : Nat) (RL : EY) (a : Str) (args : List Expr) (K : CV) : CV := fun p H => Fq p (fun c fs => si (j4 c mT) (fun l => si (j4 a l) (fun f => oG (fs.any fun q => cF a q.1) (jm (oS W H p a fun f => RL args H (Fr W n f p K))) (RL args H (Fr W n f p K))) (jm (oS W H p a fun f => RL args H (Fr W n f p K)))) (jm (oS W H p a fun f => RL args H (Fr W n f p K)))) (jm (oS W H p a fun f => RL args H (Fr W n f p K)))
noncomputable def Gs (W : Wd) (n : Nat) (RL : EY) (s : String) (args : List Expr) (K : CV) : CV := fun p H => jm (sJ W H "list" p ∧ RL args H (kBm W n s p K))
theorem oS.mono {p a} {K K' : Addr → Prop} (h : oS W H p a K) (k : ∀ v, K v → K' v) : oS W H p a K' := by obtain ⟨c, fs, v, w, m, z, q⟩ := h; exact ⟨c, fs, v, w, m, z, k _ q⟩
theorem C7 (P : PW W) {a p} {K : CV} (h : Gq W a K p H) : rC W H p a fun v => K v H :=
 Fq.e h (fun c fs e h => si.e h (fun l e2 h => oG.e h (fun e3 h => si.e h (fun v e4 h => by
  obtain ⟨b, hb, hs⟩ := bN.mp e3
  cases cD.mp hs
  exact e ▸ ⟨c, fs, v, .refl, jD e4, (mY P).a _ (jD e2) _ hb, h⟩) jm.o) fun _ => jm.o) jm.o) jm.o
theorem C8 (P : PW W) {RL : EY} {a args p} {K : CV} (ih : ∀ {es H K}, RL es H K → nR W n r H es K) (h : Gr W n RL a args K p H) : oS W H p a fun f => nR W n r H args fun ps H2 => jX W n H2 (.ref f) (p :: ps) K := by
 have z : (∀ f, RL args H (Fr W n f p K) → nR W n r H args fun ps H2 => jX W n H2 (.ref f) (p :: ps) K) := fun f h => (ih h).mono fun _ _ h => h.o
 exact Fq.e h (fun c fs e h => si.e h (fun l e2 h => si.e h (fun f e3 h => oG.e h (fun _ h => h.o.mono z) fun e4 h => ⟨c, fs, f, e ▸ .refl, by
   rw [d8]; intro q
   rw [ec] at q
   obtain ⟨y, hy, e5⟩ := az.mp q
   rw [ig] at e4
   exact e4 y hy (cD.mpr e5.symm), (mY P).m _ (jD e2) _ (jD e3), z f h⟩) fun h => h.o.mono z) fun h => h.o.mono z) fun h => h.o.mono z
noncomputable def wP (o : Expr) (args : List Expr) (apos pos : Pos) : Bool := (apos.endLine == pos.line) && k4 o && args.all jE && gN args.length 29
theorem y7 {o args apos pos} (h : wP o args apos pos = true) : (apos.endLine == pos.line) = true ∧ k4 o = true ∧ args.all jE = true ∧ args.length < 29 := by
 unfold wP at h
 rw [aX, aX, aX] at h
 obtain ⟨⟨⟨a, b⟩, c⟩, d⟩ := h
 exact ⟨a, b, c, by unfold gN at d; exact dp d⟩
noncomputable def Ie (r : jr) (o : Expr) : Bool := match o with
 | .Name x _ => match j4 x r with
  | some .glb => false
  | none => false
  | _ => true
 | _ => true
noncomputable def Bz (W : Wd) (n : Nat) (r : jr) (RL : EY) (x : Str) (p : Pos) (args : List Expr) (kw : List Keyword) (pos : Pos) (H : HH) (K : CV) : Prop :=
 oG (kw.isEmpty && args.all jE && pA x) (Fp (j4 x r) (fun _ => jm (Ev W n r H (.Call (.Name x p) args kw pos) K)) (si (j4 x fT) (fun f => RL args H (kC W n f K)) (si (j4 x bT) (fun b => RL args H (kBi W n b K)) (si (j4 x kT) (fun f => RL args H (kC W n f K)) (jm (Ev W n r H (.Call (.Name x p) args kw pos) K))))) (jm (Ev W n r H (.Call (.Name x p) args kw pos) K))) (jm (Ev W n r H (.Call (.Name x p) args kw pos) K))
noncomputable def BA (W : Wd) (n : Nat) (r : jr) (RE : RE) (RL : EY) (o : Expr) (a : Str) (ap : Pos) (args : List Expr) (kw : List Keyword) (pos : Pos) (H : HH) (K : CV) : Prop :=
 oG (kw.isEmpty && wP o args ap pos && Ie r o) (oG (cF a "append") (RE o H (Gs W n RL "list.append" args K)) (oG (cF a "count") (RE o H (Gs W n RL "list.count" args K)) (oG (cF a "get") (jm (Ev W n r H (.Call (.Attribute o a ap) args kw pos) K)) (RE o H (Gr W n RL a args K))))) (jm (Ev W n r H (.Call (.Attribute o a ap) args kw pos) K))
theorem Gu (P : PW W) {b x args p pos} {K : CV} (e : j4 x bT = some b) (hm : (x, Bd.glb) ∈ r) (hs : args.all jE = true) (h : nR W n r H args fun ps H1 => mM W n H1 (fun vs => call (bV b) vs) ps K) : Ev W n r H (.Call (.Name x p) args [] pos) K := by
 have hm2 := jD e
 unfold bT at hm2
 repeat' (rcases au.mp hm2 with q | hm2; · cases q; first | exact vO P hm h hs | exact uS P hm h hs | exact D9 P hm h hs | exact D8 P hm h hs | exact vP P hm h hs | exact vQ P hm h hs | exact lr P hm h hs | exact Bk P hm h hs | exact sZ P hm h hs | exact wM P hm h hs | exact F2 P hm h hs | exact sh P hm h hs)
 cases hm2
theorem y8 (P : PW W) {RL : EY} (ih : ∀ {es H K}, RL es H K → nR W n r H es K) {x p args kw pos} {K : CV} (h : Bz W n r RL x p args kw pos H K) : Ev W n r H (.Call (.Name x p) args kw pos) K :=
 oG.e h (fun hb h => by
  rw [aX, aX] at hb
  obtain ⟨⟨hk, hs⟩, hp⟩ := hb
  have hk := dG.mp hk
  subst hk
  exact Fp.e h (fun _ _ _ => jm.o) (fun _ _ => jm.o) (fun e h => si.e h (fun f e2 h => vz (jD e) ((mY P).f _ (jD e2)) hs ((ih h).mono fun _ _ h => h.o) (lD hp).1)
   fun h => si.e h (fun b e2 h => Gu P e2 (jD e) hs ((ih h).mono fun _ _ h => EX h))
   fun h => si.e h (fun f e2 h => sD (jD e) ((mY P).k _ (jD e2)).1 ((mY P).k _ (jD e2)).2 hs ((ih h).mono fun _ _ h => h.o) (lD hp).1) jm.o) jm.o) fun _ => jm.o
theorem y9 (P : PW W) {RL : EY} {RE : RE} (ih : ∀ {e H K}, RE e H K → Ev W n r H e K) (il : ∀ {es H K}, RL es H K → nR W n r H es K) {o a ap args kw pos} {K : CV} (h : BA W n r RE RL o a ap args kw pos H K) : Ev W n r H (.Call (.Attribute o a ap) args kw pos) K :=
 oG.e h (fun hb h => by
  rw [aX, aX] at hb
  obtain ⟨⟨hk, hs⟩, _⟩ := hb
  obtain ⟨h1, h2, h3, h4⟩ := y7 hs
  have hk := dG.mp hk
  subst hk
  exact oG.e h (fun e h => by
    cases cD.mp e
    exact k8 ((ih h).mono fun p H1 h => ⟨h.o.1, (il h.o.2).mono fun _ _ h => h.o⟩) h1 h2 h3 h4)
   fun _ h => oG.e h (fun e h => by
    cases cD.mp e
    exact x1 ((ih h).mono fun p H1 h => ⟨h.o.1, (il h.o.2).mono fun _ _ h => h.o⟩) h1 h2 h3 h4)
   fun _ h => oG.e h (fun _ => jm.o) fun _ h => x_meth ((ih h).mono fun p H1 h => C8 P il h) h1 h2 h3 h4) fun _ => jm.o
noncomputable def Gv (W : Wd) (n : Nat) (r : jr) (RE : RE) (o : Expr) (a : Str) (pos : Pos) (H : HH) (K : CV) : Prop := match o with
 | .Name x p => RE (.Name x p) H (Gq W a K)
 | o => jm (Ev W n r H (.Attribute o a pos) K)
theorem C9 (P : PW W) {RE : RE} (ih : ∀ {e H K}, RE e H K → Ev W n r H e K) {o a pos} {K : CV} (h : Gv W n r RE o a pos H K) : Ev W n r H (.Attribute o a pos) K := by
 cases o with
 | Name x p => exact Bq ((ih h).mono fun p H1 h => C7 P h)
 | _ => exact jm.o h
noncomputable def EZ : Expr → Bool
 | .Slice .. => true
 | _ => false
mutual
noncomputable def pH (W : Wd) (n : Nat) (r : jr) : Nat → Expr → HH → CV → Prop
 | 0, e, H, K => jm (Ev W n r H e K)
 | k + 1, e, H, K => match e with
  | .Name x p => Ef W n r x p H K
  | .Constant c a p => Bx W n r c a p H K
  | .BinOp l op e _ => pH W n r k l H (Ed W n (pH W n r k) op e K)
  | .Compare l ops es p => Ai ops (fun op => Ai es (fun e => oG (behindInMarks op e) (jm (Ev W n r H (.Compare l ops es p) K)) (pH W n r k l H (x3 W n (pH W n r k) op e K))) (jm (Ev W n r H (.Compare l ops es p) K))) (jm (Ev W n r H (.Compare l ops es p) K))
  | .Subscript v s p => oG (EZ s) (jm (Ev W n r H (.Subscript v s p) K)) (pH W n r k v H (Ee W n (pH W n r k) s K))
  | .UnaryOp op e _ => pH W n r k e H (kUn W n op K)
  | .IfExp t a b _ => Co W n r k t H (kIf (pH W n r k) a b K)
  | .Tuple es x p => oG (es.all jE) (Da W n r k es H (EV K)) (jm (Ev W n r H (.Tuple es x p) K))
  | .List es p => oG (es.all jE) (Da W n r k es H (EW K)) (jm (Ev W n r H (.List es p) K))
  | .Attribute o a p => Gv W n r (pH W n r k) o a p H K
  | .Dict ks vs p => oG (ks.isEmpty && vs.isEmpty) (jm (∀ a, K (.ref a) ((a, .dct []) :: H))) (jm (Ev W n r H (.Dict ks vs p) K))
  | .Call f args kw p => match f with
   | .Name x q => Bz W n r (Da W n r k) x q args kw p H K
   | .Attribute o a q => BA W n r (pH W n r k) (Da W n r k) o a q args kw p H K
   | f => jm (Ev W n r H (.Call f args kw p) K)
  | e => jm (Ev W n r H e K)
noncomputable def Da (W : Wd) (n : Nat) (r : jr) : Nat → List Expr → HH → (CL) → Prop
 | 0, es, H, K => jm (nR W n r H es K)
 | k + 1, es, H, K => match es with
  | [] => K [] H
  | e :: es => pH W n r k e H (kL1 (Da W n r k) es K)
noncomputable def Co (W : Wd) (n : Nat) (r : jr) : Nat → Expr → HH → (CB) → Prop
 | 0, e, H, K => jm (Tv W n r H e K)
 | k + 1, e, H, K => match e with
  | .Compare l ops es p => Ai ops (fun op => Ai es (fun e => oG (behindInMarks op e) (jm (Tv W n r H (.Compare l ops es p) K)) (pH W n r k l H (x3 W n (pH W n r k) op e (kB W n K)))) (jm (Tv W n r H (.Compare l ops es p) K))) (jm (Tv W n r H (.Compare l ops es p) K))
  | .UnaryOp op e p => match op with
   | .Not => Co W n r k e H (Gp K)
   | op => jm (Tv W n r H (.UnaryOp op e p) K)
  | .BoolOp op es pos => match op with
   | .And => match es with
    | [] => K true H
    | x :: rest => Co W n r k x H (Id (Co W n r k) rest pos K)
   | .Or => match es with
    | [] => K false H
    | x :: rest => Co W n r k x H (kOr (Co W n r k) rest pos K)
  | .Name x p => pH W n r k (.Name x p) H (Ic W n K)
  | .Call f args kw p => pH W n r k (.Call f args kw p) H (kB W n K)
  | e => jm (Tv W n r H e K)
end
theorem uw.mono {Q Q' : CB} {G s b s'} (h : uw W Q G s b s') (hq : ∀ p H', Q p H' → Q' p H') : uw W Q' G s b s' := by
 obtain ⟨G', H', e, h1, h3⟩ := h; exact ⟨G', H', e, h1, hq _ _ h3⟩
theorem yH.mono {Q Q' : HH → Prop} {G s b s'} (h : yH W Q G s b s') (hq : ∀ H', Q H' → Q' H') : yH W Q' G s b s' := by
 obtain ⟨G', H', e, h1, h3⟩ := h; exact ⟨G', H', e, h1, hq _ h3⟩
theorem Tv.mono {e} {Q Q' : CB} (h : Tv W n r H e Q') (hq : ∀ p H', Q' p H' → Q p H') : Tv W n r H e Q := fun A env fa G s R x f =>
 ay (h A env fa G s R x f) (fun v s' h => h.mono hq) fun _ _ x => x
noncomputable def OfP (I : jH → Prop) : jH := fun fl r H => ∀ C, I C → C fl r H
theorem BB {c} {Q : jH} (I : jH → Prop) (h : Ex W n r H c (OfP I)) (k : I Q) : Ex W n r H c Q := uF h fun _ _ _ q => q _ k
theorem lA.mono {f p q} {Q Q' : CV} (h : lA W n H f p q Q) (hq : ∀ p H', Q p H' → Q' p H') : lA W n H f p q Q' := fun A G s u v R x f g =>
 ay (h A G s u v R x f g) (fun v s' h => by obtain ⟨G', p, H', e, h1, h2, h3⟩ := h; exact ⟨G', p, H', e, h1, h2, hq _ _ h3⟩) fun _ _ x => x
theorem Ah.mono {p} {Q Q' : CB} (h : Ah W n H p Q) (hq : ∀ p H', Q p H' → Q' p H') : Ah W n H p Q' := fun A G s v R x f =>
 ay (h A G s v R x f) (fun v s' h => h.mono hq) fun _ _ x => x
theorem uz.mono {p q v} {Q Q' : HH → Prop} (h : uz W n H p q v Q) (hq : ∀ H', Q H' → Q' H') : uz W n H p q v Q' := fun A G s a b c R x f g i =>
 ay (h A G s a b c R x f g i) (fun v s' h => h.mono hq) fun _ _ x => x
theorem vr.mono {p q v} {Q Q' : HH → Prop} (h : vr W n H p q v Q) (hq : ∀ H', Q H' → Q' H') : vr W n H p q v Q' := fun A G s a b R x f g =>
 ay (h A G s a b R x f g) (fun v s' h => h.mono hq) fun _ _ x => x
structure Ig (W : Wd) (n : Nat) (r : jr) (k : Nat) : Prop where
 e : ∀ {e H K}, pH W n r k e H K → Ev W n r H e K
 l : ∀ {es H K}, Da W n r k es H K → nR W n r H es K
 t : ∀ {e H K}, Co W n r k e H K → Tv W n r H e K
theorem lN (P : PW W) : ∀ k, Ig W n r k := fun k => by
 induction k with
 | zero => exact ⟨jm.o, jm.o, jm.o⟩
 | succ k ih =>
  refine ⟨fun {e H K} h => ?_, fun {es H K} h => ?_, fun {e H K} h => ?_⟩
  ·cases e with
   | Name x p => exact By P h
   | Attribute o a p => exact C9 P ih.e h
   | Dict ks vs p => exact oG.e h (fun e h => by rw [aX] at e; rw [dG.mp e.1, dG.mp e.2]; exact vu h.o) fun _ => jm.o
   | Call f args kw p => cases f with
    | Name x q => exact y8 P ih.l h
    | Attribute o a q => exact y9 P ih.e ih.l h
    | _ => exact jm.o h
   | Constant c a p => exact y6 h
   | BinOp l op e p => exact kN ((ih.e h).mono fun a H1 h1 => (ih.e h1).mono fun b H2 h2 => Bv h2)
   | Compare l ops es p => exact Ai.e h (fun op e1 h => Ai.e h (fun e e2 h => oG.e h (fun _ => jm.o) fun hb h => e1 ▸ e2 ▸ m5 ((ih.e h).mono fun a H1 h1 => (ih.e h1).mono fun b H2 h2 => uV h2) hb) jm.o) jm.o
   | Subscript v s p => exact oG.e h (fun _ => jm.o) fun _ h => og ((ih.e h).mono fun a H1 h1 => (ih.e h1).mono fun b H2 h2 => h2.o)
   | UnaryOp op e p => exact vq ((ih.e h).mono fun a H1 h1 => EU h1)
   | IfExp t a b p => exact qh ((ih.t h).mono fun c H1 h1 => ⟨fun e => ih.e (h1.o.1 e), fun e => ih.e (h1.o.2 e)⟩)
   | Tuple es x p => exact oG.e h (fun hb h => sx hb ((ih.l h).mono fun ps H1 h1 => uW h1)) fun _ => jm.o
   | List es p => exact oG.e h (fun hb h => uA hb ((ih.l h).mono fun ps H1 h1 => x4 h1)) fun _ => jm.o
   | _ => exact jm.o h
  ·cases es with
   | nil => exact mh h
   | cons e es => exact jy ((ih.e h).mono fun p H1 h1 => ih.l h1)
  ·cases e with
   | Compare l ops es p => exact Ai.e h (fun op e1 h => Ai.e h (fun e e2 h => oG.e h (fun _ => jm.o) fun hb h => e1 ▸ e2 ▸ jS ((ih.e h).mono fun a H1 h1 => (ih.e h1).mono fun b H2 h2 => (uV h2).mono fun c H3 h3 => Bw h3) hb) jm.o) jm.o
   | UnaryOp op e p => cases op with
    | Not => exact oQ (ih.t h)
    | _ => exact jm.o h
   | BoolOp op es p => cases op with
    | And => cases es with
     | nil => exact ux h
     | cons x es => exact nH ((ih.t h).mono fun b H1 h1 => ⟨fun e => ih.t (h1.o.1 e), h1.o.2⟩)
    | Or => cases es with
     | nil => exact Ay h
     | cons x es => exact rp ((ih.t h).mono fun b H1 h1 => ⟨h1.o.1, fun e => ih.t (h1.o.2 e)⟩)
   | Name x p => exact xA ((ih.e h).mono fun a H1 h1 => h1.o)
   | Call f a k p => exact n9 ((ih.e h).mono fun a H1 h1 => Bw h1)
   | _ => exact jm.o h
noncomputable abbrev x5 (W : Wd) (n : Nat) (rest : List Stmt) (Q : jH) : jH := fun fl r' H' => match fl with
 | .next => lj W n r' H' rest Q
 | fl => Q fl r' H'
theorem jl {c rest} {Q : jH} (h : Ex W n r H c (x5 W n rest Q)) : lj W n r H (c :: rest) Q := Az h
noncomputable abbrev Db := List Stmt → jr → HH → jH → Prop
noncomputable def E0 (R : Db) (x : Str) (r : jr) (rest : List Stmt) (Q : jH) : CV := fun p H => si (y5 x p r) (fun r' => R rest r' H Q) False
noncomputable def kS (R : Db) (r : jr) (rest : List Stmt) (Q : jH) : HH → Prop := fun H => R rest r H Q
noncomputable def Ih (W : Wd) (n : Nat) (v o : PV) (P : HH → Prop) : CV := fun i H => jm (uz W n H o i v P)
noncomputable def Ii (W : Wd) (n : Nat) (R : RE) (v : PV) (i : Expr) (P : HH → Prop) : CV := fun o H => R i H (Ih W n v o P)
noncomputable def Ij (W : Wd) (n : Nat) (R : RE) (o i : Expr) (P : HH → Prop) : CV := fun v H => R o H (Ii W n R v i P)
noncomputable def Ik (W : Wd) (n : Nat) (a : Str) (v : PV) (P : HH → Prop) : CV := fun o H => jm (vr W n H o a v P)
noncomputable def Il (W : Wd) (n : Nat) (R : RE) (a : Str) (o : Expr) (P : HH → Prop) : CV := fun v H => R o H (Ik W n a v P)
noncomputable def Im (W : Wd) (n : Nat) (r : jr) (a b : List Stmt) (Q : jH) : CB := fun c H => jm (jA c (lj W n r H a Q) (lj W n r H b Q))
noncomputable def Io (r : jr) (Q : jH) : CV := fun p H => Q (.ret p) r H
noncomputable def Gw (R : Db) (r : jr) (rest : List Stmt) (Q : jH) : CV := fun p H => match p with
 | .none => R rest r H Q
 | p => jm (p = .none ∧ R rest r H Q)
theorem x6 {R : Db} {rest : List Stmt} {Q : jH} {p} (h : Gw R r rest Q p H) : p = .none ∧ R rest r H Q := by
 cases p with
 | none => exact ⟨rfl, h⟩
 | _ => exact h.o
noncomputable def Ip (W : Wd) (n : Nat) (op : Operator) (v : PV) (K : CV) : CV := fun p H => opI W n op v p H K
theorem x7 {R : Db} {x : Str} {rest : List Stmt} {Q : jH} (ih : ∀ {r H Q}, R rest r H Q → lj W n r H rest Q) {p} (h : E0 R x r rest Q p H) : lJ x p r fun r' => x5 W n rest Q .next r' H :=
 si.e h (fun _ e h => ⟨_, te e, ih h⟩) fun h => h.elim
noncomputable def Gx (W : Wd) (n : Nat) (RS : Db) (r : jr) (t : Expr) (e : Expr) (pos : Pos) (rest : List Stmt) (H : HH) (Q : jH) : Prop := match t with
 | .Name x p => pH W n r 60 e H (E0 RS x r rest Q)
 | .Subscript o i p => pH W n r 60 e H (Ij W n (pH W n r 60) o i (kS RS r rest Q))
 | .Attribute o a p => pH W n r 60 e H (Il W n (pH W n r 60) a o (kS RS r rest Q))
 | t => jm (Ex W n r H (.Assign [t] e pos) (x5 W n rest Q))
theorem Dc (P : PW W) {RS : Db} {t e pos rest} {Q : jH} (ih : ∀ {r H Q}, RS rest r H Q → lj W n r H rest Q) (hc : nI e = true) (h : Gx W n RS r t e pos rest H Q) : Ex W n r H (.Assign [t] e pos) (x5 W n rest Q) := by
 have i := lN (n := n) (r := r) P 60
 cases t with
 | Name x p => exact jB hc ((i.e h).mono fun p H1 h1 => x7 ih h1)
 | Subscript o j p => exact oe hc ((i.e h).mono fun p H1 h1 => (i.e h1).mono fun p2 H2 h2 => (i.e h2).mono fun p3 H3 h3 => h3.o.mono fun H4 h4 => ih h4)
 | Attribute o a p => exact sr hc ((i.e h).mono fun p H1 h1 => (i.e h1).mono fun p2 H2 h2 => h2.o.mono fun H4 h4 => ih h4)
 | _ => exact jm.o h
noncomputable def Gy (W : Wd) (n : Nat) (RS : Db) (r : jr) (t : Expr) (op : Operator) (e : Expr) (pos : Pos) (rest : List Stmt) (H : HH) (Q : jH) : Prop := match t with
 | .Name x p => si (j4 x r) (fun b => match b with
  | .loc _ u => si u (fun v => pH W n r 60 e H (Ip W n op v (E0 RS x r rest Q))) (jm (Ex W n r H (.AugAssign (.Name x p) op e pos) (x5 W n rest Q)))
  | _ => jm (Ex W n r H (.AugAssign (.Name x p) op e pos) (x5 W n rest Q))) (jm (Ex W n r H (.AugAssign (.Name x p) op e pos) (x5 W n rest Q)))
 | t => jm (Ex W n r H (.AugAssign t op e pos) (x5 W n rest Q))
theorem Dd (P : PW W) {RS : Db} {t op e pos rest} {Q : jH} (ih : ∀ {r H Q}, RS rest r H Q → lj W n r H rest Q) (h : Gy W n RS r t op e pos rest H Q) : Ex W n r H (.AugAssign t op e pos) (x5 W n rest Q) := by
 cases t with
 | Name x p => exact si.e h (fun b e1 h => by
   cases b with
   | loc c u => exact si.e h (fun v e2 h => by subst e2; exact AA (jD e1) (((lN P 60).e h).mono fun p H1 h1 => (ET h1).mono fun q H2 h2 => x7 ih h2)) jm.o
   | _ => exact jm.o h) jm.o
 | _ => exact jm.o h
noncomputable def Fs (W : Wd) (n : Nat) : Nat → List Stmt → jr → HH → jH → Prop
 | 0, c, r, H, Q => jm (lj W n r H c Q)
 | k + 1, c, r, H, Q => match c with
  | [] => jm (Q .next r H)
  | s :: rest => match s with
   | .Assign ts e pos => Ai ts (fun t => oG (nI e) (Gx W n (Fs W n k) r t e pos rest H Q) (jm (Ex W n r H (.Assign [t] e pos) (x5 W n rest Q)))) (jm (Ex W n r H (.Assign ts e pos) (x5 W n rest Q)))
   | .If t a b _ => Co W n r 60 t H (Im W n r a b (x5 W n rest Q))
   | .Return e _ => match e with
    | some e => pH W n r 60 e H (Io r Q)
    | none => Q (.ret .none) r H
   | .Expr e pos => oG (nI e) (pH W n r 60 e H (Gw (Fs W n k) r rest Q)) (jm (Ex W n r H (.Expr e pos) (x5 W n rest Q)))
   | .AugAssign t op e pos => Gy W n (Fs W n k) r t op e pos rest H Q
   | .Continue _ => jm (Q .cont r H)
   | c => jm (Ex W n r H c (x5 W n rest Q))
theorem BC (P : PW W) : ∀ k {c r H Q}, Fs W n k c r H Q → lj W n r H c Q := fun k => by
 induction k with
 | zero => exact jm.o
 | succ k ih =>
  intro c r H Q h
  cases c with
  | nil => exact uy (jm.o h)
  | cons s rest =>
   refine jl ?_
   cases s with
   | Assign ts e pos => exact Ai.e h (fun t e1 h => e1 ▸ oG.e h (fun hc h => Dc P ih hc h) fun _ => jm.o) jm.o
   | If t a b p => exact kG (((lN P 60).t h).mono fun c H1 h1 => h1.o)
   | Return e p => cases e with
    | some e => exact jP (((lN P 60).e h).mono fun p H1 h1 => h1)
    | none => exact xB h
   | Expr e p => exact oG.e h (fun hc h => lv hc (((lN P 60).e h).mono fun p H1 h1 => ⟨(x6 h1).1, ih (x6 h1).2⟩)) fun _ => jm.o
   | AugAssign t op e pos => exact Dd P ih h
   | Continue p => exact xC (jm.o h)
   | _ => exact jm.o h
theorem vy.i {Q : CV} {p} (h : Q p H) : vy Q (.ret p) r H := h
theorem E1 (P : PW W) {c} {Q : jH} (h : Fs W n 60 c r H Q) : lj W n r H c Q := BC P _ h
theorem De (P : PW W) (k : Nat) {c} {Q : jH} (h : Fs W n k c r H Q) : lj W n r H c Q := BC P _ h
theorem E3 (P : PW W) {l op e p} {Q : CV} (h : pH W n r 60 l H (Ed W n (pH W n r 60) op e (GX Q))) : Ev W n r H (.BinOp l op e p) Q :=
 kN (((lN P 60).e h).mono fun a H1 h1 => ((lN P 60).e h1).mono fun b H2 h2 => (Bv h2).mono fun _ _ x => x.o)
theorem nv (P : PW W) {x : Str} {f : Addr} {args p pos} {Q : CV} (hm : (x, Bd.glb) ∈ r) (h : nR W n r H args (FJ W n (.ref f) Q)) (hf : autoParam (j4 x fT = some f) aR) (hs : autoParam (args.all jE = true) aR) (hd : autoParam ((x == ("__debug__" : Str)) = false) aK) : Ev W n r H (.Call (.Name x p) args [] pos) Q := vz hm ((mY P).f _ (jD hf)) hs h hd
theorem Df {r cr : jr} {ns} (h : Gf r ns = some cr) : ∃ cr, k7 r ns cr := ⟨_, Bt h⟩
theorem Iq {x : Str} {v : PV} {r r' : jr} {K : jr → Prop} (h : y5 x v r = some r') (k : K r') : lJ x v r K := ⟨r', te h, k⟩
theorem Gz {p a c fs v} {K : PV → Prop} (w : Vw H p (.ins c fs)) (m : (a, v) ∈ fs) (z : nJ W c a) (k : K v) : rC W H p a K := ⟨c, fs, v, w, m, z, k⟩
theorem GA {p a c fs f} {K : Addr → Prop} (w : Vw H p (.ins c fs)) (m : (fs.map ai).contains a = false) (z : sE W c a f) (k : K f) : oS W H p a K := ⟨c, fs, f, w, m, z, k⟩
theorem GB {p xs} {B : Prop} (w : Vw H p (.lst xs)) (k : B) : sJ W H "list" p ∧ B := ⟨Ey w, k⟩
theorem GC {p xs} {B : Prop} (w : Vw H p (.dct xs)) (k : B) : sJ W H "dict" p ∧ B := ⟨Ez w, k⟩
noncomputable def inT (c a : Str) : Bool := match j4 c aT with | some l => l.any (cF a) | none => false
theorem Ir (P : PW W) {c a} (h : inT c a = true) : nJ W c a := by
 unfold inT at h
 cases e : j4 c aT with
 | none => rw [e] at h; cases h
 | some l =>
  rw [e] at h
  obtain ⟨b, hb, hs⟩ := bN.mp h
  cases cD.mp hs
  exact (mY P).a _ (jD e) _ hb
noncomputable def meT (c a : Str) : Option Addr := match j4 c mT with | some l => j4 a l | none => none
theorem It (P : PW W) {c a f} (h : meT c a = some f) : sE W c a f := by
 unfold meT at h
 cases e : j4 c mT with
 | none => rw [e] at h; cases h
 | some l => rw [e] at h; exact (mY P).m _ (jD e) _ (jD h)
noncomputable def Iu (r : jr) : Expr → Bool
 | .Name x _ => match j4 x r with | some .glb => (j4 x gT).isSome | _ => false
 | .Call f _ kw _ => match f with
  | .Name x _ => kw.isEmpty && (match j4 x r with | some .glb => (j4 x fT).isSome || (j4 x bT).isSome || (j4 x kT).isSome | _ => false)
  | _ => false
 | _ => false
theorem Dg (P : PW W) {e} {Q : CV} (h : pH W n r 60 e H (GX Q)) (hg : autoParam (Iu r e = true) aR) : Ev W n r H e Q := ((lN P 60).e h).mono fun _ _ x => x.o
theorem GD {v s p} {Q : CV} (h : Ev W n r H v fun a H1 => Ev W n r H1 s fun b H2 => oM W n H2 a b Q) (hs : autoParam (EZ s = false) aR) : Ev W n r H (.Subscript v s p) Q := og h
theorem E4 (P : PW W) {v s p} {Q : CV} (h : pH W n r 60 v H (Ee W n (pH W n r 60) s Q)) (hs : autoParam (EZ s = false) aR) : Ev W n r H (.Subscript v s p) Q :=
 og (((lN P 60).e h).mono fun a H1 h1 => ((lN P 60).e h1).mono fun b H2 h2 => h2.o)
theorem GE (P : PW W) {t a b p} {Q : CV} (h : Co W n r 60 t H (kIf (fun e H K => Ev W n r H e K) a b Q)) : Ev W n r H (.IfExp t a b p) Q :=
 qh (((lN P 60).t h).mono fun c H1 h1 => h1.o)
theorem E5 (P : PW W) {es k p} {Q : CV} (hs : es.all jE = true) (h : Da W n r 60 es H (EV (GX Q))) : Ev W n r H (.Tuple es k p) Q :=
 sx hs (((lN P 60).l h).mono fun ps H1 h1 => ⟨(uW h1).1, (uW h1).2.o⟩)
theorem Dh (P : PW W) {es p} {Q : CV} (hs : es.all jE = true) (h : Da W n r 60 es H (EW Q)) : Ev W n r H (.List es p) Q :=
 uA hs (((lN P 60).l h).mono fun ps H1 h1 => x4 h1)
theorem E6 (P : PW W) {l op e p} {Q : CV} (h : pH W n r 60 l H (x3 W n (pH W n r 60) op e (GX Q))) (hm : autoParam (behindInMarks op e = false) aR) : Ev W n r H (.Compare l [op] [e] p) Q :=
 m5 (((lN P 60).e h).mono fun a H1 h1 => ((lN P 60).e h1).mono fun b H2 h2 => (uV h2).mono fun _ _ x => x.o) hm
theorem Di (P : PW W) {l op e p} {Q : CB} (h : pH W n r 60 l H (x3 W n (pH W n r 60) op e (kB W n (Ib Q)))) (hm : autoParam (behindInMarks op e = false) aR) : Tv W n r H (.Compare l [op] [e] p) Q :=
 jS (((lN P 60).e h).mono fun a H1 h1 => ((lN P 60).e h1).mono fun b H2 h2 => (uV h2).mono fun c H3 h3 => (show Ah W n H3 c (Ib Q) from Bw h3).mono fun _ _ x => x.o) hm
theorem Dj (P : PW W) {e p} {Q : CB} (h : Co W n r 60 e H (Gp (Ib Q))) : Tv W n r H (.UnaryOp .Not e p) Q := oQ (((lN P 60).t h).mono fun b H1 h1 => h1.o)
theorem BD (P : PW W) {e es} {Q : CL} (h : Da W n r 60 (e :: es) H (kLs Q)) : nR W n r H (e :: es) Q := ((lN P 60).l h).mono fun b H1 h1 => h1.o
end
end
noncomputable def pw (ld : Nat) (L : List Nat) : Nat := (L.map fun x => 2 ^ (x - ld)).sum
theorem BE {i : Nat} : pw i [] = 0 := rfl
theorem oq {i x : Nat} {L : List Nat} : pw i (x :: L) = 2 ^ (x - i) + pw i L := by simp [pw]
theorem rH {i : Nat} : ∀ {L : List Nat}, (∀ x ∈ L, i < x) → pw i L = 2 * pw (i + 1) L
 | [], _ => rfl
 | x :: L, h => by
  rw [oq, oq, rH fun y hy => h y (.tail _ hy)]
  have := h x (.head _)
  rw [show x - i = (x - (i + 1)) + 1 by exact J16 8 this, iq]; exact J16 9
theorem x8 {i : Nat} {L : List Nat} {x : Nat} : pw i (L ++ [x]) = pw i L + 2 ^ (x - i) := by simp [pw]
theorem GF (k : Nat) : fh (k : Int) 1 = ((k % 2 : Nat) : Int) := by
 show ((k &&& 1 : Nat) : Int) = _
 rw [Nat.and_one_is_mod]
theorem GG (k : Nat) : (k : Int).fdiv (2 ^ (1 : Int).toNat) = ((k / 2 : Nat) : Int) := by
 show (k : Int).fdiv 2 = _
 rw [dA _ (by decide)]; lia
variable {W : Wd} {n : Nat} {r : jr} {H : HH} {Q : CV}
theorem E7 (P : PW W) {L : List Nat} (hL : L.Pairwise (· < ·)) (hz : L.length ≤ 64) (h : Q (.lst (oY L)) H) : jX W (n + 1) H (.ref 68) [.int (pw 0 L : Nat)] Q := by
 wtm_at "def"
 kd_p
 intro a
 kd_p
 let I1 : IT jr := fun k Z => ∀ d rest i, k = pw i rest → d ++ rest = L → (∀ x ∈ rest, i ≤ x) → Z [lc "mask" (.int (pw 0 L : Nat)), lc "found" (.ref a), lc "at" (.int (i : Nat)), lc "left" (.int (pw i rest : Nat))] ((a, .lst (oY d)) :: H)
 refine lC I1 _ (fun Z zz => zz [] L 0 rfl rfl (fun _ _ => bF _)) ?_
 rintro k d rest i rfl hd hi
 kd_p
 refine jA.dec (fun hpos => ?_) fun hz => ?_
 ·have hp : 0 < pw i rest := by exact J4 4 hpos
  kd_p
  rw [GF]
  have hpw : rest.Pairwise (· < ·) := (bG.mp (hd ▸ hL)).2.1
  have key : (∃ r', rest = i :: r' ∧ pw i rest = 2 * pw (i + 1) r' + 1 ∧ ∀ x ∈ r', i + 1 ≤ x) ∨ (pw i rest = 2 * pw (i + 1) rest ∧ ∀ x ∈ rest, i + 1 ≤ x) := by
   cases rest with
   | nil => exact absurd hp (by simp [pw])
   | cons x r' =>
    rw [cj] at hpw
    by_cases e : x = i
    ·subst e
     exact .inl ⟨r', rfl, by rw [oq, rH hpw.1]; simp; exact J16 10, hpw.1⟩
    ·have h0 := hi x (.head _)
     have : ∀ y ∈ x :: r', i < y := fun y hy => by
      rcases au.mp hy with rfl | hy
      ·exact J2 15 h0 e
      ·have := hpw.1 y hy; exact J4 2 h0 this
     exact .inr ⟨rH this, this⟩
  refine jA.dec (fun ho => ?_) fun he => ?_
  ·obtain ⟨r', rfl, e1, e2⟩ | ⟨e1, e2⟩ := key
   ·kd_p
    ·rw [GG]
     kd_p
     refine jv.nx (by kd_all) ⟨_, ?_, Of.eq ?_ (Of.eqH (by simp) (fun Z zz => zz (d ++ [i]) r' (i + 1) rfl (by rw [← hd]; simp) e2))⟩
     ·exact J16 11 e1
     ·rw [e1, show (2 * pw (i + 1) r' + 1) / 2 = pw (i + 1) r' by lia]; rfl
    ·simp only [aa]; rw [am]; rw [← hd] at hz; simp at hz; exact J16 12 hz
   ·lia
  ·obtain ⟨r', rfl, e1, e2⟩ | ⟨e1, e2⟩ := key
   ·lia
   ·kd_p
    rw [GG]
    kd_p
    refine jv.nx (by kd_all) ⟨_, ?_, Of.eq ?_ (fun Z zz => zz d rest (i + 1) rfl hd e2)⟩
    ·exact J16 13 e1 hpos
    ·rw [e1, show (2 * pw (i + 1) rest) / 2 = pw (i + 1) rest by lia]; rfl
 ·kd_p1
  exists jP (lg ?_)
  refine ⟨a, _, _, rfl, rfl, ?_⟩
  have : rest = [] := by
   cases rest with
   | nil => rfl
   | cons x r' => rw [oq] at hz; have := iV (x - i); lia
  subst this
  rw [bl] at hd
  rw [hd]; exact h
theorem GH {x : Nat} : ∀ {L : List Nat}, L.Pairwise (· < ·) → (∀ y ∈ L, y < x) → pw 0 L < 2 ^ x := by
 intro L
 induction x generalizing L with
 | zero => intro h1 h2; cases L with
  | nil => exact Nat.one_pos
  | cons y L => exact absurd (h2 y (.head _)) (by exact J16 14)
 | succ x ih =>
  intro h1 h2
  rcases cA L with rfl | ⟨L', y, rfl⟩
  ·exact iV _
  ·rw [cB] at h1 h2 ⊢
   rw [x8]
   have h3 := bG.mp h1
   have h4 : ∀ z ∈ L', z < y := fun z hz => h3.2.2 z hz y (by simp)
   have h5 := h2 y (by simp)
   have h6 : pw 0 L' < 2 ^ x := ih h3.1 fun z hz => by have := h4 z hz; exact J16 15 this h5
   have h7 : 2 ^ (y - 0) ≤ 2 ^ x := Nat.pow_le_pow_right (by decide) (by exact J16 16 h5)
   rw [iq]; exact J16 17 h7 h6
theorem za (a b : Nat) : eC (a : Int) (b : Int) = ((a ||| b : Nat) : Int) := by
 unfold eC fh
 have h1 : decide (0 ≤ cV (a : Int)) = false := by unfold cV; exact decide_eq_false (by exact J6 23)
 have h2 : decide (0 ≤ cV (b : Int)) = false := by unfold cV; exact decide_eq_false (by exact J6 23)
 rw [h1, h2]
 have e : ∀ c : Int, cV (cV c) = c := fun c => by unfold cV; exact J16 18
 simp only [e, ag]
theorem E9 {a x : Nat} (h : a < 2 ^ x) : eC (a : Int) (1 * 2 ^ (x : Int).toNat) = ((a + 2 ^ (x - 0) : Nat) : Int) := by
 have e : (1 * 2 ^ (x : Int).toNat : Int) = ((2 ^ x : Nat) : Int) := by simp
 rw [e]
 rw [za]
 have := Nat.two_pow_add_eq_or_of_lt h 1
 rw [Nat.mul_one] at this
 rw [Nat.or_comm, ← this, Nat.add_comm]; rfl
theorem zb (P : PW W) {L : List Nat} (hL : L.Pairwise (· < ·)) (hz : ∀ x ∈ L, x < 64) (h : Q (.int (pw 0 L : Nat)) H) : jX W (n + 1) H (.ref 75) [.lst (oY L)] Q := by
 wtm_at "def"
 kd_p
 exists m7 (tt := false) (fun h => nomatch h) (jN ?_)
 let I2 : IT jr := fun i Z => Z [lc "numbers" (.lst (oY L)), lc "mask" (.int (pw 0 (L.take i) : Nat)), lu "number"] H
 refine ⟨_, rfl, uI.T I2 (fun Z zz => zz) ?_ ?_⟩
 ·rintro i x hx
  rw [ax] at hx
  obtain ⟨y, hy, rfl⟩ := bc.mp hx
  exists m6 (by kd_in) ?_
  have hy64 := hz y (aS hy)
  exists Eu (by exact J0 0) (by exact J16 19 hy64) (by decide) ?_
  have hsp : L = L.take i ++ y :: L.drop (i + 1) := by
   have h1 := (aA.mp hy)
   obtain ⟨h1, h2⟩ := h1
   rw [← h2, bY, bS]
  have hp := bG.mp (hsp ▸ hL)
  have hlt : pw 0 (L.take i) < 2 ^ y := GH hp.1 fun z hz => hp.2.2 z hz y (.head _)
  rw [E9 hlt, ← x8, show L.take i ++ [y] = L.take (i + 1) by rw [a7, hy]; rfl]
  exact jv.nx (by kd_all) (fun Z zz => zz)
 ·show lj _ _ _ _ _ _
  kd_p
  rw [aa, aZ]
  exact h
noncomputable abbrev jL := List (Int × Int)
noncomputable abbrev jU (d : jL) : PV := .dct (Dk .int d)
noncomputable abbrev jW (R : List jL) : PV := .lst (R.map jU)
noncomputable def qO (d : jL) : Prop := (d.map ai).Pairwise (· < ·)
theorem qO.nodup {d : jL} (h : qO d) : (d.map ai).Nodup := h.imp fun h => by exact J21 11 h
theorem rb {L : List Int} (h : L.Pairwise (· < ·)) : srt L = L := (sW (List.Perm.refl _) (h.imp fun h => by exact J2 10 h)).symm
theorem qO.get {d : jL} (h : qO d) {p : Int × Int} (hp : p ∈ d) : jz d p.1 = some p.2 := pZ h.nodup hp
theorem jK {α : Type} {L : List α} {i : Nat} {d : α} (h : i < L.length) : L[i]? = some (L.getD i d) := by
 rw [aL, aG h]; rfl
theorem jp {α : Type} {L : List α} {i : Nat} {d : α} (h : i < L.length) : L.getD i d ∈ L := aS (jK h)
theorem tf {L : List Nat} {x : Nat} : oY L ++ [PV.int (x : Int)] = oY (L ++ [x]) := by simp
theorem oZ {L : List Int} {x : Int} : jn L ++ [PV.int x] = jn (L ++ [x]) := by simp
theorem qz {L : List Int} {i : Nat} {x : Int} : (jn L).set i (PV.int x) = jn (L.set i x) := by simp
theorem pB {L : List Int} {i : Nat} {x : Int} (h : L[i]? = some x) : (jn L)[i]? = some (PV.int x) := by rw [ax, h]; rfl
theorem x9 {L : List Nat} {i : Nat} {x : Nat} (h : L[i]? = some x) : (oY L)[i]? = some (PV.int x) := by rw [ax, h]; rfl
theorem Eg {L : List Nat} : oY L = jn (L.map fun (x : Nat) => (x : Int)) := by simp
noncomputable def km (R : List jL) : List Nat := R.map fun d => R.idxOf d
theorem jJ {R} : (km R).length = R.length := by simp [km]
noncomputable def mO (R : List jL) (i : Nat) : Bool := decide (R.idxOf (R.getD i []) = i) && decide (0 < (R.getD i []).length)
noncomputable def rc (R : List jL) (i : Nat) : Int × Int := (-((R.getD i []).length : Int), (i : Int))
noncomputable def o0 (R : List jL) : List (Int × Int) := ((av R.length).filter (mO R)).map (rc R)
theorem o4 {R} : (o0 R).length ≤ R.length := by
 unfold o0; rw [aa]; exact bj (bm _ _) (by simp)
noncomputable def jo (R : List jL) : List Int := (nz (o0 R)).map bB
noncomputable abbrev Hd := List (Int × (Int × Int))
noncomputable def hfree (h : Hd) (c : Int) : Bool := (jz h c).isNone
noncomputable def pI (h : Hd) (m : Nat) : List Int := (av m).map fun (c : Nat) => ((jz h (c : Int)).getD (0, 0)).1
noncomputable def o5 (h : Hd) (m : Nat) : List Int := (av m).map fun (c : Nat) => ((jz h (c : Int)).getD (0, 0)).2
theorem kL {h m} : (pI h m).length = m := by simp [pI]
theorem ku {h m} : (o5 h m).length = m := by simp [o5]
structure lO (h : Hd) (m : Nat) : Prop where
 low : ∀ p ∈ h, 0 ≤ p.1
 high : ∀ p ∈ h, p.1 < (m : Int)
 mark : ∀ p ∈ h, p.2.2 ≠ 0
theorem lO.nil : lO [] 0 := ⟨by simp, by simp, by simp⟩
theorem ls {α : Type} {d : List (Int × α)} {k : Int} {x : α} (h : jz d k = some x) : (k, x) ∈ d := by
 unfold jz at h
 obtain ⟨p, hp, rfl⟩ := bc.mp h
 have h1 := gy hp
 have h2 := fD hp
 simp at h1; rw [← h1]; exact h2
theorem lE {α : Type} {d : List (Int × α)} {k : Int} : jz d k = none ↔ k ∉ d.map ai := by
 unfold jz
 rw [Option.map_eq_none_iff, dQ, az]
 constructor
 ·rintro h ⟨p, hp, rfl⟩; exact h p hp (by simp)
 ·intro h p hp e; exact h ⟨p, hp, by simpa using e⟩
theorem rd {α : Type} {d : List (Int × α)} {k : Int} : (jz d k).isSome = true ↔ k ∈ d.map ai := by
 cases h : jz d k with
 | none => simp only [Option.isSome_none, cg, false_iff]; exact lE.mp h
 | some x => simp only [hV, true_iff]; exact aO (f := ai) (ls h)
theorem m3 {α : Type} {d : List (Int × α)} {k j : Int} {x : α} : jz (dset d k x) j = if j = k then some x else jz d j := by
 unfold dset
 split
 ·rename_i h
  unfold jz
  rw [List.find?_map]
  by_cases e : j = k
  ·subst e
   rw [if_pos rfl]
   have : ((fun p : Int × α => decide (p.1 = j)) ∘ fun p : Int × α => if p.1 = j then (p.1, x) else p) = fun p => decide (p.1 = j) := by
    funext p; simp only [cI]; split <;> simp_all
   rw [this]
   cases hf : d.find? (fun p => decide (p.1 = j)) with
   | none =>
    rw [dQ] at hf
    obtain ⟨p, hp, hq⟩ := bN.mp h
    exact absurd hq (hf p hp)
   | some p => have := gy hf; simp at this; simp [this]
  ·rw [if_neg e]
   have : ((fun p : Int × α => decide (p.1 = j)) ∘ fun p : Int × α => if p.1 = k then (p.1, x) else p) = fun p => decide (p.1 = j) := by
    funext p; simp only [cI]; split <;> simp_all
   rw [this]
   cases hf : d.find? (fun p => decide (p.1 = j)) with
   | none => rfl
   | some p =>
    have := gy hf; simp at this
    simp [this, e]
 ·rename_i h
  unfold jz
  rw [d9]
  have hn : ∀ p ∈ d, p.1 ≠ k := fun p hp e => h (bN.mpr ⟨p, hp, by simp [e]⟩)
  by_cases e : j = k
  ·subst e
   rw [if_pos rfl]
   have : d.find? (fun p => decide (p.1 = j)) = none := dQ.mpr fun p hp => by simp [hn p hp]
   rw [this]; simp
  ·rw [if_neg e]
   have : [(k, x)].find? (fun p => decide (p.1 = j)) = none := by
    rw [dQ]; intro p hp; simp at hp; subst hp; simpa using fun q => e q.symm
   rw [this, Option.or_none]
theorem o6 {α : Type} {d : List (Int × α)} {k : Int} {x : α} (h : jz d k = none) : dset d k x = d ++ [(k, x)] := by
 unfold dset
 rw [if_neg]
 intro q
 obtain ⟨p, hp, e⟩ := bN.mp q
 exact lE.mp h (az.mpr ⟨p, hp, by simpa using e⟩)
theorem lO.get0 {h m} (x : lO h m) {c : Int} (hc : c < 0 ∨ (m : Int) ≤ c) : jz h c = none := by
 cases e : jz h c with
 | none => rfl
 | some v =>
  have h1 := x.low _ (ls e)
  have h2 := x.high _ (ls e)
  simp only at h1 h2
  lia
theorem th {h : Hd} {m i : Nat} (hi : i < m) : (o5 h m)[i]? = some ((jz h (i : Int)).getD (0, 0)).2 := by
 unfold o5; rw [ax, b8 hi]; rfl
theorem uX {h : Hd} {m i : Nat} (hi : i < m) : (pI h m)[i]? = some ((jz h (i : Int)).getD (0, 0)).1 := by
 unfold pI; rw [ax, b8 hi]; rfl
theorem lO.free {h m} (x : lO h m) {c : Int} : (((jz h c).getD (0, 0)).2 = 0) ↔ hfree h c = true := by
 unfold hfree
 cases e : jz h c with
 | none => simp
 | some v => simp only [cK, Option.isNone_some, cg, iff_false]; exact x.mark _ (ls e)
noncomputable def mP (h : Hd) (cols : List Int) (b : Int) : Bool := cols.all fun c => hfree h (b + c)
noncomputable def pJ (h : Hd) (cols : List Int) : Nat → Int → Int
 | 0, b => b
 | k + 1, b => if mP h cols b then b else pJ h cols k (b + 1)
noncomputable def place (h : Hd) (m : Nat) (cols : List Int) : Int := pJ h cols m (-(cols.headD 0))
theorem uY {h m cols} (x : lO h m) {b : Int} (hb : ∀ c ∈ cols, (m : Int) ≤ b + c) : mP h cols b = true := by
 unfold mP
 rw [a8]
 intro c hc
 unfold hfree; rw [x.get0 (.inr (hb c hc))]; rfl
theorem ya {h cols} : ∀ {k : Nat} {b : Int}, b ≤ pJ h cols k b
 | 0, b => iO _
 | k + 1, b => by
  unfold pJ; split
  ·exact iO _
  ·exact eU (by exact J2 23) (ya (k := k) (b := b + 1))
theorem yc {h cols} : ∀ {k : Nat} {b : Int}, pJ h cols k b ≤ b + k
 | 0, b => by unfold pJ; exact J0 18
 | k + 1, b => by
  unfold pJ; split
  ·exact J21 12
  ·have := yc (h := h) (cols := cols) (k := k) (b := b + 1); exact J21 13 this
theorem ui {h cols} : ∀ {k : Nat} {b : Int}, mP h cols (b + k) = true → mP h cols (pJ h cols k b) = true
 | 0, b, e => by unfold pJ; simpa using e
 | k + 1, b, e => by
  unfold pJ; split
  ·assumption
  ·exact ui (by rw [show b + 1 + (k : Int) = b + ((k + 1 : Nat) : Int) by exact J21 14]; exact e)
noncomputable def hput (h : Hd) (b : Int) (o : Int) (row : jL) : Hd := row.foldl (fun h p => dset h (b + p.1) (p.2, o)) h
theorem nZ {h b o p row} : hput h b o (p :: row) = hput (dset h (b + p.1) (p.2, o)) b o row := rfl
theorem uj {h b o p row} : hput h b o (row ++ [p]) = dset (hput h b o row) (b + p.1) (p.2, o) := by simp [hput]
theorem BF {h m m'} (x : lO h m) (hm : m ≤ m') : pI h (m' + 1) = pI h m' ++ [0] := by
 unfold pI; rw [bA, aJ]
 simp [x.get0 (c := (m' : Int)) (.inr (by exact J8 12 hm))]
theorem BG {h m m'} (x : lO h m) (hm : m ≤ m') : o5 h (m' + 1) = o5 h m' ++ [0] := by
 unfold o5; rw [bA, aJ]
 simp [x.get0 (c := (m' : Int)) (.inr (by exact J8 12 hm))]
theorem Dl {h : Hd} {m j : Nat} {v o : Int} (hj : j < m) : (pI h m).set j v = pI (dset h (j : Int) (v, o)) m := by
 apply dy
 intro i
 by_cases hi : i < m
 ·rw [uX hi, m3]
  by_cases e : i = j
  ·subst e; rw [dg (by rw [kL]; exact hi), if_pos rfl]; rfl
  ·rw [dB (fun q => e q.symm), uX hi, if_neg (by exact J8 13 e)]
 ·rw [a9 (by rw [eL, kL]; exact J1 0 hi), a9 (by rw [kL]; exact J1 0 hi)]
theorem Dm {h : Hd} {m j : Nat} {v o : Int} (hj : j < m) : (o5 h m).set j o = o5 (dset h (j : Int) (v, o)) m := by
 apply dy
 intro i
 by_cases hi : i < m
 ·rw [th hi, m3]
  by_cases e : i = j
  ·subst e; rw [dg (by rw [ku]; exact hi), if_pos rfl]; rfl
  ·rw [dB (fun q => e q.symm), th hi, if_neg (by exact J8 13 e)]
 ·rw [a9 (by rw [eL, ku]; exact J1 0 hi), a9 (by rw [ku]; exact J1 0 hi)]
theorem BH {α : Type} {d : List (Int × α)} {k : Int} {x : α} {p : Int × α} (h : p ∈ dset d k x) : p = (k, x) ∨ p ∈ d := by
 unfold dset at h
 split at h
 ·obtain ⟨q, hq, rfl⟩ := az.mp h
  by_cases e : q.1 = k
  ·rw [if_pos e]; left; rw [← e]
  ·rw [if_neg e]; exact .inr hq
 ·rcases aQ.mp h with h | h
  ·exact .inr h
  ·left; simpa using h
theorem lO.mono {h m m'} (x : lO h m) (hm : m ≤ m') : lO h m' := ⟨x.low, fun p hp => by have := x.high p hp; exact J21 15 hm this, x.mark⟩
theorem lO.dset {h m} (x : lO h m) {k : Int} {v : Int × Int} (h0 : 0 ≤ k) (h1 : k < m) (hv : v.2 ≠ 0) : lO (dset h k v) m := by
 refine ⟨fun p hp => ?_, fun p hp => ?_, fun p hp => ?_⟩ <;> rcases BH hp with rfl | hp
 ·exact h0
 ·exact x.low p hp
 ·exact h1
 ·exact x.high p hp
 ·exact hv
 ·exact x.mark p hp
theorem lO.hput {m} {b o : Int} (ho : o ≠ 0) : ∀ {row : jL} {h : Hd}, lO h m → (∀ p ∈ row, 0 ≤ b + p.1 ∧ b + p.1 < m) → lO (hput h b o row) m
 | [], _, x, _ => x
 | p :: row, h, x, hr => by
  rw [nZ]
  exact lO.hput ho (x.dset (hr p (.head _)).1 (hr p (.head _)).2 ho) fun q hq => hr q (.tail _ hq)
theorem BI {c : Int} {cols : List Int} (h : (c :: cols).Pairwise (· < ·)) : ∀ x ∈ c :: cols, c ≤ x := fun x hx => by
 rw [cj] at h
 rcases au.mp hx with rfl | hx
 ·exact iO _
 ·have := h.1 x hx; exact J2 10 this
structure rV (cols : List Int) : Prop where
 srt : cols.Pairwise (· < ·)
 ne : cols ≠ []
 low : ∀ c ∈ cols, 0 ≤ c
 high : ∀ c ∈ cols, c < 64
theorem rV.head {cols} (x : rV cols) : ∀ c ∈ cols, cols.headD 0 ≤ c := by
 cases cols with
 | nil => exact absurd rfl x.ne
 | cons c cols => exact BI x.srt
theorem rV.headm {cols} (x : rV cols) : cols.headD 0 ∈ cols := by
 cases cols with
 | nil => exact absurd rfl x.ne
 | cons c cols => exact .head _
theorem qA {h m cols} : -(cols.headD 0) ≤ place h m cols := ya
theorem vU {h m cols} : place h m cols ≤ -(cols.headD 0) + m := yc
theorem wQ {h m cols} (x : lO h m) (y : rV cols) : mP h cols (place h m cols) = true :=
 ui (uY x fun c hc => by have := y.head c hc; exact J21 16 this)
noncomputable def mQ (cols : List Int) : Int := cols.getLastD 0
theorem rV.last {cols} (x : rV cols) : ∀ c ∈ cols, c ≤ mQ cols := by
 rcases cA cols with rfl | ⟨L, y, rfl⟩
 ·exact absurd rfl x.ne
 ·intro c hc
  have := x.srt
  rw [cB] at hc this ⊢
  unfold mQ
  rw [eH]
  rcases aQ.mp hc with hc | hc
  ·have := (bG.mp this).2.2 c hc y (by simp); exact J2 10 this
  ·simp at hc; exact J8 14 hc
theorem rV.lastm {cols} (x : rV cols) : mQ cols ∈ cols := by
 rcases cA cols with rfl | ⟨L, y, rfl⟩
 ·exact absurd rfl x.ne
 ·unfold mQ; rw [cB, eH]; simp
theorem uZ {cols : List Int} (h : cols ≠ []) : cols[((-1 : Int) + cols.length).toNat]? = some (mQ cols) := by
 rcases cA cols with rfl | ⟨L, y, rfl⟩
 ·exact absurd rfl h
 ·unfold mQ; rw [cB, eH]
  have : ((-1 : Int) + (L ++ [y]).length).toNat = L.length := by simp; exact J8 5
  rw [this]; simp
structure o7 (d : jL) : Prop where
 srt : qO d
 low : ∀ p ∈ d, 0 ≤ p.1
 high : ∀ p ∈ d, p.1 < 64
 len : d.length < 64
theorem o7.cols {d : jL} (x : o7 d) (h : d ≠ []) : rV (d.map ai) :=
 ⟨x.srt, fun e => h (eP.mp e), fun c hc => by obtain ⟨p, hp, rfl⟩ := az.mp hc; exact x.low p hp, fun c hc => by obtain ⟨p, hp, rfl⟩ := az.mp hc; exact x.high p hp⟩
structure jZ (R : List jL) : Prop where
 row : ∀ d ∈ R, o7 d
 len : R.length < 64
structure St where
 h : Hd
 m : Nat
 b : List Int
noncomputable def kn (R : List jL) (st : St) (num : Int) : St :=
 ⟨hput st.h (place st.h st.m ((R.getD num.toNat []).map ai)) (num + 1) (R.getD num.toNat []), max st.m (place st.h st.m ((R.getD num.toNat []).map ai) + mQ ((R.getD num.toNat []).map ai) + 1).toNat, st.b.set num.toNat (place st.h st.m ((R.getD num.toNat []).map ai))⟩
noncomputable def kd (R : List jL) (L : List Int) : St := L.foldl (kn R) ⟨[], 0, bd R.length 0⟩
theorem lW {R L num} : kd R (L ++ [num]) = kn R (kd R L) num := by simp [kd]
noncomputable def jt (R : List jL) : St := kd R (jo R)
noncomputable def kk (R : List jL) : List Int := (km R).map fun o => (jt R).b.getD o 0
noncomputable def lP (R : List jL) : List Int := pI (jt R).h (jt R).m
noncomputable def jQ (R : List jL) : List Int := o5 (jt R).h (jt R).m
theorem lF {R : List jL} {num : Int} (h : num ∈ jo R) : 0 ≤ num ∧ num.toNat < R.length ∧ R.getD num.toNat [] ≠ [] ∧ R.idxOf (R.getD num.toNat []) = num.toNat := by
 unfold jo at h
 obtain ⟨p, hp, rfl⟩ := az.mp h
 have hp := (ki _).mem_iff.mp hp
 unfold o0 at hp
 obtain ⟨i, hi, rfl⟩ := az.mp hp
 obtain ⟨hi, hk⟩ := bz.mp hi
 rw [aM] at hi
 unfold mO at hk
 simp only [aX, decide_eq_true_eq] at hk
 refine ⟨by simp [rc], by simpa [rc] using hi, ?_, by simpa [rc] using hk.1⟩
 intro e
 have := hk.2
 simp only [rc, ag] at e
 rw [e] at this; simp at this
structure mI (R : List jL) (st : St) (i : Nat) : Prop where
 ok : lO st.h st.m
 m : st.m ≤ 64 * i
 len : st.b.length = R.length
theorem mI.zero {R} : mI R (kd R []) 0 := ⟨lO.nil, aU _, by simp [kd]⟩
theorem mI.step {R : List jL} {st : St} {i : Nat} (x : mI R st i) (hR : jZ R) {num : Int} (h : num ∈ jo R) : mI R (kn R st num) (i + 1) := by
 obtain ⟨h0, h1, h2, _⟩ := lF h
 have hr := hR.row _ (jp (d := ([] : jL)) h1)
 have y := hr.cols h2
 have hge := qA (h := st.h) (m := st.m) (cols := (R.getD num.toNat []).map ai)
 have hle := vU (h := st.h) (m := st.m) (cols := (R.getD num.toNat []).map ai)
 have hl0 := y.head _ y.lastm
 have hl1 := y.high _ y.lastm
 have hc0 := y.low _ y.headm
 refine ⟨lO.hput (by exact J21 17 h0) (x.ok.mono (by unfold kn; simp only; exact J21 18)) fun p hp => ?_, ?_, by unfold kn; simp only [eL]; exact x.len⟩
 ·have h1 := y.head p.1 (aO (f := ai) hp)
  have h2 := y.last p.1 (aO (f := ai) hp)
  unfold kn; simp only; lia
 ·have := x.m
  unfold kn; simp only; lia
theorem mI.take {R : List jL} (hR : jZ R) : ∀ i ≤ (jo R).length, mI R (kd R ((jo R).take i)) i
 | 0, _ => by rw [ca]; exact mI.zero
 | i + 1, hi => by
  rw [a7, aG (by exact J1 17 hi), cm, lW]
  exact (mI.take hR i (by exact J0 9 hi)).step hR (bJ _)
theorem pC {R : List jL} : (jo R).length ≤ R.length := by
 unfold jo; rw [aa, (ki _).length_eq]; exact o4
theorem mI.all {R : List jL} (hR : jZ R) : mI R (jt R) R.length := by
 have := mI.take hR (jo R).length (aU _)
 rw [aZ] at this
 have hl := pC (R := R)
 exact ⟨this.ok, by have := this.m; show (kd R (jo R)).m ≤ _; exact J21 19 hl this, this.len⟩
theorem nM {R} : (kk R).length = R.length := by unfold kk; rw [aa, jJ]
theorem wR {R : List jL} {i : Nat} (h : i ∈ km R) : i < R.length := by
 unfold km at h
 obtain ⟨d, hd, rfl⟩ := az.mp h
 exact bW hd
noncomputable def vV : Option Int → PV
 | none => .none
 | some x => .int x
noncomputable def lG (b : Int) (T C : List Int) (o col : Int) : Option Int :=
 if b + col < 0 then none else match C[(b + col).toNat]? with
  | some k => if k = o + 1 then T[(b + col).toNat]? else none
  | none => none
noncomputable abbrev wz (B T C O : List Int) : PV := .ins "PackedRows" [("bases", .lst (jn B)), ("table", .lst (jn T)), ("check", .lst (jn C)), ("owners", .lst (jn O))]
noncomputable abbrev oI (L : List Nat) : List Int := L.map fun (x : Nat) => (x : Int)
noncomputable def jw (B T C : List Int) (j : Int) (c : Nat) : jL := (av c).filterMap fun i => if C.getD i 0 = j + 1 then some ((i : Int) - B.getD j.toNat 0, T.getD i 0) else none
noncomputable def lV (B T C O : List Int) : List jL := O.map fun o => jw B T C o C.length
structure yd (B T C O : List Int) : Prop where
 bo : B.length = O.length
 tc : T.length = C.length
 own : ∀ o ∈ O, 0 ≤ o ∧ o < O.length
 chk : ∀ k ∈ C, 0 ≤ k ∧ k ≤ O.length
 ol : O.length < 64
 cl : C.length ≤ 5000
theorem mZ {B T C j c} : jw B T C j (c + 1) = jw B T C j c ++ if C.getD c 0 = j + 1 then [((c : Int) - B.getD j.toNat 0, T.getD c 0)] else [] := by
 unfold jw
 rw [bA, List.filterMap_append]
 congr 1
 simp only [iZ]
 by_cases e : C.getD c 0 = j + 1
 ·rw [if_pos e, if_pos e]
 ·rw [if_neg e, if_neg e]
theorem qB {B T C j c} : ∀ p ∈ jw B T C j c, p.1 < (c : Int) - B.getD j.toNat 0 := fun p hp => by
 unfold jw at hp
 obtain ⟨i, hi, e⟩ := fq.mp hp
 rw [aM] at hi
 split at e
 ·cases e; simp only; exact J21 20 hi
 ·cases e
theorem mJ {B T C j} : ∀ {c : Nat}, qO (jw B T C j c)
 | 0 => by unfold jw qO; simp
 | c + 1 => by
  rw [mZ]
  split
  ·unfold qO
   rw [aJ, bG]
   refine ⟨mJ, by simp, fun a ha b hb => ?_⟩
   obtain ⟨p, hp, rfl⟩ := az.mp ha
   simp at hb; subst hb
   exact qB p hp
  ·rw [bl]; exact mJ
theorem nC {B T C j c} : (jw B T C j c).length ≤ c := by
 have := fS (fun i => if C.getD i 0 = j + 1 then some ((i : Int) - B.getD j.toNat 0, T.getD i 0) else none) (av c)
 rw [aq] at this; exact this
noncomputable def dS (Ds : List jL) : List HO := Ds.map fun d => HO.dct (Dk .int d)
theorem m4 {Ds} : (dS Ds).length = Ds.length := by simp [dS]
noncomputable def nf (B T C : List Int) (N c : Nat) : List jL := (av N).map fun (j : Nat) => jw B T C (j : Int) c
theorem ot {B T C N c} : (nf B T C N c).length = N := by simp [nf]
theorem qC {B T C N c j} (h : j < N) : (nf B T C N c)[j]? = some (jw B T C (j : Int) c) := by
 unfold nf; rw [ax, b8 h]; rfl
theorem ye {Ds : List jL} {j : Nat} {d : jL} (h : Ds[j]? = some d) : (dS Ds)[j]? = some (HO.dct (Dk .int d)) := by unfold dS; rw [ax, h]; rfl
theorem wS {B T C N} : nf B T C N 0 = bd N [] := by
 unfold nf jw; simp [gz]
theorem wT {B T C N c} (h : C.getD c 0 = 0) : nf B T C N (c + 1) = nf B T C N c := by
 unfold nf
 refine bQ fun j _ => ?_
 rw [mZ, if_neg (by exact J21 21 h), bl]
theorem ze {B T C : List Int} {N c j : Nat} (hj : j < N) (h : C.getD c 0 = (j : Int) + 1) : (dS (nf B T C N c)).set j (HO.dct (Dk .int (dset (jw B T C (j : Int) c) ((c : Int) - B.getD j 0) (T.getD c 0)))) = dS (nf B T C N (c + 1)) := by
 have hd : dset (jw B T C (j : Int) c) ((c : Int) - B.getD j 0) (T.getD c 0) = jw B T C (j : Int) (c + 1) := by
  rw [mZ, if_pos h, ag]
  refine o6 (lE.mpr fun q => ?_)
  obtain ⟨p, hp, e⟩ := az.mp q
  have := qB p hp
  rw [ag] at this; exact J21 22 this e
 rw [hd]
 apply dy
 intro i
 by_cases hi : i < N
 ·rw [ye (qC hi)]
  by_cases e : i = j
  ·subst e; rw [dg (by rw [m4, ot]; exact hi)]
  ·rw [dB (fun q => e q.symm), ye (qC hi), mZ, if_neg (by exact J21 23 e h), bl]
 ·rw [a9 (by rw [eL, m4, ot]; exact J1 0 hi), a9 (by rw [m4, ot]; exact J1 0 hi)]
theorem zg (P : PW W) {d : jL} (hd : qO d) (hz : d.length < 64) (h : Q (.tup (d.map kW)) H) : jX W (n + 1) H (.ref 237) [jU d] Q := by
 wtm_at "def"
 kd_p
 exists kq kW (by wtm_at "hcap") (jN (lg (lr P (by kd_mem) ?_)))
 refine lB Vw.refl hz fun a => ⟨a, _, _, rfl, rfl, _, rfl, _, d, fun p => .int p.1, by wtm_at "crho", ?_, ?_, fun p hp => ⟨_, by kd_in, ?_⟩, ?_⟩
 ·rw [rb hd, aW]; rfl
 ·rw [am]; exact J0 5 hz
 ·kd_p
  exists mv Vw.refl (hd.get hp) ?_
  exact rfl
 ·kd_p
  refine AX Vw.refl (by rw [aa, am]; exact J0 5 hz) h
theorem zh {α : Type} [BEq α] [LawfulBEq α] {R : List α} {i : Nat} {k : α} (h : R[i]? = some k) (hn : k ∉ R.take i) : R.idxOf k = i := by
 obtain ⟨hi, e⟩ := aA.mp h
 have hsp : R = R.take i ++ k :: R.drop (i + 1) := by rw [← e, bY, bS]
 rw [hsp, ir, if_neg (by simpa using hn), List.idxOf_cons_self]
 simp; exact J27 7 hi
theorem o8 (P : PW W) {R : List jL} (hs : ∀ d ∈ R, qO d) (hz : ∀ d ∈ R, d.length < 64) (hR : R.length < 64) (h : Q (.lst (oY (km R))) H) : jX W (n + 2) H (.ref 244) [jW R] Q := by
 wtm_at "def"
 kd_p
 intro af
 kd_p
 intro ao
 kd_p
 exists jG ?_
 ·let I1 : IT jr := fun i Z => ∀ d : List (KP × Int), d.length ≤ i → (∀ k, qu d k = if k ∈ R.take i then some ((R.idxOf k : Nat) : Int) else none) → Z [lc "rows" (jW R), lc "firsts" (.ref af), lc "owners" (.ref ao), lu "number", lu "key", gb "range", gb "len", gb "row_key"] ((ao, .lst (oY ((km R).take i))) :: (af, .dct (wx d)) :: H)
  refine ⟨R.length, by rw [aa], by exact J0 22 hR, I1, fun Z zz => zz [] (by simp) (fun k => by simp [qu]), ?_, ?_⟩
  ·rintro i hi d hl hd
   have hk : R[i]? = some R[i] := aG hi
   have hmem : R[i] ∈ R := bJ hi
   refine ⟨_, by kd_in, ?_⟩
   exists jl (jB rfl (nv P (by kd_mem) ?_))
   refine jx (x := jU R[i]) Vw.refl (by exact J0 0) (by rw [ag, ax, hk]; rfl) (by exact J1 4 hi hR) ?_
   kd_p
   exists zg P (hs _ hmem) (hz _ hmem) ?_
   refine EI (.dct (by kd_mem)) ?_
   rw [hd]
   have hown : (km R).take i ++ [R.idxOf R[i]] = (km R).take (i + 1) := by
    rw [a7]; congr 1; unfold km; rw [ax, hk]; rfl
   by_cases hin : R[i] ∈ R.take i
   ·rw [if_pos hin]
    kd_p
    exists jA.ff ?_
    exists Be (.dct (by kd_mem)) (by rw [hd, if_pos hin]) ?_
    ·rw [tf, hown]
     refine jv.nx (by kd_all) (fun Z zz => zz d (by exact J9 15 hl) (fun k => ?_))
     rw [hd, a7, hk, cm]; simp only [aQ, aP]
     by_cases e : k = R[i]
     ·rw [e, if_pos hin, if_pos (.inl hin)]
     ·simp [e]
    ·rw [aa, bg, jJ, am]; exact J9 16 hR
   ·rw [if_neg hin]
    have hidx : R.idxOf R[i] = i := zh hk hin
    kd_p
    exists jA.tt ?_
    refine EJ rfl (by rw [hd, if_neg hin]) (by wtm_at "updh") (by rw [am]; exact J4 0 hl hi hR) ?_
    have hd' : ∀ k, qu (d ++ [(R[i], (i : Int))]) k = if k ∈ R.take (i + 1) then some ((R.idxOf k : Nat) : Int) else none := fun k => by
     rw [a7, hk, cm]; simp only [aQ, aP]
     have : qu (d ++ [(R[i], (i : Int))]) k = (qu d k).or (if R[i] = k then some (i : Int) else none) := by
      unfold qu; rw [d9]
      cases d.find? (fun p => decide (p.1 = k)) with
      | some p => rfl
      | none => by_cases e : R[i] = k <;> simp [e]
     rw [this, hd]
     by_cases e : R[i] = k
     ·subst e
      rw [if_neg hin, if_pos rfl, if_pos (.inr rfl), hidx]; rfl
     ·have e' : ¬ k = R[i] := fun q => e q.symm
      rw [if_neg e]
      by_cases h : k ∈ R.take i <;> simp [h, e']
    kd_p
    refine Be (i := i) (.dct (by kd_mem)) (by rw [hd', if_pos (by rw [a7, hk]; exact cy _ (.head _)), hidx]) ?_
    kd_p
    ·rw [tf, show (km R).take i ++ [i] = (km R).take (i + 1) by rw [← hown, hidx]]
     exact jv.nx (by kd_all) (fun Z zz => zz _ (by rw [ce]; simp; exact J7 17 hl) hd')
    ·rw [aa, bg, jJ, am]; exact J9 16 hR
  ·rintro d hl hd
   rw [show (km R).take R.length = km R from br (by rw [jJ]; exact aU _)]
   exists jl (jP (Ev.frz ?_))
   refine ⟨_, _, _, _, .two, .lst (.head _) .refl, mS.refl, ?_⟩
   exact h
 ·rw [aa, am]; exact J0 5 hR
theorem rW (P : PW W) {R : List jL} (hz : ∀ d ∈ R, d.length < 64) (hR : R.length < 64) (h : Q (.lst (jn (jo R))) H) : jX W (n + 1) H (.ref 249) [jW R, .lst (oY (km R))] Q := by
 wtm_at "def"
 kd_p
 intro ak
 kd_p
 exists jG ?_
 ·let I1 : IT jr := fun i Z => Z [lc "rows" (jW R), lc "owners" (.lst (oY (km R))), lc "keyed" (.ref ak), lu "number", gb "range", gb "len", gb "sorted"] ((ak, .lst ((((av i).filter (mO R)).map (rc R)).map kW)) :: H)
  refine ⟨R.length, by rw [aa], by exact J0 22 hR, I1, fun Z zz => zz, ?_, ?_⟩
  ·rintro i hi
   refine ⟨_, by kd_in, ?_⟩
   have hk := jK (d := ([] : jL)) hi
   have hl := hz _ (jp (d := ([] : jL)) hi)
   have ho : (oY (km R))[(i : Int).toNat]? = some (PV.int ((R.idxOf (R.getD i []) : Nat) : Int)) := by
    rw [ag]; exact x9 (by unfold km; rw [ax, hk]; rfl)
   have hr : (R.map jU)[(i : Int).toNat]? = some (jU (R.getD i [])) := by rw [ag, ax, hk]; rfl
   kd_p
   exists jx Vw.refl (by exact J0 0) ho (by exact J1 4 hi hR) ?_
   have step : ∀ b, b = mO R i → (((av (i + 1)).filter (mO R)).map (rc R)).map kW = (((av i).filter (mO R)).map (rc R)).map kW ++ if b then [kW (rc R i)] else [] := fun b e => by
    rw [bA, cC, aJ, aJ]
    congr 1
    subst e
    by_cases q : mO R i = true <;> simp [q]
   refine jA.dec (fun h1 => ?_) fun h1 => ?_
   ·kd_p
    exists jx Vw.refl (by exact J0 0) hr (by exact J1 4 hi hR) ?_
    ·refine jA.dec (fun h2 => ?_) fun h2 => ?_
     ·kd_p
      exists jx Vw.refl (by exact J0 0) hr (by exact J1 4 hi hR) ?_
      ·have := step true (by unfold mO; rw [decide_eq_true (by exact J1 20 h1), decide_eq_true (by exact J4 4 h2)]; rfl)
       rw [if_pos rfl] at this
       exact jv.nx (by kd_all) (Of.eqH (by rw [this]; rfl) (fun Z zz => zz))
      ·rw [aa, aa, am]
       have := bm (mO R) (av i)
       rw [aq] at this; exact J4 0 this hi hR
      ·rw [am]; lia
     ·kd_p
      have := step false (by unfold mO; rw [decide_eq_true (show R.idxOf (R.getD i []) = i by exact J1 20 h1), decide_eq_false (by exact J7 20 h2)]; rfl)
      rw [if_neg (by simp), bl] at this
      exact jv.nx (by kd_all) (Of.eqH (by rw [this]) (fun Z zz => zz))
    ·rw [am]; lia
   ·kd_p
    have := step false (by unfold mO; rw [decide_eq_false (show ¬ R.idxOf (R.getD i []) = i by exact J7 21 h1)]; rfl)
    rw [if_neg (by simp), bl] at this
    exact jv.nx (by kd_all) (Of.eqH (by rw [this]) (fun Z zz => zz))
  ·show lj _ _ _ _ _ _
   have hkl := o4 (R := R)
   exists jl (jP (kP (kq (fun x : Int × Int => PV.int x.2) (by wtm_at "hcap") (jN (lg (lr P (by kd_mem) ?_))))))
   refine q9 (L := o0 R) (.lst (.head _)) (by exact J4 1 hkl hR) fun a => ⟨a, _, _, rfl, rfl, _, rfl, _, nz (o0 R), kW, by wtm_at "crho", rfl, by rw [(ki _).length_eq, am]; exact J29 16 hkl hR, fun x hx => ⟨_, by kd_in, ?_⟩, _, _, .one, ?_⟩
   ·kd_p
    exists kH (x := .int x.2) Vw.refl (by decide) rfl (by decide) ?_
    exact rfl
   ·rw [show jn (jo R) = (nz (o0 R)).map (fun x : Int × Int => PV.int x.2) by unfold jo; simp] at h
    exact h
 ·rw [aa, am]; exact J0 5 hR
theorem vW (P : PW W) {c : Addr} (h : ∀ k t, Q .none [(k, .lst []), (t, .lst []), (c, .ins "Comb" [("table", .ref t), ("check", .ref k)])]) : jX W (n + 1) [(c, .ins "Comb" [])] (.ref 263) [.ref c] Q := by
 wtm_at "def"
 kd_p
 intro t
 kd_p
 intro k
 kd_p
 exact h k t
noncomputable abbrev ng (k t a : Addr) (h : Hd) (m : Nat) : HH := [(k, .lst (jn (o5 h m))), (t, .lst (jn (pI h m))), (a, .ins "Comb" [("table", .ref t), ("check", .ref k)])]
section
variable {k t a : Addr} {h : Hd} {m : Nat}
theorem qD : (jn (o5 h m)).length = m := by simp [ku]
theorem yf : (jn (pI h m)).length = m := by simp [kL]
theorem BJ (hm : m ≤ 5000) : (jn (o5 h m)).length ≤ sizeLine := by rw [qD, am]; exact J0 8 hm
theorem Fa (hm : m ≤ 5000) : (jn (pI h m)).length ≤ sizeLine := by rw [yf, am]; exact J0 8 hm
theorem zi (P : PW W) (x : lO h m) (hm : m ≤ 5000) {c : Int} (h0 : 0 ≤ c) (hq : Q (.bool (hfree h c)) (ng k t a h m)) : jX W (n + 1) (ng k t a h m) (.ref 270) [.ref a, .int c] Q := by
 wtm_at "def"
 have hs := BJ (h := h) hm
 kd_p
 refine ⟨_, rfl, jA.dec (fun h1 => ?_) fun h1 => ?_⟩
 ·rw [qD] at h1
  have : hfree h c = true := by unfold hfree; rw [x.get0 (.inr (by exact J29 17 h1))]; rfl
  rw [this] at hq; exact hq
 ·rw [qD] at h1
  kd_p
  refine jx (x := .int ((jz h c).getD (0, 0)).2) (.lst (.head _)) h0 ?_ (by exact J29 18 hm h1) ?_
  ·refine pB ?_
   rw [th (by exact J29 19 h0 h1), bP h0]
  ·kd_p
   have : hfree h c = decide (((jz h c).getD (0, 0)).2 = 0) := by
    have := x.free (c := c)
    by_cases e : hfree h c = true
    ·rw [e, decide_eq_true (this.mpr e)]
    ·rw [decide_eq_false (fun q => e (this.mp q))]; simpa using e
   rw [this] at hq; exact hq
theorem Fb (P : PW W) (x : lO h m) (hm : m ≤ 5000) {b : Int} {cols : List Int} (h0 : ∀ c ∈ cols, 0 ≤ b + c) (hq : Q (.bool (mP h cols b)) (ng k t a h m)) : jX W (n + 2) (ng k t a h m) (.ref 277) [.ref a, .int b, .lst (jn cols)] Q := by
 wtm_at "def"
 kd_p
 exists mX (α := Int) ?_
 let I1 : IT jr := fun i Z => (∀ c ∈ cols.take i, hfree h (b + c) = true) → Z [lc "self" (.ref a), lc "base" (.int b), lc "columns" (.lst (jn cols)), lu "column"] (ng k t a h m)
 refine ⟨cols, PV.int, rfl, I1, fun Z zz => zz (by simp), ?_, ?_⟩
 ·rintro i c hc hi
  refine ⟨_, by kd_in, jl (kG (oQ (n9 (x_meth ?_))))⟩
  have hmem := aS hc
  kd_p
  exists zi P x hm (h0 c hmem) ?_
  cases e : hfree h (b + c) with
  | true =>
   exists jA.ff ?_
   refine jv.nx (by kd_all) (fun Z zz => zz (fun c' hc' => ?_))
   rw [a7, hc] at hc'
   rcases aQ.mp hc' with hc' | hc'
   ·exact hi c' hc'
   ·simp at hc'; rw [hc']; exact e
  | false =>
   exists jA.tt ?_
   show Q (.bool false) _
   have : mP h cols b = false := by
    unfold mP; rw [iu]; exact ⟨c, hmem, by simp [e]⟩
   rw [this] at hq; exact hq
 ·rintro hi
  kd_p
  have : mP h cols b = true := by
   unfold mP; rw [a8]; rw [aZ] at hi; exact hi
  rw [this] at hq; exact hq
theorem vX (P : PW W) (x : lO h m) (hm : m ≤ 5000) {cols : List Int} (y : rV cols) (hq : Q (.int (place h m cols)) (ng k t a h m)) : jX W (n + 3) (ng k t a h m) (.ref 284) [.ref a, .lst (jn cols)] Q := by
 wtm_at "def"
 kd_p
 refine jx (x := .int (cols.headD 0)) Vw.refl (by decide) ?_ (by decide) ?_
 ·cases cols with
  | nil => exact absurd rfl y.ne
  | cons c cols => rfl
 kd_p
 let I2 : IT jr := fun j Z => ∀ b, b = -(cols.headD 0) + m - j → j ≤ m → pJ h cols j b = place h m cols → Z [lc "self" (.ref a), lc "columns" (.lst (jn cols)), lc "base" (.int b)] (ng k t a h m)
 refine lC I2 m (fun Z zz => zz _ (by exact J29 20) (aU _) rfl) ?_
 rintro j b hb hj hf
 exists oQ (n9 (x_meth ?_))
 refine Fb P x hm (fun c hc => by have := y.head c hc; exact J29 21 this hj hb) ?_
 kd_p
 cases e : mP h cols b with
 | true =>
  exists jA.ff ?_
  have : b = place h m cols := by
   rw [← hf]; cases j with
   | zero => rfl
   | succ j => unfold pJ; rw [if_pos e]
  subst this
  exact hq
 | false =>
  exists jA.tt ?_
  cases j with
  | zero => rw [uY x fun c hc => by have := y.head c hc; exact J7 22 this hb] at e; cases e
  | succ j => exact jv.nx (by kd_all) ⟨j, fX _, fun Z zz => zz _ (by exact J7 23 hb) (by exact J0 9 hj) (by rw [← hf]; conv => rhs; unfold pJ; rw [if_neg (by rw [e]; simp)])⟩
theorem Fc (P : PW W) (x : lO h m) {many : Nat} (hm : many ≤ 5000) (hm' : m ≤ 5000) (hq : Q .none (ng k t a h (max m many))) : jX W (n + 1) (ng k t a h m) (.ref 291) [.ref a, .int (many : Nat)] Q := by
 wtm_at "def"
 let I3 : IT jr := fun j Z => ∀ m', j = many - m' → m ≤ m' → m' ≤ max m many → Z [lc "self" (.ref a), lc "many" (.int (many : Nat)), gb "len"] (ng k t a h m')
 refine jl (lC I3 (many - m) (fun Z zz => zz m rfl (aU _) (by exact J29 22)) ?_)
 rintro j m' hj h1 h2
 have hs := BJ (h := h) (m := m') (by exact J10 0 hm' hm h2)
 have hs' := Fa (h := h) (m := m') (by exact J10 0 hm' hm h2)
 kd_p
 rw [qD]
 refine jA.dec (fun h3 => ?_) fun h3 => ?_
 ·kd_p
  rw [oZ, oZ, ← BG x h1, ← BF x h1]
  exact jv.nx (by kd_all) ⟨_, by exact J2 21 hj h3, fun Z zz => zz (m' + 1) rfl (by exact J9 15 h1) (by exact J29 23 h3)⟩
 ·kd_p
  have : m' = max m many := by exact J30 0 h1 h2 h3
  rw [this]; exact hq
theorem GJ (P : PW W) (x : lO h m) (hm : m ≤ 4900) {row : jL} (y : rV (row.map ai)) (hz : row.length < 64) {o : Int} (ho : 0 ≤ o)
  (hq : Q (.int (place h m (row.map ai))) (ng k t a (hput h (place h m (row.map ai)) (o + 1) row) (max m (place h m (row.map ai) + mQ (row.map ai) + 1).toNat))) : jX W (n + 4) (ng k t a h m) (.ref 298) [.ref a, .int o, jU row] Q := by
 have hsrt : qO row := y.srt
 have hge := qA (h := h) (m := m) (cols := row.map ai)
 have hle := vU (h := h) (m := m) (cols := row.map ai)
 have hl0 := y.head _ y.lastm
 have hl1 := y.high _ y.lastm
 have hc0 := y.low _ y.headm
 generalize hb : place h m (row.map ai) = b at *
 wtm_at "def"
 exists jl (jB rfl (lg (lr P (by kd_mem) ?_)))
 refine lB Vw.refl hz fun al => ⟨al, _, _, rfl, rfl, ?_⟩
 rw [rb y.srt]
 kd_p
 refine vX P x (by exact J10 1 hm) y ?_
 rw [hb]
 kd_p
 refine nW (x := .int (mQ (row.map ai))) Vw.refl (by decide) (by rw [aa, aa]; have := bI.mpr y.ne; rw [aa] at this; exact J3 22 this) (by rw [show (jn (row.map ai)).length = (row.map ai).length by simp]; exact pB (uZ y.ne)) (by decide) ?_
 kd_p
 generalize hmany : (b + mQ (row.map ai) + 1).toNat = many at *
 rw [show b + mQ (row.map ai) + 1 = (many : Int) by exact J30 1 hl0 hge hmany]
 exists Fc P x (by exact J30 2 hle hc0 hm hmany hl1) (by exact J10 1 hm) ?_
 exists mX (α := Int × Int) ?_
 have hin : ∀ p ∈ row, 0 ≤ b + p.1 ∧ b + p.1 < (max m many : Nat) := fun p hp => by
  have h1 := y.head p.1 (aO (f := ai) hp)
  have h2 := y.last p.1 (aO (f := ai) hp)
  exact J30 3 h1 h2 hge hmany
 let I4 : IT jr := fun i Z => Z [lc "self" (.ref a), lc "owner" (.int o), lc "row" (jU row), lc "columns" (.lst (jn (row.map ai))), lc "base" (.int b), lu "column", gb "sorted"] (ng k t a (hput h b (o + 1) (row.take i)) (max m many))
 refine ⟨row, fun p => .int p.1, by rw [aW]; rfl, I4, fun Z zz => zz, ?_, ?_⟩
 ·rintro i p hp
  have hmem := aS hp
  have hpi := hin p hmem
  exists ⟨_, by kd_in, ?_⟩
  exists mv Vw.refl (hsrt.get hmem) ?_
  refine mu (by wtm_at "updh") hpi.1 (by exact J10 2 hle hc0 hm hpi hmany hl1) (by rw [yf]; exact J10 3 hpi) ?_
  kd_p
  refine mu (by wtm_at "updh") hpi.1 (by exact J10 2 hle hc0 hm hpi hmany hl1) (by rw [qD]; exact J10 3 hpi) ?_
  kd_p
  have hj : (b + p.1).toNat < max m many := by exact J30 4 hpi
  rw [qz, qz, Dl (o := o + 1) hj, Dm (v := p.2) hj, bP hpi.1, ← uj, show row.take i ++ [p] = row.take (i + 1) by rw [a7, hp]; rfl]
  exact jv.nx (by kd_all) (fun Z zz => zz)
 ·show lj _ _ _ _ _ _
  kd_p
  rw [aZ]
  exact hq
end
noncomputable abbrev yg (k t a : Addr) (h : Hd) (m : Nat) (H : HH) : HH := (k, .lst (jn (o5 h m))) :: (t, .lst (jn (pI h m))) :: (a, .ins "Comb" [("table", .ref t), ("check", .ref k)]) :: H
theorem Fd (P : PW W) (h : ∀ c k t, Q (.ref c) (yg k t c [] 0 H)) : jX W (n + 2) H (.ref 301) [] Q :=
 Bi P fun a => jX.frame (P := [(a, .ins "Comb" [])]) (R := H) (.l .all) (vW P fun k t => ⟨rfl, h a k t⟩)
noncomputable abbrev yh (R : List jL) : PV := .tup [.lst (jn (kk R)), .lst (jn (lP R)), .lst (jn (jQ R))]
theorem rI (P : PW W) {R : List jL} (hR : jZ R) (h : Q (yh R) H) : jX W (n + 6) H (.ref 310) [jW R] Q := by
 have hlen := hR.len
 wtm_at "def"
 kd_p1
 kd_p1
 exists nv P (by kd_mem) ?_
 exists o8 P (fun d hd => (hR.row d hd).srt) (fun d hd => (hR.row d hd).len) hR.len ?_
 exists Fd P fun c k t => ?_
 exists m8 (by wtm_at "hcap") (sO (fun _ : jL => PV.int 0) (jN ?_))
 refine ⟨_, rfl, _, R, jU, by wtm_at "crho", rfl, by rw [am]; exact J0 5 hlen, fun d hd => ⟨_, by kd_in, ?_⟩, fun D => ?_⟩
 ·kd_p
  exact rfl
 kd_p
 refine x2 (H' := yg k t c [] 0 ((D, .lst (jn (kd R []).b)) :: H)) ?_ ?_
 ·have : (R.map fun x => PV.int 0) = jn (kd R []).b := by
   show _ = jn (bd R.length 0)
   simp [gz]
  rw [this]
  exact (List.perm_middle (l₁ := yg k t c [] 0 [])).symm
 exists mX (α := Int) (nv P (by kd_mem) ?_)
 let I1 : IT jr := fun i Z => Z [lc "rows" (jW R), lc "owners" (.lst (oY (km R))), lc "comb" (.ref c), cc "bases" (.ref D), lu "number", gb "owners_of", gb "Comb", gb "packing_order"] (yg k t c (kd R ((jo R).take i)).h (kd R ((jo R).take i)).m ((D, .lst (jn (kd R ((jo R).take i)).b)) :: H))
 refine rW P (fun d hd => (hR.row d hd).len) hR.len ⟨jo R, PV.int, rfl, I1, fun Z zz => zz, ?_, ?_⟩
 ·rintro i num hnum
  have hi := (aA.mp hnum).1
  have hmem := aS hnum
  obtain ⟨h0, h1, h2, _⟩ := lF hmem
  have hok := mI.take hR i (by exact J2 14 hi)
  have hrow := hR.row _ (jp (d := ([] : jL)) h1)
  have hol := pC (R := R)
  have hm := hok.m
  have hbl := hok.len
  have e : kd R ((jo R).take (i + 1)) = kn R (kd R ((jo R).take i)) num := by rw [show (jo R).take (i + 1) = (jo R).take i ++ [num] by rw [a7, hnum]; rfl, lW]
  show lJ _ _ _ _
  generalize kd R ((jo R).take i) = st at *
  exists ⟨_, by kd_in, ?_⟩
  refine jx (x := jU (R.getD num.toNat [])) Vw.refl h0 (by rw [ax, jK (d := ([] : jL)) h1]; rfl) (by exact J4 11 hlen h1) ?_
  kd_p
  exists jX.frame (P := ng k t c st.h st.m) (R := (D, .lst (jn st.b)) :: H) (.l (.l (.l .all))) (GJ P hok.ok (by exact J30 5 hol hm hi hlen) (hrow.cols h2) hrow.len h0 ?_)
  refine mu (.tail (.tail (.tail .head))) h0 (by exact J4 11 hlen h1) (by rw [aa, hbl]; exact J3 17 h1) ?_
  kd_p
  exact jv.nx (by kd_all) (Of.eqH (by rw [e, qz]; rfl) (fun Z zz => zz))
 ·show lj _ _ _ _ _ _
  rw [aZ]
  have hok := mI.all hR
  change mI R (kd R (jo R)) R.length at hok
  have hm := hok.m
  exists jl (jP (Ev.frz (sx rfl (jy (kq (fun o : Nat => PV.int ((jt R).b.getD o 0)) (by wtm_at "hcap") (jN ?_))))))
  refine ⟨_, rfl, _, km R, fun o => PV.int (o : Nat), by wtm_at "crho", rfl, by rw [jJ, am]; exact J0 5 hlen, fun o ho => ⟨_, by kd_in, ?_⟩, ?_⟩
  ·kd_p
   have := wR ho
   refine jx (x := .int ((jt R).b.getD o 0)) (.lst (.tail _ (.tail _ (.tail _ (.head _))))) (by exact J0 0) (by rw [ag]; exact pB (jK (by have := hok.len; exact J0 4 this ‹_›))) (by exact J1 4 this hlen) ?_
   kd_p
   exact rfl
  ·kd_p
   refine ⟨H, _, H, yh R, .r (.r (.r (.r .none))), .tup (.cons ?_ (.cons (.lst (.tail _ (.head _)) .refl) (.cons (.lst (.head _) .refl) .refl))), mS.refl, h⟩
   have : (km R).map (fun o : Nat => PV.int ((jt R).b.getD o 0)) = jn (kk R) := by unfold kk; simp
   rw [this]; exact .refl
theorem pK {L : List Int} (h : L.length ≤ 5000) : (jn L).length ≤ sizeLine := by rw [aa, am]; exact J0 8 h
theorem j7 {L : List Int} {k : Int} {po : PV} (w : Vw H po (.lst (jn L))) (h0 : 0 ≤ k) (h1 : k.toNat < L.length) (hs : L.length ≤ 5000) (h : Q (.int (L.getD k.toNat 0)) H) : oM W n H po (.int k) Q :=
 jx w h0 (pB (jK h1)) (by exact J7 19 hs h1) h
theorem re (P : PW W) {B T C : List Int} {o col : Int} {row : Nat} (hr : row < B.length) (hB : B.length ≤ 5000) (hT : C.length ≤ T.length) (hC : T.length ≤ 5000) (h : Q (vV (lG (B.getD row 0) T C o col)) H) :
  jX W (n + 1) H (.ref 317) [.lst (jn B), .lst (jn T), .lst (jn C), .int o, .int (row : Nat), .int col] Q := by
 have hs := pK (L := C) (by exact J5 3 hT hC)
 wtm_at "def"
 kd_p
 refine j7 Vw.refl (by exact J0 0) (by exact J0 1 hr) hB ?_
 rw [ag]
 generalize B.getD row 0 = b at *
 kd_p
 refine jA.dec (fun h1 => ?_) fun h1 => ?_
 ·kd_p
  unfold lG at h; rw [if_pos h1] at h; exact h
 unfold lG at h; rw [if_neg h1] at h
 kd_p
 rw [aa]
 refine jA.dec (fun h2 => ?_) fun h2 => ?_
 ·kd_p
  rw [a9 (by exact J30 6 h2)] at h; exact h
 have h3 : (b + col).toNat < C.length := by exact J30 7 h2 h1
 rw [jK (d := (0 : Int)) h3] at h
 simp only at h
 kd_p
 exists j7 Vw.refl (by exact J3 2 h1) h3 (by exact J5 3 hT hC) ?_
 refine jA.dec (fun h4 => ?_) fun h4 => ?_
 ·kd_p
  rw [if_neg h4] at h; exact h
 ·kd_p
  rw [if_pos (by simpa using h4), jK (d := (0 : Int)) (by exact J10 4 hT h3)] at h
  refine j7 Vw.refl (by exact J3 2 h1) (by exact J10 4 hT h3) (by exact J0 7 hC) ?_
  exact h
theorem nh (P : PW W) {b t c o : PV} (h : Q (.ins "PackedRows" [("bases", b), ("table", t), ("check", c), ("owners", o)]) H) : jX W (n + 2) H (.ref 379) [b, t, c, o] Q := by
 refine jX.frz (sY P fun a => ?_)
 wtm_at "def"
 kd_p
 exact ⟨rfl, _, _, _, _, .one, .ins (.head _) .refl, mS.refl, h⟩
theorem kx (P : PW W) {R : List jL} (hR : jZ R) (h : Q (wz (kk R) (lP R) (jQ R) (oI (km R))) H) : jX W (n + 7) H (.ref 390) [jW R] Q := by
 wtm_at "def"
 exists jl (oh rfl rfl (nv P (by kd_mem) ?_))
 exists rI P hR (mU (xs := ["bases", "table", "check"]) (ps := [.lst (jn (kk R)), .lst (jn (lP R)), .lst (jn (jQ R))]) Vw.refl rfl (.cons (by kd_in) (.cons (by kd_in) (.cons (by kd_in) .nil))) ?_)
 exists o8 P (fun d hd => (hR.row d hd).srt) (fun d hd => (hR.row d hd).len) hR.len ?_
 rw [Eg]
 exact nh P h
theorem ti (P : PW W) {B T C O : List Int} {row : Nat} {col : Int} (hr : row < B.length) (hB : B.length ≤ 5000) (ho : row < O.length) (hO : O.length ≤ 5000) (hT : C.length ≤ T.length) (hC : T.length ≤ 5000) (h : Q (vV (lG (B.getD row 0) T C (O.getD row 0) col)) H) :
  jX W (n + 2) H (.ref 338) [wz B T C O, .int (row : Nat), .int col] Q := by
 wtm_at "def"
 kd_p
 refine j7 Vw.refl (by exact J0 0) (by exact J0 1 ho) hO ?_
 rw [ag]
 kd_p
 exact re P hr hB hT hC h
theorem ou (P : PW W) {B T C O : List Int} (hT : T.length ≤ 5000) (h : Q (.int (T.length : Nat)) H) : jX W (n + 1) H (.ref 350) [wz B T C O] Q := by
 have hs := pK hT
 wtm_at "def"
 kd_p
 rw [aa]
 exact h
theorem Fe (P : PW W) {B T C O : List Int} (hT : C.length ≤ 5000) (h : Q (.int ((C.filter fun k => decide (k = 0)).length : Nat)) H) : jX W (n + 1) H (.ref 355) [wz B T C O] Q := by
 wtm_at "def"
 exists jl (jP (vO P (by kd_mem) (jy (lh (fun k : Int => decide (k = 0)) PV.int (by wtm_at "hcap") (jN ?_)))))
 refine ⟨_, rfl, _, C, PV.int, by wtm_at "crho", rfl, by rw [am]; exact J0 8 hT, fun k hk => ⟨_, by kd_in, ?_⟩, ?_⟩
 ·kd_p
  intro h1
  kd_p
  exact rfl
 ·have hl := bm (fun k : Int => decide (k = 0)) C
  have hs := pK (L := C.filter fun k => decide (k = 0)) (by exact J5 3 hl hT)
  kd_p
  rw [aa]
  exact h
theorem tj (P : PW W) {B T C O : List Int} (x : yd B T C O) (h : ∀ (D : Addr) (bs : List Addr), bs.length = O.length → Q (.ref D) ((D, .lst (bs.map .ref)) :: (slots bs (dS (lV B T C O)) ++ H))) : jX W (n + 1) H (.ref 343) [wz B T C O] Q := by
 have hbo := x.bo
 have htc := x.tc
 have hol := x.ol
 have hcl := x.cl
 wtm_at "def"
 exists jl (m8 (by wtm_at "hcap") (jN ?_))
 refine ⟨_, rfl, _, fun i ys H' => i ≤ O.length ∧ ∃ as : List Addr, as.length = i ∧ ys = as.map .ref ∧ H' = (slots as (dS (bd i []))).reverse ++ H, by wtm_at "crho", ⟨bF _, [], rfl, rfl, rfl⟩, ?_, ?_, ?_⟩
 ·rintro i ys _ ⟨hi, as, ha, rfl, rfl⟩
  rw [aa, am]; exact J10 5 hi ha hol
 ·rintro i p ys _ hp ⟨hi, as, ha, rfl, rfl⟩
  exists ⟨_, by kd_in, jA.tt ?_⟩
  intro a
  have hi2 : i < O.length := by
   have := (aA.mp hp).1
   rw [aa] at this; exact this
  refine ⟨by exact J3 14 hi2, as ++ [a], by simp [ha], by simp, ?_⟩
  rw [List.replicate_succ', show dS (bd i [] ++ [[]]) = dS (bd i []) ++ [.dct []] by simp [dS, Dk], td (by rw [m4, List.length_replicate]; exact ha), gX]
  rfl
 rintro ys _ ⟨_, as, ha, rfl, rfl⟩ D
 rw [aa] at ha ⊢
 kd_p
 refine x2 (H' := (D, .lst (as.map .ref)) :: (slots as (dS (nf B T C O.length 0)) ++ H)) ?_ ?_
 ·rw [wS]
  exact gK _ (gl _ (iw _))
 refine jG ?_
 have hsC := pK (L := C) (by exact J0 7 hcl)
 kd_p
 rw [aa]
 let I1 : IT jr := fun i Z => Z [lc "self" (wz B T C O), lu "owner", cc "held" (.ref D), lu "cell", gb "range", gb "len"] ((D, .lst (as.map .ref)) :: (slots as (dS (nf B T C O.length i)) ++ H))
 refine ⟨C.length, rfl, by exact J0 17 hcl, I1, fun Z zz => zz, ?_, ?_⟩
 ·rintro i hi
  have hk := x.chk _ (jp (d := (0 : Int)) hi)
  exists ⟨_, by kd_in, ?_⟩
  refine j7 Vw.refl (by exact J0 0) (by exact J0 1 hi) (by exact J0 7 hcl) ?_
  rw [ag]
  kd_p
  generalize hkk : C.getD i 0 = k at *
  refine jA.dec (fun h1 => ?_) fun h1 => ?_
  ·obtain ⟨j, rfl⟩ : ∃ j : Nat, k = (j : Int) + 1 := ⟨(k - 1).toNat, by exact J30 8 hk h1⟩
   have hj : j < O.length := by exact J30 9 hk
   kd_p
   refine j7 Vw.refl (by exact J0 0) (by exact J0 1 hi) (by exact J0 7 hcl) ?_
   rw [ag, hkk]
   kd_p
   rw [show (j : Int) + 1 - 1 = (j : Int) by exact J30 10]
   refine j7 Vw.refl (by exact J0 0) (by exact J0 2 htc hi) (by exact J0 3 hcl htc) ?_
   rw [ag]
   kd_p
   have haj : as[j]? = some as[j] := aG (by exact J30 11 hk ha)
   refine jx (x := .ref as[j]) (.lst (.head _)) (by exact J0 0) (by rw [ag, ax, haj]; rfl) (by exact J30 12 hk hol) ?_
   kd_p
   refine j7 Vw.refl (by exact J0 0) (by exact J30 13 hk hbo) (by exact J0 10 hbo hol) ?_
   rw [ag]
   kd_p
   refine kI (f := PV.int) rfl (.tail (uh haj (ye (qC hj)))) (by rw [am]; have := nC (B := B) (T := T) (C := C) (j := (j : Int)) (c := i); exact J6 17 this hcl hi) ?_
   kd_p
   rw [ze hj hkk]
   exact jv.nx (by kd_all) (fun Z zz => zz)
  ·kd_p
   rw [← wT (B := B) (T := T) (N := O.length) (show C.getD i 0 = 0 by rw [hkk]; exact J1 11 h1)]
   exact jv.nx (by kd_all) (fun Z zz => zz)
 ·show lj _ _ _ _ _ _
  exists jl (jP (Br (kP (qn (by wtm_at "hcap") (jN ?_)))))
  refine ⟨_, rfl, _, fun i ys H' => i ≤ O.length ∧ ∃ bs : List Addr, bs.length = i ∧ ys = bs.map .ref ∧ H' = (slots bs (dS ((O.take i).map fun o => jw B T C o C.length))).reverse ++ ((D, .lst (as.map .ref)) :: (slots as (dS (nf B T C O.length C.length)) ++ H)), by wtm_at "crho", ⟨bF _, [], rfl, rfl, rfl⟩, ?_, ?_, ?_⟩
  ·rintro i ys _ ⟨hi, bs, hb, rfl, rfl⟩
   rw [aa, am]; exact J10 5 hi hb hol
  ·rintro i p ys _ hp ⟨hi, bs, hb, rfl, rfl⟩
   obtain ⟨o, ho, rfl⟩ : ∃ o, O[i]? = some o ∧ p = .int o := by
    rw [ax] at hp
    obtain ⟨o, ho, rfl⟩ := bc.mp hp
    exact ⟨o, ho, rfl⟩
   have hoo := x.own o (aS ho)
   have hiO := (aA.mp ho).1
   obtain ⟨j, rfl⟩ : ∃ j : Nat, o = (j : Int) := ⟨o.toNat, by exact J4 21 hoo⟩
   have haj : as[j]? = some as[j] := aG (by exact J30 14 hoo ha)
   exists ⟨_, by kd_in, jA.tt (sZ P (by kd_mem) ?_)⟩
   refine jx (x := .ref as[j]) (.lst (cy _ (.head _))) (by exact J0 0) (by rw [ag, ax, haj]; rfl) (by exact J30 15 hoo hol) ?_
   kd_p
   refine uf (f := PV.int) (.dct (cy _ (.tail _ (y4 haj (ye (qC (by exact J4 22 hoo))))))) (by rw [am]; have := nC (B := B) (T := T) (C := C) (j := (j : Int)) (c := C.length); exact J30 16 this hcl) fun b => ?_
   refine ⟨by exact J3 14 hiO, bs ++ [b], by simp [hb], by simp, ?_⟩
   rw [a7, ho, cm, aJ, show ∀ L M : List jL, dS (L ++ M) = dS L ++ dS M by intro L M; simp [dS], List.map_singleton, show dS [jw B T C (j : Int) C.length] = [HO.dct (Dk .int (jw B T C (j : Int) C.length))] from rfl, td (by rw [m4, aa, bg]; exact J30 17 hi hb), gX]
   rfl
  ·rintro ys _ ⟨_, bs, hb, rfl, rfl⟩ D2
   rw [aa] at hb ⊢
   rw [aZ]
   refine ⟨_, _, .l (jI.pre (S := (D, .lst (as.map .ref)) :: slots as (dS (nf B T C O.length C.length))) (.r jI.slots) _), _, gK _ (gl _ (iw _)), h D2 bs hb⟩
theorem wU {S : HH} {as : List Addr} {Ds : List jL} (h : as.length = Ds.length) (hm : ∀ p ∈ slots as (dS Ds), p ∈ S) : ny S (as.map .ref) (Ds.map jU) := by
 have := ny.slots (S := S) (f := fun o => match o with | .dct es => .dct es | .lst xs => .lst xs | .ins c fs => .ins c fs) (fun a o h => by
  cases o with
  | lst xs => exact .lst h .refl
  | dct xs => exact .dct h .refl
  | ins c xs => exact .ins h .refl) (as := as) (os := dS Ds) (by rw [m4]; exact h) hm
 rw [show (dS Ds).map (fun o => match o with | .dct es => PV.dct es | .lst xs => .lst xs | .ins c fs => .ins c fs) = Ds.map jU by unfold dS; rw [aW]; rfl] at this
 exact this
theorem ox (P : PW W) {B T C O : List Int} (x : yd B T C O) (h : Q (jW (lV B T C O)) H) : jX W (n + 1) H (.ref 343) [wz B T C O] Q :=
 jX.frz (tj P x fun D bs hb => ⟨H, (D, .lst (bs.map .ref)) :: slots bs (dS (lV B T C O)), H, _, .r jI.slots, .lst (.head _) (wU (by unfold lV; rw [aa]; exact hb) fun p hp => .tail _ hp), mS.refl, h⟩)
noncomputable def mK (B O : List Int) (r : Nat) : Prop := 0 ≤ O.getD r 0 ∧ O.getD r 0 ≤ r ∧ O.getD (O.getD r 0).toNat 0 = O.getD r 0 ∧ B.getD r 0 = B.getD (O.getD r 0).toNat 0
noncomputable def tm (B O : List Int) (many : Nat) : Prop := B.length = many ∧ O.length = many ∧ ∀ r : Nat, r < many → mK B O r
noncomputable def kR (B T C O : List Int) (cols : Int) (c : Nat) : Prop :=
 0 ≤ C.getD c 0 ∧ C.getD c 0 ≤ O.length ∧ (C.getD c 0 = 0 → T.getD c 0 = 0) ∧ (C.getD c 0 ≠ 0 → O.getD (C.getD c 0 - 1).toNat 0 = C.getD c 0 - 1 ∧ 0 ≤ (c : Int) - B.getD (C.getD c 0 - 1).toNat 0 ∧ (c : Int) - B.getD (C.getD c 0 - 1).toNat 0 < cols)
noncomputable def rh (B T C O : List Int) (cols : Int) : Prop := T.length = C.length ∧ (C = [] ∨ mQ C ≠ 0) ∧ ∀ c : Nat, c < C.length → kR B T C O cols c
theorem j0 {b : Bool} {P : Prop} (h : b = false) (h' : ¬ P) : b = true ↔ P := ⟨fun q => (by rw [h] at q; cases q), fun q => absurd q h'⟩
theorem nN {b : Bool} {P : Prop} (h : b = true) (h' : P) : b = true ↔ P := ⟨fun _ => h', fun _ => h⟩
noncomputable abbrev Iv (Q : CB) : CB := fun b H => ∃ K S, jI H K S ∧ Q b K
theorem o9 {r : jr} {Q : CB} {e} (h : Tv W n r H e (Iv Q)) : Tv W n r H e Q := fun A env fa G s Rm hr f =>
 jF (h A env fa G s Rm hr f) fun b s1 ⟨G1, P', e1, r1, K, S, sp, q⟩ => by
  obtain ⟨e2, y, _⟩ := r1.freeze sp
  exact ⟨_, K, e1.trans e2, y, q⟩
theorem tn (P : PW W) {B T C O : List Int} {many : Nat} (hB : B.length ≤ 5000) (hO : O.length ≤ 5000) (hm : many ≤ 5000) (h : ∀ s : Str, ((s == "") = true ↔ tm B O many) → Q (.str s) H) : jX W (n + 1) H (.ref 362) [wz B T C O, .int (many : Nat)] Q := by
 have hsB := pK hB
 have hsO := pK hO
 wtm_at "def"
 kd_p
 rw [aa]
 refine jA.dec (fun h1 => ?_) fun h1 => ?_
 ·kd_p
  exact h _ (j0 (by decide +kernel) fun x => h1 (by rw [x.1]))
 kd_p
 rw [aa]
 refine jA.dec (fun h2 => ?_) fun h2 => ?_
 ·kd_p
  exact h _ (j0 (by decide +kernel) fun x => h2 (by rw [x.2.1]))
 kd_p
 exists jG ?_
 have e1 : B.length = many := by exact J3 19 h1
 have e2 : O.length = many := by exact J3 19 h2
 let I1 : IT jr := fun i Z => (∀ r : Nat, r < i → mK B O r) → Z [lc "self" (wz B T C O), lc "many" (.int (many : Nat)), lu "row", lu "owner", gb "len", gb "range"] H
 refine ⟨many, rfl, by exact J6 9 hB h1, I1, fun Z zz => zz (by lia), ?_, ?_⟩
 ·rintro i hi hs
  exists ⟨_, by kd_in, ?_⟩
  refine j7 Vw.refl (by exact J0 0) (by exact J3 20 hi h2) (by exact J6 10 hB h2 h1) ?_
  rw [ag]
  kd_p
  refine jA.dec (fun h3 => ?_) fun h3 => ?_
  ·kd_p
   exact h _ (j0 (by decide +kernel) fun x => by have := (x.2.2 i hi).1; exact J14 1 this h3)
  kd_p
  refine jA.dec (fun h4 => ?_) fun h4 => ?_
  ·kd_p
   exact h _ (j0 (by decide +kernel) fun x => by have := (x.2.2 i hi).2.1; exact J14 2 this h4)
  kd_p
  exists j7 Vw.refl (by exact J3 21 h3) (by exact J6 11 hi h4 h2) (by exact J6 10 hB h2 h1) ?_
  refine jA.dec (fun h5 => ?_) fun h5 => ?_
  ·kd_p
   exact h _ (j0 (by decide +kernel) fun x => h5 (x.2.2 i hi).2.2.1)
  kd_p
  refine j7 Vw.refl (by exact J0 0) (by exact J3 20 hi h1) (by exact J0 7 hB) ?_
  rw [ag]
  kd_p
  exists j7 Vw.refl (by exact J3 21 h3) (by exact J6 11 hi h4 h1) (by exact J0 7 hB) ?_
  refine jA.dec (fun h6 => ?_) fun h6 => ?_
  ·kd_p
   exact h _ (j0 (by decide +kernel) fun x => h6 (x.2.2 i hi).2.2.2)
  kd_p
  refine jv.nx (by kd_all) (fun Z zz => zz (fun r hr => ?_))
  by_cases e : r = i
  ·subst e; exact ⟨by exact J3 21 h3, by exact J14 3 h4, by exact J2 17 h5, by exact J2 17 h6⟩
  ·exact hs r (by exact J0 11 hr e)
 ·rintro hs
  kd_p
  exact h _ (nN (by decide +kernel) ⟨e1, e2, hs⟩)
theorem rX (P : PW W) {B T C O : List Int} {cols : Int} {many : Nat} (x : tm B O many) (hm : many ≤ 5000) (hT : T.length ≤ 5000) (hC : C.length ≤ 5000) (h : ∀ s : Str, ((s == "") = true ↔ rh B T C O cols) → Q (.str s) H) : jX W (n + 1) H (.ref 369) [wz B T C O, .int cols] Q := by
 have e1 := x.1
 have e2 := x.2.1
 have hsT := pK hT
 have hsC := pK hC
 have hsO := pK (L := O) (by exact J0 3 hm e2)
 wtm_at "def"
 kd_p
 rw [aa, aa]
 refine jA.dec (fun h1 => ?_) fun h1 => ?_
 ·kd_p
  exact h _ (j0 (by decide +kernel) fun y => h1 (by rw [y.1]))
 have e3 : T.length = C.length := by exact J3 19 h1
 refine uy ?_
 exists jl (kG (nH (o9 (jS ?_))))
 intro ae
 kd_p
 exists nB Vw.refl (.lst (.head _)) ?_
 refine ⟨_, _, .one, ?_⟩
 rw [show (!(jn C).isEmpty) = decide (C ≠ []) by cases C <;> simp]
 refine jA.dec (fun h2 => ?_) fun h2 => ?_
 rotate_left
 ·kd_p
  have h2 : C = [] := by simpa using h2
  subst h2
  exists jG ?_
  let I2 : IT jr := fun i Z => Z [lc "self" (wz B T [] O), lc "columns" (.int cols), lu "cell", lu "owner", gb "len", gb "range"] H
  refine ⟨0, rfl, by exact J14 4, I2, fun Z zz => zz, fun i hi => by lia, ?_⟩
  show lj _ _ _ _ _ _
  kd_p
  exact h _ (nN (by decide +kernel) ⟨e3, .inl rfl, fun c hc => by simp at hc⟩)
 kd_p
 have hpos := bI.mpr h2
 refine nW (x := .int (mQ C)) Vw.refl (by decide) (by rw [aa]; exact J3 22 hpos) (by rw [show (jn C).length = C.length by simp]; exact pB (uZ h2)) (by decide) ?_
 kd_p
 refine jA.dec (fun h3 => ?_) fun h3 => ?_
 ·kd_p
  exact h _ (j0 (by decide +kernel) fun y => by rcases y.2.1 with q | q; exact h2 q; exact q h3)
 kd_p
 exists jG ?_
 rw [aa]
 let I3 : IT jr := fun i Z => (∀ c : Nat, c < i → kR B T C O cols c) → Z [lc "self" (wz B T C O), lc "columns" (.int cols), lu "cell", lu "owner", gb "len", gb "range"] H
 refine ⟨C.length, rfl, by exact J6 9 hT h1, I3, fun Z zz => zz (by lia), ?_, ?_⟩
 ·rintro i hi hs
  exists ⟨_, by kd_in, ?_⟩
  refine j7 Vw.refl (by exact J0 0) (by exact J0 1 hi) (by exact J14 5 hT h1) ?_
  rw [ag]
  kd_p
  have key : rh B T C O cols → kR B T C O cols i := fun y => y.2.2 i hi
  refine jA.dec (fun h4 => ?_) fun h4 => ?_
  ·kd_p
   exact h _ (j0 (by decide +kernel) fun y => by have := (key y).1; exact J14 6 this h4)
  kd_p
  rw [aa]
  refine jA.dec (fun h5 => ?_) fun h5 => ?_
  ·kd_p
   exact h _ (j0 (by decide +kernel) fun y => by have := (key y).2.1; exact J14 7 this h5)
  kd_p
  have fin : (C.getD i 0 = 0 → T.getD i 0 = 0) → (C.getD i 0 ≠ 0 → O.getD (C.getD i 0 - 1).toNat 0 = C.getD i 0 - 1 ∧ 0 ≤ (i : Int) - B.getD (C.getD i 0 - 1).toNat 0 ∧ (i : Int) - B.getD (C.getD i 0 - 1).toNat 0 < cols) → ∀ c : Nat, c < i + 1 → kR B T C O cols c := fun q1 q2 c hc => by
   by_cases e : c = i
   ·subst e; exact ⟨by exact J14 8 h4, by exact J14 9 h5, q1, q2⟩
   ·exact hs c (by exact J0 11 hc e)
  refine jA.dec (fun h6 => ?_) fun h6 => ?_
  ·kd_p
   refine j7 Vw.refl (by exact J0 0) (by exact J3 20 hi h1) (by exact J0 7 hT) ?_
   rw [ag]
   kd_p
   refine jA.dec (fun h7 => ?_) fun h7 => ?_
   ·kd_p
    exact h _ (j0 (by decide +kernel) fun y => h7 ((key y).2.2.1 (by exact J14 10 h6)))
   ·kd_p
    exists jA.neg (by exact J14 11 h6) ?_
    exact jv.nx (by kd_all) (fun Z zz => zz (fin (fun _ => by exact J1 11 h7) fun q => by exact J14 12 q h6))
  ·kd_p
   have h8 : C.getD i 0 - 1 ≥ 0 := by exact J14 13 h4 h6
   exists jA.pos h8 ?_
   exists j7 Vw.refl h8 (by exact J14 14 h5 h4 h6) (by exact J0 3 hm e2) ?_
   refine jA.dec (fun h9 => ?_) fun h9 => ?_
   ·kd_p
    exact h _ (j0 (by decide +kernel) fun y => h9 ((key y).2.2.2 (by exact J3 23 h6)).1)
   kd_p
   exists j7 Vw.refl h8 (by exact J14 15 e2 e1 h5 h4 h6) (by exact J0 3 hm e1) ?_
   refine jA.dec (fun h10 => ?_) fun h10 => ?_
   ·kd_p
    by_cases h11 : (i : Int) - B.getD (C.getD i 0 - 1).toNat 0 < cols
    ·rw [decide_eq_true h11]
     kd_p
     exists jA.ff ?_
     exact jv.nx (by kd_all) (fun Z zz => zz (fin (fun _ => by exact J14 16 h6 ‹_›) fun q => ⟨by exact J14 17 h9, h10, h11⟩))
    ·rw [decide_eq_false h11]
     kd_p
     exists jA.tt ?_
     exact h _ (j0 (by decide +kernel) fun y => h11 ((key y).2.2.2 (by exact J3 23 h6)).2.2)
   ·kd_p
    exists jA.tt ?_
    exact h _ (j0 (by decide +kernel) fun y => h10 ((key y).2.2.2 (by exact J3 23 h6)).2.1)
 ·rintro hs
  kd_p
  exact h _ (nN (by decide +kernel) ⟨e3, .inr (by simpa using h3), hs⟩)
noncomputable def ni (B T C O : List Int) (many : Nat) (cols : Int) : Prop := tm B O many ∧ rh B T C O cols ∧ ∀ r : Nat, r < many → jw B T C (O.getD r 0) C.length = [] → B.getD r 0 = 0
theorem ni.arr {B T C O : List Int} {many : Nat} {cols : Int} (x : tm B O many) (y : rh B T C O cols) (hm : many < 64) (hC : C.length ≤ 5000) : yd B T C O := by
 refine ⟨by rw [x.1, x.2.1], y.1, fun o ho => ?_, fun k hk => ?_, by rw [x.2.1]; exact hm, hC⟩
 ·obtain ⟨i, hi, rfl⟩ := eQ ho
  have e : O.getD i 0 = O[i] := by rw [aL, aG hi]; rfl
  have := x.2.2 i (by rw [← x.2.1]; exact hi)
  rw [← e]
  exact ⟨this.1, by have := this.2.1; exact J14 18 this hi⟩
 ·obtain ⟨i, hi, rfl⟩ := eQ hk
  have e : C.getD i 0 = C[i] := by rw [aL, aG hi]; rfl
  have := y.2.2 i hi
  rw [← e]
  exact ⟨this.1, this.2.1⟩
theorem Do {d : jL} : D0 d [] = d.isEmpty := by cases d <;> simp [D0]
theorem u0 (P : PW W) {B T C O : List Int} {many : Nat} {cols : Int} (hB : B.length ≤ 5000) (hO : O.length ≤ 5000) (hm : many < 64) (hT : T.length ≤ 5000) (hC : C.length ≤ 5000) (h : ∀ s : Str, ((s == "") = true ↔ ni B T C O many cols) → Q (.str s) H) : jX W (n + 2) H (.ref 376) [wz B T C O, .int (many : Nat), .int cols] Q := by
 wtm_at "def"
 kd_p
 exists tn P hB hO (by exact J0 13 hm) fun s hs => ?_
 exists xP ?_
 refine jA.by (fun h1 => ?_) fun h1 => ?_
 rotate_left
 ·kd_p
  exists A2 ?_
  rw [h1]
  exists jA.tt ?_
  exact h _ (j0 h1 fun y => by rw [hs.mpr y.1] at h1; cases h1)
 have hR := hs.mp h1
 kd_p
 exists rX P hR (by exact J0 13 hm) hT hC fun s2 hs2 => ?_
 exists A2 ?_
 by_cases h2 : (s2 == "") = true
 rotate_left
 ·rw [show (s2 == "") = false by simpa using h2]
  exists jA.tt ?_
  exact h _ (j0 (by simpa using h2) fun y => h2 (hs2.mpr y.2.1))
 rw [h2]
 exists jA.ff ?_
 have hCs := hs2.mp h2
 have hA := ni.arr hR hCs hm hC
 exists ox P hA ?_
 have e1 := hR.1
 have e2 := hR.2.1
 exists jG ?_
 let I1 : IT jr := fun i Z => (∀ r : Nat, r < i → jw B T C (O.getD r 0) C.length = [] → B.getD r 0 = 0) → Z [lc "self" (wz B T C O), lc "many" (.int (many : Nat)), lc "columns" (.int cols), lc "found" (.str s2), lc "rows" (jW (lV B T C O)), lu "row", gb "range"] H
 refine ⟨many, rfl, by exact J0 22 hm, I1, fun Z zz => zz (by lia), ?_, ?_⟩
 ·rintro i hi hh
  have hrow : (lV B T C O)[i]? = some (jw B T C (O.getD i 0) C.length) := by
   unfold lV; rw [ax, jK (d := (0 : Int)) (by exact J0 4 e2 hi)]; rfl
  refine ⟨_, by kd_in, ?_⟩
  exists jl (kG (nH (o9 (jS ?_))))
  refine jx (x := jU (jw B T C (O.getD i 0) C.length)) Vw.refl (by exact J0 0) (by rw [ag, ax, hrow]; rfl) (by exact J1 4 hi hm) ?_
  kd_p
  intro ae
  exists D1 (e := []) Vw.refl (.dct (.head _)) ?_
  refine ⟨_, _, .one, ?_⟩
  rw [Do]
  refine jA.by (fun h3 => ?_) fun h3 => ?_
  ·kd_p
   refine j7 Vw.refl (by exact J0 0) (by exact J0 2 e1 hi) (by exact J0 10 e1 hm) ?_
   rw [ag]
   kd_p
   refine jA.dec (fun h4 => ?_) fun h4 => ?_
   ·kd_p
    exact h _ (j0 (by decide +kernel) fun y => h4 (y.2.2 i hi (by simpa using h3)))
   ·kd_p
    refine jv.nx (by kd_all) (fun Z zz => zz (fun r hr => ?_))
    by_cases e : r = i
    ·subst e; exact fun _ => by exact J1 11 h4
    ·exact hh r (by exact J0 11 hr e)
  ·kd_p
   refine jv.nx (by kd_all) (fun Z zz => zz (fun r hr => ?_))
   by_cases e : r = i
   ·subst e; exact fun q => by rw [q] at h3; cases h3
   ·exact hh r (by exact J0 11 hr e)
 ·rintro hh
  kd_p
  exact h _ (nN (by decide +kernel) ⟨hR, hCs, hh⟩)
noncomputable def wV (d : List (Str × PV)) : List (PV × PV) := d.map fun p => (PV.str p.1, p.2)
noncomputable def Eh (W : Wd) (G : Gh) : List (Str × PV) → List (Str × Value) → Prop
 | [], kvs => kvs = []
 | p :: d, kvs => ∃ v r, kvs = (p.1, v) :: r ∧ RV W G p.2 v ∧ Eh W G d r
section
variable {G : Gh}
theorem Eh.keys : ∀ {d : List (Str × PV)} {kvs}, Eh W G d kvs → kvs.map ai = d.map ai
 | [], _, h => by subst h; rfl
 | p :: d, _, h => by obtain ⟨v, r, rfl, _, h⟩ := h; simp [h.keys]
theorem Eh.snoc {k : Str} {x : PV} {v : Value} (hv : RV W G x v) : ∀ {d : List (Str × PV)} {kvs}, Eh W G d kvs → Eh W G (d ++ [(k, x)]) (kvs ++ [(k, v)])
 | [], _, h => by subst h; exact ⟨v, [], rfl, hv, rfl⟩
 | p :: d, _, h => by obtain ⟨u, r, rfl, hu, h⟩ := h; exact ⟨u, _, rfl, hu, h.snoc hv⟩
theorem tp (x : Str) (t : Tok) : (cb W.prog W.w).is x (.str x t) = true := by simp [cb, Value.isStrOf]
theorem qE (x : Str) : (cb W.prog W.w).hash x = bE W.w.params x := by rfl
theorem yi : ∀ {d : List (Str × PV)} {ds : List DictEntry}, oK W G (wV d) ds → ∃ kvs, Eh W G d kvs ∧ Pairs (cb W.prog W.w) ds kvs ∧ (∀ e ∈ ds, ∃ k : Str, (cb W.prog W.w).is k e.key = true ∧ e.hash = (cb W.prog W.w).hash k)
 | [], ds, h => by
  simp only [wV, cX, oK] at h
  subst h; exact ⟨[], rfl, .nil, fun e he => by cases he⟩
 | p :: d, ds, h => by
  simp only [wV, aC, oK] at h
  obtain ⟨e, r, e', hh, h1, h2, h3⟩ := h
  obtain ⟨kvs, k1, k2, k3⟩ := yi (d := d) h3
  obtain ⟨t, ht⟩ : ∃ t, e.key = .str p.1 t := by exact h1
  subst e'
  have hi : (cb W.prog W.w).is p.1 e.key = true := by rw [ht]; exact tp _ _
  refine ⟨(p.1, e.val) :: kvs, ⟨_, _, rfl, h2, k1⟩, .cons hi rfl k2, fun e' he => ?_⟩
  rcases au.mp he with rfl | he
  ·exact ⟨p.1, hi, by rw [hh, qE]; rfl⟩
  ·exact k3 e' he
theorem yj : ∀ {d : List (Str × PV)} {kvs} {ds : List DictEntry}, Eh W G d kvs → Pairs (cb W.prog W.w) ds kvs → (∀ e ∈ ds, ∃ k : Str, (cb W.prog W.w).is k e.key = true ∧ e.hash = (cb W.prog W.w).hash k) → oK W G (wV d) ds
 | [], kvs, ds, h, hp, hk => by
  subst h; cases hp; simp [wV, oK]
 | p :: d, kvs, ds, h, hp, hk => by
  obtain ⟨v, r, e, h1, h2⟩ := h
  subst e
  cases hp with
  | @cons e _ es _ q1 q2 q3 =>
   simp only [wV, aC, oK]
   obtain ⟨t, ht⟩ := Value.isStrOf_shape q1
   refine ⟨e, es, rfl, ?_, by exact ⟨t, ht⟩, by rw [q2]; exact h1, yj h2 q3 fun e' he => hk e' (.tail _ he)⟩
   obtain ⟨k, k1, k2⟩ := hk e (.head _)
   have : k = p.1 := (cb W.prog W.w).inj _ _ _ k1 q1
   rw [k2, this, qE]; rfl
theorem uk {d : List (Str × PV)} : ((wV d).map ai).Nodup ↔ (d.map ai).Nodup := by
 have : (wV d).map ai = (d.map ai).map PV.str := by simp [wV, aW, cI]
 rw [this]
 unfold gh
 rw [bU]
 exact ⟨fun h => h.imp fun q e => q (congrArg _ e), fun h => h.imp fun q e => q (PV.str.inj e)⟩
end
theorem Ff {a : Addr} {k : Str} {v : PV} {d : List (Str × PV)} {H' : HH} {P : HH → Prop} (hnew : k ∉ d.map ai) (U : kO a (.dct (wV d)) (.dct (wV (d ++ [(k, v)]))) H H') (hl : d.length ≤ sizeLine) (h : P H') : uz W n H (.ref a) (.str k) v P := fun A G s cv co ci R hr vv vo vi => by
 have e0 : co = .ref a := by exact vo
 obtain ⟨t, e2⟩ : ∃ t, ci = .str k t := by exact vi
 obtain ⟨ds, m, e1, ho, nd, rs⟩ := hr.slot _ _ U.there
 subst e0; subst e2
 obtain ⟨kvs, k1, k2, k3⟩ := yi rs
 have dk : s.heap.DictOf (cb W.prog W.w) a kvs := ⟨_, ds.toArray, m, e1, ⟨rfl, rfl, rfl⟩, rfl, fun e he => k3 e (by simpa using he), by simpa using k2, by rw [show (kvs.map fun x => x.1) = kvs.map ai from rfl, k1.keys]; exact uk.mp nd⟩
 have hkl : kvs.length = d.length := by have := congrArg eF k1.keys; simpa using this
 refine gR (tp _ _) dk (fun h' hd hs => ?_) (by rw [hkl]; exact hl)
 have hst : stored kvs k cv = kvs ++ [(k, cv)] := by
  unfold ji
  rw [if_neg]
  intro q
  obtain ⟨p, hp, e⟩ := bN.mp q
  refine hnew ?_
  rw [← k1.keys]
  exact az.mpr ⟨p, hp, by simpa using e⟩
 rw [hst] at hd
 obtain ⟨o, es, ep, g1, ⟨h1, h2, h3⟩, g3, g4, g5, g6⟩ := hd
 have k1' := k1.snoc (k := k) vv
 have rs' := yj k1' g5 fun e he => g4 e (by simpa using he)
 have eo : o = nS es.toList ep := by
  obtain ⟨c, dd, dt, sl⟩ := o
  simp only at h1 h2 h3 g3
  subst h1; subst h2; subst h3; subst g3
  rfl
 subst eo
 obtain ⟨y, e⟩ := hr.updD (tk := s.toks + 1) U hs g1 (uk.mpr (by rw [← k1'.keys]; exact g6)) rs'
 exact ⟨G, H', e, y, h⟩
noncomputable def oy (L : List Int) (g : Int) : Int × Int := (-(L.count g : Nat), g)
noncomputable def kg (L : List Int) : Int := if L = [] then -1 else (oN (L.map (oy L))).2
theorem oz {α : Type} {f : α → PV} {po pd v : PV} {k : Int} {d : List (Int × α)} (w : Vw H po (.dct (Dk f d))) (hv : ((jz d k).map f).getD pd = v) (h : Q v H) : mM W n H (fun vs => call (.builtin "dict.get") vs) [po, .int k, pd] Q :=
 yI w (by subst hv; cases e : jz d k <;> (rw [e] at h; exact h))
theorem ul {α : Type} {f : α → PV} {po v : PV} {k : Int} {d : List (Int × α)} (w : Vw H po (.dct (Dk f d))) (hv : ((jz d k).map f).getD .none = v) (h : Q v H) : mM W n H (fun vs => call (.builtin "dict.get") vs) [po, .int k] Q :=
 AD w (by subst hv; cases e : jz d k <;> (rw [e] at h; exact h))
theorem tq {a b : Int × Int} : nL a b = false ↔ ¬ a.1 < b.1 ∧ ¬ (a.1 = b.1 ∧ a.2 < b.2) := by
 unfold nL
 rw [bX, decide_eq_false_iff_not, ← decide_eq_false_iff_not (p := a.1 = b.1 ∧ a.2 < b.2), iW]
theorem rJ {α : Type} {d : List (Int × α)} {k : Int} {x : α} : (dset d k x).length ≤ d.length + 1 := by
 unfold dset; split <;> simp
theorem rY (P : PW W) {L : List Int} (hz : L.length < 64) (hn : ∀ g ∈ L, g ≠ -1) (h : Q (.int (kg L)) H) : jX W (n + 1) H (.ref 397) [.lst (jn L)] Q := by
 wtm_at "def"
 kd_p
 intro ac
 kd_p
 exists mX (α := Int) ?_
 let I1 : IT jr := fun i Z => ∀ d : List (Int × Int), d.length ≤ i → (∀ k, jz d k = if k ∈ L.take i then some (((L.take i).count k : Nat) : Int) else none) → Z [lc "numbers" (.lst (jn L)), lc "counts" (.ref ac), lu "number", lu "best", gb "sorted"] ((ac, .dct (Dk .int d)) :: H)
 refine ⟨L, PV.int, rfl, I1, fun Z zz => zz [] (by simp) (fun k => by simp [jz]), ?_, ?_⟩
 ·rintro i g hg d hl hd
  refine ⟨_, by kd_in, ?_⟩
  have hi := (aA.mp hg).1
  exists jl (oe rfl (kN (x_get ?_)))
  refine oz (f := PV.int) (v := PV.int (((L.take i).count g : Nat) : Int)) (.dct (.head _)) ?_ ?_
  ·rw [hd]
   by_cases e : g ∈ L.take i
   ·rw [if_pos e]; rfl
   ·rw [if_neg e, List.count_eq_zero.mpr e]; rfl
  kd_p
  refine kI (f := PV.int) rfl (by wtm_at "updh") (by rw [am]; exact J4 0 hl hi hz) ?_
  kd_p
  refine jv.nx (by kd_all) (fun Z zz => zz _ (by have := rJ (d := d) (k := g) (x := (((L.take i).count g : Nat) : Int) + 1); exact J14 19 hl this) (fun k => ?_))
  rw [m3, a7, hg, cm, hd]
  simp only [aQ, aP, List.count_append]
  by_cases e : k = g
  ·subst e; simp
  ·have e' : ¬ g = k := fun q => e q.symm
   simp [e, e', List.count_singleton]
 ·rintro d hl hd
  rw [aZ] at hd
  have hS : ∀ k, k ∈ srt (d.map ai) ↔ k ∈ L := fun k => by
   rw [(qs _).mem_iff, ← rd, hd]
   by_cases e : k ∈ L <;> simp [e]
  have hsrt := sV (d.map ai)
  exists jl (jB rfl ?_)
  exists mX (α := Int) (lg (lr P (by kd_mem) ?_))
  refine lB (f := PV.int) (.dct (.head _)) (by exact J4 1 hl hz) fun a => ⟨a, _, _, rfl, rfl, ?_⟩
  generalize srt (d.map ai) = S at *
  let I2 : IT jr := fun i Z => ∀ best, ((i = 0 ∧ best = -1) ∨ (best ∈ S.take i ∧ ∀ k ∈ S.take i, nL (oy L k) (oy L best) = false)) → Z [lc "numbers" (.lst (jn L)), lc "counts" (.ref ac), lu "number", lc "best" (.int best), gb "sorted"] ((ac, .dct (Dk .int d)) :: H)
  refine ⟨S, PV.int, rfl, I2, fun Z zz => zz _ (.inl ⟨rfl, rfl⟩), ?_, ?_⟩
  ·rintro i g hg best hb
   have hgL := (hS g).mp (aS hg)
   have hdg : jz d g = some ((L.count g : Nat) : Int) := by rw [hd, if_pos hgL]
   have hsp : S = S.take i ++ g :: S.drop (i + 1) := by
    obtain ⟨h1, h2⟩ := aA.mp hg
    rw [← h2, bY, bS]
   have hle : ∀ k ∈ S.take i, k ≤ g := fun k hk => (bG.mp (hsp ▸ hsrt)).2.2 k hk g (.head _)
   have htk : S.take (i + 1) = S.take i ++ [g] := by rw [a7, hg]; rfl
   exists ⟨_, by kd_in, ?_⟩
   refine jA.dec (fun h1 => ?_) fun h1 => ?_
   ·kd_p
    have h0 : i = 0 := by
     rcases hb with hb | hb
     ·exact hb.1
     ·exact absurd h1 (hn best ((hS best).mp (dC hb.1)))
    subst h0
    refine jv.nx (by kd_all) (fun Z zz => zz _ (.inr ⟨by rw [htk]; simp, fun k hk => ?_⟩))
    rw [htk] at hk; simp at hk; subst hk
    simp [nL]
   ·obtain ⟨hb1, hb2⟩ : best ∈ S.take i ∧ ∀ k ∈ S.take i, nL (oy L k) (oy L best) = false := by
     rcases hb with hb | hb
     ·exact absurd hb.2 h1
     ·exact hb
    have hbL := (hS best).mp (dC hb1)
    kd_p
    exists mv (f := PV.int) (.dct (.head _)) hdg ?_
    exists mv (f := PV.int) (.dct (.head _)) (by rw [hd, if_pos hbL]) ?_
    refine jA.dec (fun h2 => ?_) fun h2 => ?_
    ·kd_p
     refine jv.nx (by kd_all) (fun Z zz => zz _ (.inr ⟨by rw [htk]; simp, fun k hk => ?_⟩))
     rw [htk] at hk
     rcases aQ.mp hk with hk | hk
     ·have h3 := hb2 k hk
      rw [tq] at h3 ⊢
      unfold oy at h3 ⊢
      lia
     ·simp at hk; subst hk; simp [nL]
    ·kd_p
     refine jv.nx (by kd_all) (fun Z zz => zz _ (.inr ⟨by rw [htk]; exact bu _ hb1, fun k hk => ?_⟩))
     rw [htk] at hk
     rcases aQ.mp hk with hk | hk
     ·exact hb2 k hk
     ·simp at hk; subst hk
      have := hle best hb1
      rw [tq]
      unfold oy
      lia
  ·rintro best hb
   exists Bm .one ?_
   rw [aZ] at hb
   have : best = kg L := by
    unfold kg
    rcases hb with ⟨h1, h2⟩ | ⟨h1, h2⟩
    ·have : L = [] := by
      cases L with
      | nil => rfl
      | cons x L => have := (hS x).mpr (.head _); rw [f8.mp h1] at this; cases this
     rw [if_pos this]; exact h2
    ·have hbL := (hS best).mp h1
     rw [if_neg (fun q => by rw [q] at hbL; cases hbL)]
     rw [← uP (L := L.map (oy L)) (x := oy L best) (aO hbL) fun y hy => ?_]
     ·rfl
     ·obtain ⟨k, hk, rfl⟩ := az.mp hy
      exact h2 k ((hS k).mpr hk)
   rw [this]; exact h
structure AR where
 B : List Int
 T : List Int
 C : List Int
 O : List Int
noncomputable abbrev Ft (a : AR) : PV := wz a.B a.T a.C a.O
structure p5 (a : AR) (rows : Nat) : Prop where
 b : a.B.length = rows
 o : a.O.length = rows
 ct : a.C.length ≤ a.T.length
 t : a.T.length ≤ 5000
 r : rows ≤ 5000
noncomputable abbrev um (L : List Str) : List PV := L.map .str
noncomputable def pO (names : List Str) (tc : Nat) : List (Str × PV) := (av tc).map fun (i : Nat) => (names.getD i "", PV.int (i : Int))
theorem wW {names tc} : pO names (tc + 1) = pO names tc ++ [(names.getD tc "", PV.int (tc : Int))] := by
 unfold pO; rw [bA, aJ]; rfl
theorem zj {names : List Str} {i : Nat} (hn : names.Nodup) (hi : i < names.length) : names.getD i "" ∉ (pO names i).map ai := fun q => by
 unfold pO at q
 rw [aW] at q
 obtain ⟨j, hj, e⟩ := az.mp q
 rw [aM] at hj
 simp only [cI] at e
 have h1 := jK (d := ("" : Str)) hi
 have h2 := jK (d := ("" : Str)) (show j < names.length by exact J6 12 hj hi)
 rw [← e] at h1
 obtain ⟨a1, b1⟩ := aA.mp h1
 obtain ⟨a2, b2⟩ := aA.mp h2
 exact fB.mp hn j i a2 a1 hj (b2.trans b1.symm)
noncomputable abbrev GK (nm : PV) (tc : Nat) (lf ln bf df nu : PV) : List (Str × PV) := [("names", nm), ("terminal_count", .int (tc : Nat)), ("lefts", lf), ("lengths", ln), ("befores", bf), ("defaults", df), ("numbers", nu)]
theorem tQ (P : PW W) {a : Addr} {names : List Str} {tc : Nat} {lf ln bf : PV} (hn : names.Nodup) (ht : tc ≤ names.length) (hz : names.length ≤ 5000)
  (h : ∀ d u, Q .none ((u, .dct (wV (pO names tc))) :: (d, .lst []) :: (a, .ins "PackedTables" (GK (.lst (um names)) tc lf ln bf (.ref d) (.ref u))) :: H)) :
  jX W (n + 1) ((a, .ins "PackedTables" []) :: H) (.ref 143) [.ref a, .lst (um names), .int (tc : Nat), lf, ln, bf] Q := by
 wtm_at "def"
 kd_p
 intro d
 kd_p
 intro u
 kd_p
 exists jG ?_
 let I1 : IT jr := fun i Z => Z [lc "self" (.ref a), lc "names" (.lst (um names)), lc "terminal_count" (.int (tc : Nat)), lc "lefts" lf, lc "lengths" ln, lc "befores" bf, lu "number", gb "range"] ((u, .dct (wV (pO names i))) :: (d, .lst []) :: (a, .ins "PackedTables" (GK (.lst (um names)) tc lf ln bf (.ref d) (.ref u))) :: H)
 refine ⟨tc, rfl, by exact J14 20 ht hz, I1, fun Z zz => zz, ?_, ?_⟩
 ·rintro i hi
  exists ⟨_, by kd_in, ?_⟩
  refine jx (x := .str (names.getD i "")) Vw.refl (by exact J0 0) (by rw [ag, ax, jK (d := ("" : Str)) (by exact J6 13 ht hi)]; rfl) (by exact J14 21 ht hz hi) ?_
  kd_p
  refine Ff (zj hn (by exact J6 13 ht hi)) (by wtm_at "updh") (by rw [am]; unfold pO; rw [aa, aq]; exact J14 22 ht hz hi) ?_
  kd_p
  rw [← wW]
  exact jv.nx (by kd_all) (fun Z zz => zz)
 ·show lj _ _ _ _ _ _
  kd_p
  exact h d u
noncomputable abbrev p6 (nm : PV) (tc : Nat) (lf ln bf df nu : PV) (a g : AR) (gd gm : PV) : PV := .ins "PackedTables" [("names", nm), ("terminal_count", .int (tc : Nat)), ("lefts", lf), ("lengths", ln), ("befores", bf), ("defaults", df), ("numbers", nu),
 ("actions", Ft a), ("bases", .lst (jn a.B)), ("table", .lst (jn a.T)), ("check", .lst (jn a.C)), ("owners", .lst (jn a.O)),
 ("gotos", Ft g), ("goto_bases", .lst (jn g.B)), ("goto_table", .lst (jn g.T)), ("goto_check", .lst (jn g.C)), ("goto_owners", .lst (jn g.O)), ("goto_defaults", gd), ("goto_masks", gm)]
theorem BK (P : PW W) {names : List Str} {tc : Nat} {lf ln bf df gd gm : PV} {a g : AR} (hn : names.Nodup) (ht : tc ≤ names.length) (hz : names.length ≤ 5000)
  (h : Q (p6 (.lst (um names)) tc lf ln bf df (.dct (wV (pO names tc))) a g gd gm) H) :
  jX W (n + 3) H (.ref 442) [.tup [.lst (um names), .int (tc : Nat), lf, ln, bf], df, Ft a, Ft g, gd, gm] Q := by
 refine jX.frz (ra P fun x => ?_)
 wtm_at "def"
 exists jl (oh rfl rfl ?_)
 refine mU (xs := ["names", "terminal_count", "lefts", "lengths", "befores"]) (ps := [.lst (um names), .int (tc : Nat), lf, ln, bf]) Vw.refl rfl (.cons (by kd_in) (.cons (by kd_in) (.cons (by kd_in) (.cons (by kd_in) (.cons (by kd_in) .nil))))) ?_
 refine jl (lv rfl (A7 (by kd_mem) (y2 P) (f := 143) (by rw [P.K]; kernel_rfl) rfl rfl (by decide) ?_))
 kd_p
 exists tQ P hn ht hz fun d u => ⟨rfl, ?_⟩
 exact ⟨rfl, H, _, H, _, .r (.r (.r .none)), .ins (.tail _ (.tail _ (.head _))) (.cons .refl (.cons .refl (.cons .refl (.cons .refl (.cons .refl (.cons .refl (.cons (.dct (.head _) .refl) .refl))))))), mS.refl, h⟩
noncomputable def lX (a : AR) (state : Nat) (t : Int) : Int := (lG (a.B.getD state 0) a.T a.C (a.O.getD state 0) t).getD 0
noncomputable def n0 (tc : Nat) (ms : List (List Nat)) (g : AR) (gd : List Int) (state : Nat) (nt : Int) : Int :=
 if nt - tc < 0 ∨ nt - tc ≥ ms.length then -1 else if state ∉ ms.getD (nt - tc).toNat [] then -1 else (lG (g.B.getD (nt - tc).toNat 0) g.T g.C (g.O.getD (nt - tc).toNat 0) state).getD (gd.getD (nt - tc).toNat 0)
noncomputable abbrev wA (ms : List (List Nat)) : PV := .lst (ms.map fun M => .int (pw 0 M : Nat))
theorem Fg {s : Nat} : ∀ {M : List Nat}, M.Pairwise (· < ·) → pw 0 M / 2 ^ s % 2 = if s ∈ M then 1 else 0 := by
 have gen : ∀ (i : Nat) {M : List Nat}, M.Pairwise (· < ·) → (∀ x ∈ M, i ≤ x) → ∀ s, i ≤ s → pw i M / 2 ^ (s - i) % 2 = if s ∈ M then 1 else 0 := by
  intro i M hM hi s hs
  obtain ⟨k, rfl⟩ : ∃ k, s = i + k := ⟨s - i, by exact J14 23 hs⟩
  rw [show i + k - i = k by exact J15 0]
  induction k generalizing i M with
  | zero =>
   rw [Nat.pow_zero, Nat.div_one, Nat.add_zero]
   cases M with
   | nil => rfl
   | cons x M =>
    rw [cj] at hM
    by_cases e : x = i
    ·subst e
     rw [oq, rH hM.1, if_pos (.head _)]; simp
    ·have h0 := hi x (.head _)
     have : ∀ y ∈ x :: M, i < y := fun y hy => by
      rcases au.mp hy with rfl | hy
      ·exact J2 15 h0 e
      ·have := hM.1 y hy; exact J4 2 h0 this
     rw [rH this, if_neg (fun q => by have := this i q; exact J15 1 this)]; lia
  | succ k ih =>
   have hdiv : ∀ {M : List Nat}, M.Pairwise (· < ·) → (∀ x ∈ M, i < x) → pw i M / 2 = pw (i + 1) M := fun h1 h2 => by rw [rH h2]; lia
   have key : ∃ M', pw i M / 2 = pw (i + 1) M' ∧ M'.Pairwise (· < ·) ∧ (∀ x ∈ M', i + 1 ≤ x) ∧ ∀ z, i < z → (z ∈ M ↔ z ∈ M') := by
    cases M with
    | nil => exact ⟨[], by rw [BE, BE], hM, by simp, fun _ _ => Iff.rfl⟩
    | cons x M =>
     rw [cj] at hM
     by_cases e : x = i
     ·subst e
      refine ⟨M, ?_, hM.2, hM.1, fun z hz => ?_⟩
      ·rw [oq, rH hM.1]; simp; lia
      ·rw [au]; exact ⟨fun q => by rcases q with q | q; lia; exact q, .inr⟩
     ·have h0 := hi x (.head _)
      have : ∀ y ∈ x :: M, i < y := fun y hy => by
       rcases au.mp hy with rfl | hy
       ·exact J2 15 h0 e
       ·have := hM.1 y hy; exact J4 2 h0 this
      exact ⟨x :: M, by rw [rH this]; lia, cj.mpr hM, this, fun _ _ => Iff.rfl⟩
   obtain ⟨M', e1, e2, e3, e4⟩ := key
   have := ih (i + 1) e2 e3 (by exact J15 2)
   rw [iq, Nat.mul_comm, ← Nat.div_div_eq_div_mul, e1, this, show i + 1 + k = i + (k + 1) by exact J15 3]
   by_cases q : i + (k + 1) ∈ M'
   ·rw [if_pos q, if_pos ((e4 _ (by exact J6 14)).mpr q)]
   ·rw [if_neg q, if_neg (fun z => q ((e4 _ (by exact J6 14)).mp z))]
 intro M hM
 have := gen 0 hM (fun _ _ => bF _) s (bF _)
 exact this
theorem Iw (k j : Nat) : (k : Int).fdiv (2 ^ (j : Int).toNat) = ((k / 2 ^ j : Nat) : Int) := by
 rw [ag, dA _ (Int.pow_nonneg (by decide))]
 norm_cast
variable {nm lf ln bf df nu gd gm : PV} {tc : Nat} {a g : AR} {st : Nat}
theorem nj (P : PW W) (hb : a.B.length ≤ 5000) (h : Q (.int (a.B.length : Nat)) H) : jX W (n + 1) H (.ref 418) [p6 nm tc lf ln bf df nu a g gd gm] Q := by
 have hs := pK hb
 wtm_at "def"
 kd_p
 rw [aa]; exact h
theorem mn (P : PW W) {rows : Nat} (x : p5 a rows) (hs : st < rows) {t : Int} (h : Q (.int (lX a st t)) H) : jX W (n + 3) H (.ref 425) [p6 nm tc lf ln bf df nu a g gd gm, .int (st : Nat), .int t] Q := by
 have h1 := x.b
 have h2 := x.o
 have h3 := x.r
 wtm_at "def"
 exists jl (jB rfl (x_meth ?_))
 refine ti P (by exact J0 4 h1 hs) (by exact J0 3 h3 h1) (by exact J0 4 h2 hs) (by exact J0 3 h3 h2) x.ct x.t ?_
 unfold lX at h
 cases e : lG (a.B.getD st 0) a.T a.C (a.O.getD st 0) t with
 | none =>
  rw [e] at h
  kd_p
  exists jA.tt ?_
  exact h
 | some v =>
  rw [e] at h
  kd_p
  exists jA.ff ?_
  exact h
theorem oA (P : PW W) {defs : List Int} (hs : st < defs.length) (hz : defs.length ≤ 5000) (h : Q (.int (defs.getD st 0)) H) : jX W (n + 1) H (.ref 192) [p6 nm tc lf ln bf (.lst (jn defs)) nu a g gd gm, .int (st : Nat)] Q := by
 wtm_at "def"
 kd_p
 refine j7 Vw.refl (by exact J0 0) (by exact J0 1 hs) (by exact J0 7 hz) ?_
 exact h
section
variable {nm lf ln bf df nu gd gm : PV} {tc : Nat} {a g : AR} {st : Nat}
theorem yk {ms : List (List Nat)} {k : Nat} (h : k < ms.length) : (ms.map fun M => PV.int (pw 0 M : Nat))[k]? = some (.int (pw 0 (ms.getD k []) : Nat)) := by
 rw [ax, jK (d := ([] : List Nat)) h]; rfl
theorem ri (P : PW W) {ms : List (List Nat)} {gds : List Int} {rows : Nat} (x : p5 g rows) (hm : ms.length = rows) (hg : gds.length = rows) (hM : ∀ M ∈ ms, M.Pairwise (· < ·)) {nt : Int} (h : Q (.int (n0 tc ms g gds st nt)) H) :
  jX W (n + 3) H (.ref 432) [p6 nm tc lf ln bf df nu a g (.lst (jn gds)) (wA ms), .int (st : Nat), .int nt] Q := by
 have h1 := x.b
 have h2 := x.o
 have h3 := x.r
 have hsz : (ms.map fun M => PV.int (pw 0 M : Nat)).length ≤ sizeLine := by rw [aa, am]; exact J15 4 h3 hm
 wtm_at "def"
 kd_p
 refine jA.dec (fun h4 => ?_) fun h4 => ?_
 ·kd_p
  unfold n0 at h; rw [if_pos (.inl h4)] at h; exact h
 kd_p
 rw [aa]
 refine jA.dec (fun h5 => ?_) fun h5 => ?_
 ·kd_p
  unfold n0 at h; rw [if_pos (.inr h5)] at h; exact h
 obtain ⟨k, hk⟩ : ∃ k : Nat, nt - (tc : Int) = (k : Int) := ⟨(nt - tc).toNat, by exact J15 5 h4⟩
 unfold n0 at h
 rw [if_neg (by exact J15 6 h5 h4), hk, ag] at h
 kd_p
 rw [hk]
 refine jx (x := .int (pw 0 (ms.getD k []) : Nat)) Vw.refl (by exact J0 0) (by rw [ag]; exact yk (by exact J6 15 h5 hk)) (by exact J15 7 h3 hm h5 hk) ?_
 kd_p
 refine AI (by exact J0 0) ?_
 rw [Iw]
 kd_p
 rw [GF, Fg (hM _ (jp (by exact J6 15 h5 hk)))]
 refine jA.dec (fun h6 => ?_) fun h6 => ?_
 ·have : st ∉ ms.getD k [] := fun q => by rw [if_pos q] at h6; exact J15 8 h6
  rw [if_pos this] at h
  kd_p
  exact h
 ·have : st ∈ ms.getD k [] := by
   by_cases q : st ∈ ms.getD k []
   ·exact q
   ·exact absurd (by rw [if_neg q]; rfl) h6
  rw [if_neg (fun q => q this)] at h
  kd_p
  exists x_meth ?_
  refine ti P (by exact J6 16 h1 hm h5 hk) (by exact J0 3 h3 h1) (by exact J6 16 h2 hm h5 hk) (by exact J0 3 h3 h2) x.ct x.t ?_
  cases e : lG (g.B.getD k 0) g.T g.C (g.O.getD k 0) (st : Nat) with
  | none =>
   rw [e] at h
   kd_p
   exists jA.tt ?_
   refine j7 Vw.refl (by exact J0 0) (by exact J15 9 hg hm h5 hk) (by exact J0 3 h3 hg) ?_
   exact h
  | some v =>
   rw [e] at h
   kd_p
   exists jA.ff ?_
   exact h
theorem tu (P : PW W) (ha : a.T.length ≤ 5000) (hg : g.T.length ≤ 5000) (h : Q (.int ((a.T.length : Nat) + (g.T.length : Nat))) H) : jX W (n + 2) H (.ref 439) [p6 nm tc lf ln bf df nu a g gd gm] Q := by
 wtm_at "def"
 kd_p
 exists ou P ha ?_
 exists ou P hg ?_
 exact h
noncomputable def nO : Int := -1048576
noncomputable def Dp (a : AR) (defs : List Int) (st : Nat) (t : Int) : Int := if lX a st t = nO then 0 else if lX a st t = 0 then -(defs.getD st 0) else lX a st t
theorem vY (P : PW W) {rows : Nat} {defs : List Int} (x : p5 a rows) (hs : st < rows) (hd : defs.length = rows) {t : Int} (h : Q (.int (Dp a defs st t)) H) : jX W (n + 4) H (.ref 206) [p6 nm tc lf ln bf (.lst (jn defs)) nu a g gd gm, .int (st : Nat), .int t] Q := by
 have h3 := x.r
 wtm_at "def"
 kd_p
 exists mn P x hs ?_
 unfold Dp nO at h
 kd_p
 refine jA.dec (fun h4 => ?_) fun h4 => ?_
 ·kd_p
  rw [if_pos h4] at h; exact h
 rw [if_neg h4] at h
 kd_p
 refine jA.dec (fun h5 => ?_) fun h5 => ?_
 ·kd_p
  exists oA P (by exact J0 4 hd hs) (by exact J0 3 h3 hd) ?_
  rw [if_pos h5] at h; exact h
 ·kd_p
  rw [if_neg h5] at h; exact h
noncomputable def oH (a : AR) (st : Nat) (t : Nat) : Bool := !(t == 1 || t == 2) && !(decide (lX a st t = 0) || decide (lX a st t = nO))
noncomputable def nD (a : AR) (tc : Nat) (st : Nat) : List Nat := (av tc).filter (oH a st)
theorem rK {a : AR} {st i : Nat} {b : Bool} (e : b = oH a st i) : nD a (i + 1) st = nD a i st ++ if b then [i] else [] := by
 unfold nD; rw [bA, cC]; congr 1; subst e
 by_cases q : oH a st i = true <;> simp [q]
theorem tR (P : PW W) {rows : Nat} (x : p5 a rows) (hs : st < rows) (ht : tc ≤ 5000) (h : Q (.lst (oY (nD a tc st))) H) : jX W (n + 4) H (.ref 213) [p6 nm tc lf ln bf df nu a g gd gm, .int (st : Nat)] Q := by
 wtm_at "def"
 kd_p
 intro f
 kd_p
 exists jG ?_
 let I1 : IT jr := fun i Z => Z [lc "self" (p6 nm tc lf ln bf df nu a g gd gm), lc "state" (.int (st : Nat)), lc "found" (.ref f), lu "terminal", lu "told", gb "range", gb "ERROR", gb "UNDEFINED", gb "BARRED"] ((f, .lst (oY (nD a i st))) :: H)
 refine ⟨tc, rfl, by exact J0 17 ht, I1, fun Z zz => zz, ?_, ?_⟩
 ·rintro i hi
  refine ⟨_, by kd_in, ?_⟩
  have no : oH a st i = false → nD a i st = nD a (i + 1) st := fun e => by rw [rK e.symm]; simp
  kd_p
  refine jA.dec (fun h4 => ?_) fun h4 => ?_
  rotate_left
  ·kd_p
   rw [no (by unfold oH; rw [show i = 1 by exact J15 10 h4]; rfl)]
   exact jv.nx (by kd_all) (fun Z zz => zz)
  kd_p
  refine jA.dec (fun h5 => ?_) fun h5 => ?_
  rotate_left
  ·kd_p
   rw [no (by unfold oH; rw [show i = 2 by exact J15 11 h5]; rfl)]
   exact jv.nx (by kd_all) (fun Z zz => zz)
  have h45 : (!((i == 1) || (i == 2))) = true := by simp; exact J15 12 h4 h5
  kd_p
  exists mn P x hs ?_
  refine jA.dec (fun h6 => ?_) fun h6 => ?_
  rotate_left
  ·kd_p
   rw [no (by unfold oH; rw [decide_eq_true (show lX a st i = 0 by exact J1 11 h6)]; simp)]
   exact jv.nx (by kd_all) (fun Z zz => zz)
  kd_p
  refine jA.dec (fun h7 => ?_) fun h7 => ?_
  ·kd_p
   ·rw [tf]
    have := rK (a := a) (st := st) (i := i) (b := true) (by unfold oH; rw [h45, decide_eq_false h6, decide_eq_false (show ¬ lX a st i = nO from h7)]; rfl)
    rw [if_pos rfl] at this
    rw [← this]
    exact jv.nx (by kd_all) (fun Z zz => zz)
   ·rw [aa, am]
    have := bm (oH a st) (av i)
    rw [aq] at this
    unfold nD; exact J6 17 this ht hi
  ·kd_p
   rw [no (by unfold oH; rw [decide_eq_true (show lX a st i = nO by unfold nO; exact J15 13 h7)]; simp)]
   exact jv.nx (by kd_all) (fun Z zz => zz)
 ·show lj _ _ _ _ _ _
  exists jl (jP (lg ?_))
  exact ⟨f, _, _, rfl, rfl, h⟩
end
noncomputable def kj (p : Nat → Bool) (f : Nat → Int) (n : Nat) : jL := ((av n).filter p).map fun (t : Nat) => ((t : Int), f t)
theorem kM {p : Nat → Bool} {f : Nat → Int} {n : Nat} {b : Bool} (e : p n = b) : kj p f (n + 1) = kj p f n ++ if b then [((n : Int), f n)] else [] := by
 unfold kj; rw [bA, cC, aJ]; congr 1; subst e
 by_cases q : p n = true <;> simp [q]
theorem lY {p : Nat → Bool} {f : Nat → Int} {n : Nat} {q : Int × Int} (h : q ∈ kj p f n) : ∃ t : Nat, t < n ∧ p t = true ∧ q = ((t : Int), f t) := by
 unfold kj at h
 obtain ⟨t, ht, rfl⟩ := az.mp h
 obtain ⟨h1, h2⟩ := bz.mp ht
 exact ⟨t, aM.mp h1, h2, rfl⟩
theorem lZ {p : Nat → Bool} {f : Nat → Int} : ∀ {n : Nat}, qO (kj p f n)
 | 0 => by unfold kj qO; simp
 | n + 1 => by
  rw [kM rfl]
  split
  ·unfold qO
   rw [aJ, bG]
   refine ⟨lZ, by simp, fun a ha b hb => ?_⟩
   obtain ⟨q, hq, rfl⟩ := az.mp ha
   simp at hb; subst hb
   obtain ⟨t, ht, _, rfl⟩ := lY hq
   simp only; exact J0 23 ht
  ·rw [bl]; exact lZ
theorem kJ {p : Nat → Bool} {f : Nat → Int} {n : Nat} : (kj p f n).length ≤ n := by
 unfold kj; rw [aa]; exact bj (bm _ _) (by simp)
theorem qF {p : Nat → Bool} {f : Nat → Int} {n : Nat} (h : n < 64) : o7 (kj p f n) :=
 ⟨lZ, fun q hq => by obtain ⟨t, ht, _, rfl⟩ := lY hq; simp only; exact J0 0, fun q hq => by obtain ⟨t, ht, _, rfl⟩ := lY hq; simp only; exact J15 14 ht h, bH kJ h⟩
theorem pD {p : Nat → Bool} {f : Nat → Int} {n : Nat} {v : Int} : dset (kj p f n) (n : Int) v = kj p f n ++ [((n : Int), v)] := o6 (lE.mpr fun q => by
 obtain ⟨x, hx, e⟩ := az.mp q
 obtain ⟨t, ht, _, rfl⟩ := lY hx
 simp only at e; exact J15 15 ht e)
theorem rj {p : Nat → Bool} {f : Nat → Int} {n t : Nat} (h : t < n) : jz (kj p f n) (t : Int) = if p t = true then some (f t) else none := by
 by_cases q : p t = true
 ·rw [if_pos q]
  have : ((t : Int), f t) ∈ kj p f n := by unfold kj; exact az.mpr ⟨t, bz.mpr ⟨aM.mpr h, q⟩, rfl⟩
  exact lZ.get this
 ·rw [if_neg q]
  refine lE.mpr fun z => ?_
  obtain ⟨x, hx, e⟩ := az.mp z
  obtain ⟨u, hu, h2, rfl⟩ := lY hx
  simp only at e
  have : u = t := by exact J1 20 e
  subst this; exact q h2
theorem mc {d : jL} (h : d.length ≤ 5000) : d.length ≤ sizeLine := by rw [am]; exact J0 8 h
inductive GL (W : Wd) (n : Nat) (r : jr) (x : Str) (body : List Stmt) (Q : jH) (p : PV) (H1 : HH) : Prop
 | mk (lo hi : Nat) (e : p = .rng lo hi) (b : lo ≤ hi ∧ hi < 2 ^ 62) (I : IT jr) (i0 : Of (I 0) r H1)
   (step : ∀ i, i < hi - lo → I i (CG W n x (.int ((lo + i : Nat) : Int)) body (jv W (Of (I (i + 1))) Q))) (fin : I (hi - lo) (Q .next))
theorem sj {x px iter body pos} {Q : jH} (h : Ev W n r H iter (GL W n r x body Q))
  (hs : autoParam (∀ env x, foldedSetIterable iter env x = pure x) aI) : Ex W n r H (.For (.Name x px) iter body [] pos) Q :=
 m7 (tt := false) (fun h => nomatch h) (ta (h.mono fun p H1 h => by
  obtain ⟨lo, hi, e, hb, I, h0, step, done⟩ := h
  exact ⟨lo, hi, e, ⟨by exact J3 18, by exact J15 17 hb, by exact J3 18, by exact J15 18 hb⟩, fun i => Of (I i), h0, fun i x' r' H' hx hI => by
  rw [ax] at hx
  obtain ⟨y, hy, rfl⟩ := bc.mp hx
  have hi' := (aA.mp hy).1
  rw [k6] at hi'
  rw [sL hi'] at hy
  cases hy
  obtain ⟨r2, U, E⟩ := hI _ (step i (by exact J15 19 hi'))
  exact m6 U E, fun r' H' hI => by rw [aa, k6, show ((hi : Int) - lo).toNat = hi - lo by exact J15 20] at hI; exact hI _ done⟩)) hs
section
variable {nm lf ln bf df nu gd gm : PV} {tc : Nat} {a g : AR}
noncomputable def rZ (a : AR) (tc st : Nat) : jL := kj (fun t => !decide (lX a st (t : Int) = 0)) (fun t => lX a st (t : Int)) tc
noncomputable def rL (a : AR) (tc rows : Nat) : List jL := (av rows).map (rZ a tc)
theorem tS (P : PW W) {rows : Nat} (x : p5 a rows) (ht : tc ≤ 5000) (h : Q (jW (rL a tc rows)) H) : jX W (n + 4) H (.ref 451) [p6 nm tc lf ln bf df nu a g gd gm] Q := by
 have hr := x.r
 have hb := x.b
 wtm_at "def"
 kd_p
 intro ar
 kd_p
 exists jG ?_
 refine nj P (by exact J0 3 hr hb) ?_
 rw [hb]
 kd_p
 let I1 : IT jr := fun i Z => Z [lc "tables" (p6 nm tc lf ln bf df nu a g gd gm), lc "rows" (.ref ar), lu "state", lu "row", lu "terminal", lu "action", gb "range"] ((ar, .lst (((av i).map (rZ a tc)).map jU)) :: H)
 refine ⟨rows, rfl, by exact J0 17 hr, I1, fun Z zz => zz, ?_, ?_⟩
 ·rintro i hi
  exists ⟨_, by kd_in, ?_⟩
  intro aw
  kd_p
  exists jG ?_
  let I2 : IT jr := fun j Z => Z [lc "tables" (p6 nm tc lf ln bf df nu a g gd gm), lc "rows" (.ref ar), lc "state" (.int (i : Nat)), lc "row" (.ref aw), lu "terminal", lu "action", gb "range"] ((aw, .dct (Dk .int (rZ a j i))) :: (ar, .lst (((av i).map (rZ a tc)).map jU)) :: H)
  refine ⟨tc, rfl, by exact J0 17 ht, I2, fun Z zz => zz, ?_, ?_⟩
  ·rintro j hj
   exists ⟨_, by kd_in, ?_⟩
   exists mn P x hi ?_
   refine jA.dec (fun h1 => ?_) fun h1 => ?_
   ·kd_p
    refine kI (f := PV.int) rfl (by wtm_at "updh") (mc (by have := kJ (p := fun t => !decide (lX a i (t : Int) = 0)) (f := fun t => lX a i (t : Int)) (n := j); unfold rZ; exact J6 18 this ht hj)) ?_
    kd_p
    have : dset (rZ a j i) (j : Int) (lX a i j) = rZ a (j + 1) i := by
     unfold rZ; rw [pD, kM (b := true) (by rw [decide_eq_false h1]; rfl), if_pos rfl]
    rw [this]
    exact jv.nx (by kd_all) (fun Z zz => zz)
   ·kd_p
    have : rZ a j i = rZ a (j + 1) i := by
     unfold rZ; rw [kM (b := false) (by rw [decide_eq_true (by exact J1 11 h1)]; rfl), if_neg (by simp), bl]
    rw [this]
    exact jv.nx (by kd_all) (fun Z zz => zz)
  ·show lj _ _ _ _ _ _
   kd_p
   ·refine jv.fz .one (by kd_all) (.lst (ny.snoc (.dct (.head _) .refl)) mS.refl) (Of.eqH ?_ (fun Z zz => zz))
    rw [bA, aJ, aJ]; rfl
   ·rw [aa, aa, aq, am]; exact J6 19 hr hi
 ·show lj _ _ _ _ _ _
  exists jl (jP (lg ?_))
  exact ⟨ar, _, _, rfl, rfl, h⟩
noncomputable def r8 (tc : Nat) (ms : List (List Nat)) (g : AR) (gds : List Int) (k size : Nat) : jL := kj (fun st => !decide (n0 tc ms g gds st ((tc + k : Nat) : Int) = -1)) (fun st => n0 tc ms g gds st ((tc + k : Nat) : Int)) size
noncomputable def qG (tc : Nat) (ms : List (List Nat)) (g : AR) (gds : List Int) (others size : Nat) : List jL := (av others).map fun k => r8 tc ms g gds k size
theorem tv (P : PW W) {names : List Str} {ms : List (List Nat)} {gds : List Int} {rows size : Nat} (x : p5 g rows) (hm : ms.length = rows) (hg : gds.length = rows) (hM : ∀ M ∈ ms, M.Pairwise (· < ·)) (hb : a.B.length = size) (hz : size ≤ 5000) (ht : tc ≤ names.length) (hn : names.length ≤ 5000)
  (h : Q (jW (qG tc ms g gds (names.length - tc) size)) H) : jX W (n + 4) H (.ref 458) [p6 (.lst (um names)) tc lf ln bf df nu a g (.lst (jn gds)) (wA ms)] Q := by
 have hsn : (um names).length ≤ sizeLine := by rw [aa, am]; exact J0 8 hn
 wtm_at "def"
 kd_p
 intro ar
 kd_p
 exists sj ?_
 rw [aa]
 let I3 : IT jr := fun i Z => Z [lc "tables" (p6 (.lst (um names)) tc lf ln bf df nu a g (.lst (jn gds)) (wA ms)), lc "columns" (.ref ar), lu "nonterminal", lu "column", lu "state", lu "goal", gb "range", gb "len"] ((ar, .lst (((av i).map fun k => r8 tc ms g gds k size).map jU)) :: H)
 refine ⟨tc, names.length, rfl, ⟨ht, by exact J0 17 hn⟩, I3, fun Z zz => zz, ?_, ?_⟩
 ·rintro i hi
  exists ⟨_, by kd_in, ?_⟩
  intro aw
  kd_p
  exists jG ?_
  refine nj P (by exact J0 3 hz hb) ?_
  rw [hb]
  kd_p
  let I4 : IT jr := fun j Z => Z [lc "tables" (p6 (.lst (um names)) tc lf ln bf df nu a g (.lst (jn gds)) (wA ms)), lc "columns" (.ref ar), lc "nonterminal" (.int ((tc + i : Nat) : Int)), lc "column" (.ref aw), lu "state", lu "goal", gb "range", gb "len"] ((aw, .dct (Dk .int (r8 tc ms g gds i j))) :: (ar, .lst (((av i).map fun k => r8 tc ms g gds k size).map jU)) :: H)
  refine ⟨size, rfl, by exact J0 17 hz, I4, fun Z zz => zz, ?_, ?_⟩
  ·rintro j hj
   exists ⟨_, by kd_in, ?_⟩
   exists ri P x hm hg hM ?_
   refine jA.dec (fun h1 => ?_) fun h1 => ?_
   ·kd_p
    refine kI (f := PV.int) rfl (by wtm_at "updh") (mc (by have := kJ (p := fun st => !decide (n0 tc ms g gds st ((tc + i : Nat) : Int) = -1)) (f := fun st => n0 tc ms g gds st ((tc + i : Nat) : Int)) (n := j); unfold r8; exact J6 18 this hz hj)) ?_
    kd_p
    have : dset (r8 tc ms g gds i j) (j : Int) (n0 tc ms g gds j ((tc + i : Nat) : Int)) = r8 tc ms g gds i (j + 1) := by
     unfold r8; rw [pD, kM (b := true) (by rw [decide_eq_false h1]; rfl), if_pos rfl]
    rw [this]
    exact jv.nx (by kd_all) (fun Z zz => zz)
   ·kd_p
    have : r8 tc ms g gds i j = r8 tc ms g gds i (j + 1) := by
     unfold r8; rw [kM (b := false) (by rw [decide_eq_true (by exact J1 1 h1)]; rfl), if_neg (by simp), bl]
    rw [this]
    exact jv.nx (by kd_all) (fun Z zz => zz)
  ·show lj _ _ _ _ _ _
   kd_p
   ·refine jv.fz .one (by kd_all) (.lst (ny.snoc (.dct (.head _) .refl)) mS.refl) (Of.eqH ?_ (fun Z zz => zz))
    rw [bA, aJ, aJ]; rfl
   ·rw [aa, aa, aq, am]; exact J15 21 hn hi
 ·show lj _ _ _ _ _ _
  exists jl (jP (lg ?_))
  exact ⟨ar, _, _, rfl, rfl, h⟩
end
theorem qH {α : Type} {x px iter body pos} {Q : jH} (h : Ev W n r H iter (Eb W n r x body Q α .tup))
  (hs : autoParam (∀ env x, foldedSetIterable iter env x = pure x) aI) : Ex W n r H (.For (.Name x px) iter body [] pos) Q :=
 m7 (tt := false) (fun h => nomatch h) (tb (h.mono fun p H1 h => by
  obtain ⟨L, g, e, I, h0, step, done⟩ := h
  exact ⟨_, e, fun i => Of (I i), h0, fun i x' r' H' hx hI => by
  rw [ax] at hx
  obtain ⟨y, hy, rfl⟩ := bc.mp hx
  obtain ⟨r2, U, E⟩ := hI _ (step i y hy)
  exact m6 U E, fun r' H' hI => by rw [aa] at hI; exact hI _ done⟩)) hs
noncomputable abbrev BL (k : Str × Int × Int × Int) : PV := .tup [.str k.1, .int k.2.1, .int k.2.2.1, .int k.2.2.2]
noncomputable def lQ : List (Str × Int × Int × Int) := [("int8", -128, 127, 1), ("uint8", 0, 255, 1), ("int16", -32768, 32767, 2), ("uint16", 0, 65535, 2)]
noncomputable def jO (low high : Int) (k : Str × Int × Int × Int) : Bool := decide (k.2.1 ≤ low) && decide (high ≤ k.2.2.1)
noncomputable def kindOf (low high : Int) : Str × Int := match lQ.find? (jO low high) with | some k => (k.1, k.2.2.2) | none => ("int32", 4)
noncomputable def kz (L : List Int) : Str × Int := kindOf (sS (L ++ [0])) (om (L ++ [0]))
theorem yl {W : Wd} (P : PW W) {a : Addr} {o : Obj} (h : (KF W.w.params).lookup a = some o) : W.B0.get? a = some o := W.inK a o (by rw [P.K]; exact h)
theorem sk (P : PW W) {G : Gh} {s : Shared} (hr : HR W G H s) {a : Addr} {t0 t1 t2 t3 : Tok} {c : Str × Int × Int × Int} {m : Nat} {od : Option Addr} {osl : Array (Option Value)}
  (h : (KF W.w.params).lookup a = some ⟨.type "tuple", od, .seq #[.str c.1 t0, .int c.2.1 t1, .int c.2.2.1 t2, .int c.2.2.2 t3] m, osl⟩) : RV W G (BL c) (.ref a) := by
 exact vl.mk a _ rfl ⟨_, hr.bas _ _ (yl P h), rfl, m, rfl⟩ (jY.cons rvS (jY.cons Es (jY.cons Es (jY.cons Es jY.nil))))
theorem Dq {r : jr} (P : PW W) {pos} (hm : gb "KINDS" ∈ r) (h : Q (.tup (lQ.map BL)) H) : Ev W n r H (.Name "KINDS" pos) Q := xz hm ⟨.ref 232, (P.mg _).trans (by kernel_rfl), fun G s hr => by
 refine vl.mk 232 _ rfl ⟨_, hr.bas _ _ (yl P (a := 232) rfl), rfl, _, rfl⟩ (jY.cons (sk (c := ("int8", -128, 127, 1)) P hr (a := 228) rfl) (jY.cons (sk (c := ("uint8", 0, 255, 1)) P hr (a := 229) rfl) (jY.cons (sk (c := ("int16", -32768, 32767, 2)) P hr (a := 230) rfl) (jY.cons (sk (c := ("uint16", 0, 65535, 2)) P hr (a := 231) rfl) jY.nil))))⟩ h (by decide +kernel)
theorem pc (P : PW W) {L : List Int} (hz : L.length ≤ 5000) (h : Q (.tup [.str (kz L).1, .int (kz L).2]) H) : jX W (n + 1) H (.ref 484) [.lst (jn L)] Q := by
 have hne : L ++ [0] ≠ [] := by simp
 wtm_at "def"
 exists jl (jB rfl (kP (vQ P (by kd_mem) ?_)))
 intro a
 wtm_at "w1"
 refine uN (.refl) (.lst (.head _)) (by rw [aa, am]; simp; exact J2 18 hz) fun b => ?_
 kd_p
 refine uL (ns := L ++ [0]) (.lst (by rw [aJ]; exact .head _)) hne ?_
 refine ⟨_, _, .two, ?_⟩
 kd_p1
 exists jl (jB rfl (kP (vP P (by kd_mem) ?_)))
 intro a'
 wtm_at "w1"
 refine uN (.refl) (.lst (.head _)) (by rw [aa, am]; simp; exact J2 18 hz) fun b' => ?_
 kd_p
 refine sf (ns := L ++ [0]) (.lst (by rw [aJ]; exact .head _)) hne ?_
 refine ⟨_, _, .two, ?_⟩
 kd_p1
 refine jl (m7 (tt := false) (fun h => nomatch h) (tb (Dq P (by kd_mem) ?_)))
 unfold kz at h
 generalize sS (L ++ [0]) = low at *
 generalize om (L ++ [0]) = high at *
 let I1 : IT jr := fun i Z => (lQ.take i).find? (jO low high) = none → Z [lc "numbers" (.lst (jn L)), lc "low" (.int low), lc "high" (.int high), lu "name", lu "least", lu "most", lu "size", gb "min", gb "max", gb "KINDS"] H
 refine ⟨_, rfl, uI.T I1 (fun Z zz => zz rfl) ?_ ?_⟩
 ·rintro i x hx hf
  rw [ax] at hx
  obtain ⟨k, hk, rfl⟩ := bc.mp hx
  refine mU (xs := ["name", "least", "most", "size"]) (ps := [.str k.1, .int k.2.1, .int k.2.2.1, .int k.2.2.2]) Vw.refl rfl (.cons (by kd_in) (.cons (by kd_in) (.cons (by kd_in) (.cons (by kd_in) .nil)))) ?_
  have no : jO low high k = false → (lQ.take (i + 1)).find? (jO low high) = none := fun e => by
   rw [a7, hk, cm, d9, hf, List.find?_singleton, e]; rfl
  kd_p
  refine jA.dec (fun h1 => ?_) fun h1 => ?_
  ·kd_p
   refine jA.dec (fun h2 => ?_) fun h2 => ?_
   ·kd_p
    have : kindOf low high = (k.1, k.2.2.2) := by
     unfold kindOf
     have hsp : lQ = lQ.take i ++ k :: lQ.drop (i + 1) := by
      obtain ⟨q1, q2⟩ := aA.mp hk
      rw [← q2, bY, bS]
     rw [hsp, d9, hf]
     simp [jO, h1, h2]
    rw [this] at h
    exact h
   ·kd_p
    exact jv.nx (by kd_all) (fun Z zz => zz (no (by unfold jO; rw [decide_eq_false h2, i5])))
  ·kd_p
   exact jv.nx (by kd_all) (fun Z zz => zz (no (by unfold jO; rw [decide_eq_false h1, dZ])))
 ·rintro hf
  rw [aa, aZ] at hf
  kd_p
  unfold kindOf at h
  rw [hf] at h
  exact h
noncomputable def BM (L : List Int) : Int := (L.length : Int) * (kz L).2
theorem wX (L : List Int) : 0 ≤ (kz L).2 ∧ (kz L).2 ≤ 4 := by
 unfold kz kindOf
 cases h : lQ.find? (jO (sS (L ++ [0])) (om (L ++ [0]))) with
 | none => simp
 | some k =>
  have := fD h
  simp only [lQ, au, bw, or_false] at this
  rcases this with rfl | rfl | rfl | rfl <;> simp
section
variable {nm lf ln bf df nu gd gm : PV} {tc : Nat} {a g : AR} {st : Nat}
theorem tT (P : PW W) {ms : List (List Nat)} (hM : ∀ M ∈ ms, M.Pairwise (· < ·) ∧ M.length ≤ 64) (hz : ms.length ≤ 5000) {k : Nat} (hk : k < ms.length) (h : Q (.lst (oY (ms.getD k []))) H) :
  jX W (n + 2) H (.ref 477) [p6 nm tc lf ln bf df nu a g gd (wA ms), .int ((tc + k : Nat) : Int)] Q := by
 have hm := hM _ (jp (d := ([] : List Nat)) hk)
 wtm_at "def"
 kd_p1
 kd_p1
 exists nv P (by kd_mem) ?_
 rw [show ((tc + k : Nat) : Int) - (tc : Int) = (k : Int) by exact J6 20]
 refine jx (x := .int (pw 0 (ms.getD k []) : Nat)) Vw.refl (by exact J0 0) (by rw [ag]; exact yk hk) (by exact J15 22 hz hk) ?_
 kd_p
 exact E7 P hm.1 hm.2 h
theorem nl {i j : Int} (h : i.natAbs < 2 ^ 64) : IntMulOk i j := by
 refine IntMulOk.of_left ?_
 unfold Builtin.Int.intBits
 split
 ·exact J15 23
 ·rename_i q
  have q : i ≠ 0 := by simpa using q
  have := (Nat.log2_lt (by lia : i.natAbs ≠ 0)).mpr h
  exact J16 0 this
noncomputable def r9 (Ls : List (List Int)) : Int := (Ls.map BM).sum
theorem un {Ls L} : r9 (Ls ++ [L]) = r9 Ls + BM L := by simp [r9]
noncomputable abbrev tH (a : AR) : List (List Int) := [a.B, a.T, a.C, a.O]
theorem BN (P : PW W) {defs gds : List Int} (hA : ∀ L ∈ tH a, L.length ≤ 5000) (hG : ∀ L ∈ tH g, L.length ≤ 5000) (hd : defs.length ≤ 5000) (hg : gds.length ≤ 5000)
  (h : Q (.int (r9 (tH a ++ tH g ++ [defs, gds]))) H) : jX W (n + 2) H (.ref 491) [p6 nm tc lf ln bf (.lst (jn defs)) nu a g (.lst (jn gds)) gm] Q := by
 have inner : ∀ (L : List Int), L.length ≤ 5000 → ((L.length : Int)).natAbs < 2 ^ 64 := fun L h => by exact J4 3 h
 wtm_at "def"
 kd_p
 exists qH (α := AR) ?_
 let I1 : IT jr := fun i Z => Z [lc "packed" (p6 nm tc lf ln bf (.lst (jn defs)) nu a g (.lst (jn gds)) gm), lc "total" (.int (r9 (([a, g].take i).map tH).flatten)), lu "rows", lu "numbers", gb "len", gb "cell_kind"] H
 refine ⟨[a, g], Ft, rfl, I1, fun Z zz => zz, ?_, ?_⟩
 ·rintro i b hb
  have hbb : ∀ L ∈ tH b, L.length ≤ 5000 := by
   have := aS hb
   simp at this
   rcases this with rfl | rfl
   ·exact hA
   ·exact hG
  have htk : ([a, g].take (i + 1)) = ([a, g].take i) ++ [b] := by rw [a7, hb]; rfl
  have htk2 : (([a, g].take (i + 1)).map tH).flatten = (([a, g].take i).map tH).flatten ++ tH b := by rw [htk, aJ, List.flatten_append]; simp
  show lJ _ _ _ _
  generalize (([a, g].take i).map tH).flatten = Ls at *
  exists ⟨_, by kd_in, ?_⟩
  exists qH (α := List Int) ?_
  let I2 : IT jr := fun i Z => Z [lc "packed" (p6 nm tc lf ln bf (.lst (jn defs)) nu a g (.lst (jn gds)) gm), lc "total" (.int (r9 (Ls ++ (tH b).take i))), lc "rows" (Ft b), lu "numbers", gb "len", gb "cell_kind"] H
  refine ⟨tH b, fun L => .lst (jn L), rfl, I2, Of.eq (by rw [ca, bl]) (fun Z zz => zz), ?_, ?_⟩
  ·rintro j L hL
   have hLz := hbb L (aS hL)
   have hs := pK hLz
   have hk := wX L
   exists ⟨_, by kd_in, ?_⟩
   exists pc P hLz ?_
   refine kH (x := .int (kz L).2) Vw.refl (by decide) rfl (by decide) ?_
   rw [aa]
   kd_p
   exists ly (nl (inner L hLz)) ?_
   rw [show r9 (Ls ++ (tH b).take j) + (L.length : Int) * (kz L).2 = r9 (Ls ++ (tH b).take (j + 1)) by
    rw [a7, hL, cm, ← fK, un]; rfl]
   exact jv.nx (by kd_all) (fun Z zz => zz)
  ·show lj _ _ _ _ _ _
   kd_p
   rw [aZ, ← htk2]
   exact jv.nx (by kd_all) (fun Z zz => zz)
 ·show lj _ _ _ _ _ _
  rw [aZ]
  rw [show ([a, g].map tH).flatten = tH a ++ tH g by simp]
  generalize hLs : tH a ++ tH g = Ls at *
  kd_p
  exists qH (α := List Int) ?_
  let I3 : IT jr := fun i Z => Z [lc "packed" (p6 nm tc lf ln bf (.lst (jn defs)) nu a g (.lst (jn gds)) gm), lc "total" (.int (r9 (Ls ++ [defs, gds].take i))), lu "rows", lu "numbers", gb "len", gb "cell_kind"] H
  refine ⟨[defs, gds], fun L => .lst (jn L), rfl, I3, Of.eq (by rw [ca, bl]) (fun Z zz => zz), ?_, ?_⟩
  ·rintro j L hL
   have hLz : L.length ≤ 5000 := by
    have := aS hL
    simp at this
    rcases this with rfl | rfl <;> assumption
   have hs := pK hLz
   exists ⟨_, by kd_in, ?_⟩
   exists pc P hLz ?_
   refine kH (x := .int (kz L).2) Vw.refl (by decide) rfl (by decide) ?_
   rw [aa]
   kd_p
   exists ly (nl (inner L hLz)) ?_
   rw [show r9 (Ls ++ [defs, gds].take j) + (L.length : Int) * (kz L).2 = r9 (Ls ++ [defs, gds].take (j + 1)) by
    rw [a7, hL, cm, ← fK, un]; rfl]
   exact jv.nx (by kd_all) (fun Z zz => zz)
  ·show lj _ _ _ _ _ _
   kd_p
   rw [aZ]
   exact h
theorem Dr (P : PW W) {lf2 ln2 bf2 df2 nu2 gd2 gm2 nm2 : PV} {tc2 : Nat} {a2 g2 : AR} {names : List Str} (hb : a.B.length ≤ 5000) (hn : names.length ≤ 5000) (ha : a2.T.length ≤ 5000) (hg : g2.T.length ≤ 5000)
  (h : Q (.int ((a.B.length : Int) * (names.length : Int) - ((a2.T.length : Nat) + (g2.T.length : Nat)))) H) : jX W (n + 3) H (.ref 470) [p6 (.lst (um names)) tc lf ln bf df nu a g gd gm, p6 nm2 tc2 lf2 ln2 bf2 df2 nu2 a2 g2 gd2 gm2] Q := by
 have hsn : (um names).length ≤ sizeLine := by rw [aa, am]; exact J0 8 hn
 wtm_at "def"
 kd_p
 exists nj P hb ?_
 rw [aa]
 exists ly (nl (by exact J4 3 hb)) ?_
 exists tu P ha hg ?_
 exact h
end
noncomputable def kQ (R : List jL) : AR := ⟨kk R, lP R, jQ R, oI (km R)⟩
theorem u3 {R : List jL} (hR : jZ R) : p5 (kQ R) R.length := by
 have h1 := mI.all hR
 have h2 := hR.len
 have h3 := h1.m
 refine ⟨nM, by simp [kQ, jJ], ?_, ?_, by exact J0 13 h2⟩
 ·show (jQ R).length ≤ (lP R).length
  unfold jQ lP; rw [ku, kL]; exact aU _
 ·show (lP R).length ≤ 5000
  unfold lP; rw [kL]; exact J6 21 h3 h2
noncomputable def np (d : jL) : List Nat := d.map fun p => p.1.toNat
theorem Dt {d : jL} (h : ∀ p ∈ d, 0 ≤ p.1) : oY (np d) = jn (d.map ai) := by
 unfold np oY jn; rw [aW, aW]
 refine bQ fun p hp => ?_
 have := h p hp
 simp only [cI]; rw [bP this]
theorem zk {d : jL} (h : o7 d) : (np d).Pairwise (· < ·) := by
 have h1 := h.srt
 unfold qO at h1
 unfold np
 rw [bU] at h1 ⊢
 refine List.Pairwise.imp_of_mem (fun {a b} ha hb hab => ?_) h1
 have := h.low a ha
 exact J16 1 this hab
theorem BO {d : jL} (h : o7 d) : ∀ x ∈ np d, x < 64 := fun x hx => by
 obtain ⟨p, hp, rfl⟩ := az.mp hx
 have h1 := h.low p hp
 have h2 := h.high p hp
 exact J16 2 h2
noncomputable def usuals (C : List jL) : List Int := C.map fun c => kg (c.map bB)
noncomputable def kr (u : Int) (c : jL) : jL := c.filter fun p => !decide (p.2 = u)
noncomputable def rests (C : List jL) : List jL := C.map fun c => kr (kg (c.map bB)) c
theorem wY {u : Int} {c : jL} (h : o7 c) : o7 (kr u c) := by
 unfold kr
 refine ⟨?_, fun p hp => h.low p ((bz.mp hp).1), fun p hp => h.high p ((bz.mp hp).1), bH (bm _ _) h.len⟩
 have := h.srt
 unfold qO at this ⊢
 rw [bU] at this ⊢
 exact this.filter _
theorem BP {C : List jL} (h : jZ C) : jZ (rests C) :=
 ⟨fun d hd => by obtain ⟨c, hc, rfl⟩ := az.mp hd; exact wY (h.row c hc), by unfold rests; rw [aa]; exact h.len⟩
theorem j9 {α : Type} {L : List α} {i : Nat} {a : α} (h : L[i]? = some a) : L.take (i + 1) = L.take i ++ [a] := by rw [a7, h]; rfl
section
variable {lf ln bf df nu gd gm : PV} {tc : Nat} {a g : AR} {st : Nat}
theorem BQ {a : AR} {tc size : Nat} (ht : tc < 64) (hs : size < 64) : jZ (rL a tc size) :=
 ⟨fun d hd => by unfold rL at hd; obtain ⟨i, _, rfl⟩ := az.mp hd; exact qF ht, by unfold rL; rw [aa, aq]; exact hs⟩
theorem BR {tc : Nat} {ms : List (List Nat)} {g : AR} {gds : List Int} {others size : Nat} (ho : others < 64) (hs : size < 64) : jZ (qG tc ms g gds others size) :=
 ⟨fun d hd => by unfold qG at hd; obtain ⟨i, _, rfl⟩ := az.mp hd; exact qF hs, by unfold qG; rw [aa, aq]; exact ho⟩
theorem wZ {tc : Nat} {ms : List (List Nat)} {g : AR} {gds : List Int} {others size : Nat} : ∀ d ∈ qG tc ms g gds others size, ∀ v ∈ d.map bB, v ≠ -1 := fun d hd v hv => by
 unfold qG at hd
 obtain ⟨i, _, rfl⟩ := az.mp hd
 obtain ⟨q, hq, rfl⟩ := az.mp hv
 obtain ⟨t, _, h2, rfl⟩ := lY hq
 simpa using h2
theorem Fh (P : PW W) {names : List Str} {ms : List (List Nat)} {gds defs : List Int} {rows size : Nat} (x : p5 g rows) (y : p5 a size) (hm : ms.length = rows) (hg : gds.length = rows) (hM : ∀ M ∈ ms, M.Pairwise (· < ·)) (hz : size < 64) (ht : tc ≤ names.length) (ht2 : tc < 64) (hn : names.length ≤ 60) (hnd : names.Nodup) (hdf : defs.length = size)
  (C : List jL) (hC : qG tc ms g gds (names.length - tc) size = C)
  (h : Q (p6 (.lst (um names)) tc lf ln bf (.lst (jn defs)) (.dct (wV (pO names tc))) (kQ (rL a tc size)) (kQ (rests C)) (.lst (jn (usuals C))) (wA (C.map np))) H) :
  jX W (n + 8) H (.ref 463) [p6 (.lst (um names)) tc lf ln bf (.lst (jn defs)) nu a g (.lst (jn gds)) (wA ms)] Q := by
 have hCok : jZ C := hC ▸ BR (by exact J16 3 hn) hz
 have hCv : ∀ d ∈ C, ∀ v ∈ d.map bB, v ≠ -1 := hC ▸ wZ
 have hyb := y.b
 wtm_at "def"
 kd_p1
 kd_p1
 exists nv P (by kd_mem) ?_
 refine tv P x hm hg hM y.b (by exact J0 13 hz) ht (by exact J6 22 hn) ?_
 rw [hC]
 kd_p
 exists lz (α := jL) (fun c => PV.int (kg (c.map bB))) (by wtm_at "hcap") (jN ?_)
 have hCl : C.length ≤ sizeLine := by rw [am]; have := hCok.len; exact J0 5 this
 refine ⟨_, rfl, _, C, jU, by wtm_at "crho", rfl, hCl, fun c hc => ⟨_, by kd_in, ?_⟩, ?_⟩
 ·have hcok := hCok.row c hc
  exists nv P (by kd_mem) (jy (kq (α := Int × Int) (fun p => PV.int p.2) (by wtm_at "hcap") (jN (lg (lr P (by kd_mem) ?_)))))
  refine lB (f := PV.int) Vw.refl hcok.len fun al => ⟨al, _, _, rfl, rfl, _, rfl, _, c, fun p => .int p.1, by wtm_at "crho", ?_, ?_, fun p hp => ⟨_, by kd_in, ?_⟩, ?_⟩
  ·rw [rb hcok.srt, aW]; rfl
  ·exact mc (by have := hcok.len; exact J0 13 this)
  ·kd_p
   refine mv (f := PV.int) Vw.refl (hcok.srt.get hp) ?_
   exact ⟨rfl, rfl⟩
  ·kd_p
   rw [show c.map (fun p => PV.int p.2) = jn (c.map bB) by simp]
   refine rY P (by rw [aa]; exact hcok.len) (hCv c hc) ?_
   exact ⟨rfl, rfl⟩
 rw [show C.map (fun c => PV.int (kg (c.map bB))) = jn (usuals C) by unfold usuals; simp]
 kd_p
 exists lz (α := jL) (fun c => PV.int (pw 0 (np c) : Nat)) (by wtm_at "hcap") (jN ?_)
 refine ⟨_, rfl, _, C, jU, by wtm_at "crho", rfl, hCl, fun c hc => ⟨_, by kd_in, ?_⟩, ?_⟩
 ·have hcok := hCok.row c hc
  exists nv P (by kd_mem) (jy (lg (lr P (by kd_mem) ?_)))
  refine lB (f := PV.int) Vw.refl hcok.len fun al => ⟨al, _, _, rfl, rfl, ?_⟩
  rw [rb hcok.srt]
  kd_p
  show jX _ _ _ _ [.lst (jn (c.map ai))] _
  rw [← Dt hcok.low]
  refine zb P (zk hcok) (BO hcok) ?_
  exact ⟨rfl, rfl⟩
 rw [show C.map (fun c => PV.int (pw 0 (np c) : Nat)) = (C.map np).map (fun M => PV.int (pw 0 M : Nat)) by simp]
 kd_p
 intro ar
 kd_p
 refine jG ?_
 have hCl2 : (C.map jU).length ≤ sizeLine := by rw [aa]; exact hCl
 kd_p
 rw [aa]
 let I1 : IT jr := fun i Z => Z [cc "tables" (p6 (.lst (um names)) tc lf ln bf (.lst (jn defs)) nu a g (.lst (jn gds)) (wA ms)), lc "columns" (jW C), lu "state", lc "defaults" (.lst (jn (usuals C))), lc "masks" (wA (C.map np)), lc "rows" (.ref ar), lu "number", lu "row", lu "frame", lu "rules", gb "goto_columns", gb "range", gb "len", gb "sorted", gb "PackedTables", gb "packed_rows", gb "action_rows"] ((ar, .lst (((rests C).take i).map jU)) :: H)
 refine ⟨C.length, rfl, by have := hCok.len; exact J0 22 this, I1, fun Z zz => zz, ?_, ?_⟩
 ·rintro i hi
  have hci := jK (d := ([] : jL)) hi
  have hcok := hCok.row _ (jp (d := ([] : jL)) hi)
  have hui : (usuals C).getD i 0 = kg ((C.getD i []).map bB) := by
   unfold usuals; rw [aL, ax, hci]; rfl
  have hul : (usuals C).length = C.length := by simp [usuals]
  have hlen := hCok.len
  have hrest : (rests C).take (i + 1) = (rests C).take i ++ [kr (kg ((C.getD i []).map bB)) (C.getD i [])] :=
   j9 (by unfold rests; rw [ax, hci]; rfl)
  show lJ _ _ _ _
  generalize hcc : C.getD i [] = c at *
  have hgc : ∀ {r : jr} {Q : CV} {H : HH}, Q (jU c) H → oM W (n + 7) H (jW C) (.int (i : Nat)) Q := fun hq =>
   jx (x := jU c) Vw.refl (by exact J0 0) (by rw [ag, ax, hci]; rfl) (by exact J1 4 hi hlen) hq
  exists ⟨_, by kd_in, ?_⟩
  intro aw
  kd_p
  exists mX (α := Int × Int) (lg (lr P (by kd_mem) ?_))
  exists hgc (r := []) ?_
  let I2 : IT jr := fun j Z => Z [cc "tables" (p6 (.lst (um names)) tc lf ln bf (.lst (jn defs)) nu a g (.lst (jn gds)) (wA ms)), lc "columns" (jW C), lu "state", lc "defaults" (.lst (jn (usuals C))), lc "masks" (wA (C.map np)), lc "rows" (.ref ar), lc "number" (.int (i : Nat)), lc "row" (.ref aw), lu "frame", lu "rules", gb "goto_columns", gb "range", gb "len", gb "sorted", gb "PackedTables", gb "packed_rows", gb "action_rows"] ((aw, .dct (Dk .int (kr (kg (c.map bB)) (c.take j)))) :: (ar, .lst (((rests C).take i).map jU)) :: H)
  refine lB (f := PV.int) Vw.refl hcok.len fun al => ⟨al, _, _, rfl, rfl, c, fun p => .int p.1, by rw [rb hcok.srt, aW]; rfl, I2, fun Z zz => zz, ?_, ?_⟩
  ·rintro j p hp
   have hpm := aS hp
   exists ⟨_, by kd_in, ?_⟩
   exists hgc (r := []) ?_
   exists mv (f := PV.int) Vw.refl (hcok.srt.get hpm) ?_
   refine j7 Vw.refl (by exact J0 0) (by exact J0 2 hul hi) (by exact J0 10 hul hlen) ?_
   rw [ag, hui]
   kd_p
   have hrr : kr (kg (c.map bB)) (c.take (j + 1)) = kr (kg (c.map bB)) (c.take j) ++ kr (kg (c.map bB)) [p] := by
    rw [j9 hp]; unfold kr; rw [cC]
   refine jA.dec (fun h1 => ?_) fun h1 => ?_
   ·kd_p
    exists hgc (r := []) ?_
    exists mv (f := PV.int) Vw.refl (hcok.srt.get hpm) ?_
    refine kI (f := PV.int) rfl (by wtm_at "updh") (mc (by unfold kr; have := bm (fun p => !decide (p.2 = kg (c.map bB))) (c.take j); have h2 : (c.take j).length ≤ c.length := (eb j c).length_le; have h3 := hcok.len; exact J16 4 h2 this h3)) ?_
    kd_p
    have : dset (kr (kg (c.map bB)) (c.take j)) p.1 p.2 = kr (kg (c.map bB)) (c.take (j + 1)) := by
     rw [hrr, o6 (lE.mpr fun q => ?_)]
     ·unfold kr; simp [h1]
     ·obtain ⟨x, hx, e⟩ := az.mp q
      have hx := (bz.mp hx).1
      have hs := hcok.srt
      unfold qO at hs
      obtain ⟨q1, q2⟩ := aA.mp hp
      have hsp : c = c.take j ++ p :: c.drop (j + 1) := by rw [← q2, bY, bS]
      rw [hsp, aJ] at hs
      have := (bG.mp hs).2.2 x.1 (aO (f := ai) hx) p.1 (.head _)
      exact J16 5 this e
    rw [this]
    exact jv.nx (by kd_all) (fun Z zz => zz)
   ·kd_p
    have : kr (kg (c.map bB)) (c.take j) = kr (kg (c.map bB)) (c.take (j + 1)) := by
     rw [hrr]; unfold kr; simp [show p.2 = kg (c.map bB) by exact J2 17 h1]
    rw [this]
    exact jv.nx (by kd_all) (fun Z zz => zz)
  ·show lj _ _ _ _ _ _
   rw [aZ]
   kd_p
   ·refine jv.fz .one (by kd_all) (.lst (ny.snoc (.dct (.head _) .refl)) mS.refl) (Of.eqH ?_ (fun Z zz => zz))
    rw [hrest, aJ]; rfl
   ·rw [aa, bg, am]; exact J16 6 hi hlen
 ·show lj _ _ _ _ _ _
  rw [show (rests C).take C.length = rests C from br (by simp [rests])]
  exists mG (my.frz (r' := [cc "tables" (p6 (.lst (um names)) tc lf ln bf (.lst (jn defs)) nu a g (.lst (jn gds)) (wA ms)), lc "columns" (jW C), lu "state", lc "defaults" (.lst (jn (usuals C))), lc "masks" (wA (C.map np)), lc "rows" (jW (rests C)), lu "number", lu "row", lu "frame", lu "rules", gb "goto_columns", gb "range", gb "len", gb "sorted", gb "PackedTables", gb "packed_rows", gb "action_rows"]) .one (.same (.same (.same (.same (.same (.rfy (.lst (.head _) .refl) (by kd_all))))))) mS.refl) ?_
  exists lz (α := Nat) (fun s => PV.int (defs.getD s 0)) (by wtm_at "hcap") (jM ?_)
  refine nj P (by exact J0 10 hyb hz) ?_
  rw [hyb]
  kd_p
  refine ⟨size, rfl, by exact J0 22 hz, _, av size, fun s => .int (s : Nat), by wtm_at "crho", rfl, by rw [aq, am]; exact J0 5 hz, fun s hs => ⟨_, by kd_in, ?_⟩, ?_⟩
  ·have := aM.mp hs
   kd_p
   refine oA P (by exact J0 4 hdf this) (by exact J0 10 hdf hz) ?_
   exact ⟨rfl, rfl⟩
  rw [show (av size).map (fun s => PV.int (defs.getD s 0)) = jn defs by
   apply dy
   intro i
   rw [ax, ax]
   by_cases hi : i < size
   ·rw [b8 hi, jK (d := (0 : Int)) (by exact J0 4 hdf hi)]; rfl
   ·rw [a9 (by rw [aq]; exact J1 0 hi), a9 (by exact J16 7 hdf hi)]; rfl]
  kd_p
  exists tS P y (by exact J0 13 ht2) ?_
  exists kx P (BQ ht2 hz) ?_
  exists kx P (BP hCok) ?_
  exact BK (a := kQ (rL a tc size)) (g := kQ (rests C)) P hnd ht (by exact J6 22 hn) h
end
inductive u4 : PV → Value → Prop
 | none : u4 .none .none
 | int {i t} : u4 (.int i) (.int i t)
 | bool {b} : u4 (.bool b) (.bool b)
theorem u4.rv {W : Wd} {G : Gh} {p v} (h : u4 p v) : RV W G p v := by
 cases h with
 | none => rfl
 | int => exact Es
 | bool => rfl
theorem Fi {f da : Addr} {name qual : Str} {ps : List Arg} {es : List Expr} {body : List Stmt} {scope : Scope} {kV doc pm cdv ct oc : Value} {an od : Option Addr} {osl : Array (Option Value)} {pvs : List PV} {r0 : jr} {K : Frag} {dv ocd : Value} {m : Nat} {odd : Option Addr} {osd : Array (Option Value)} (hK : W.K = K)
  (ho : K.lookup f = some ⟨oc, od, .func (fnX name qual ⟨[], ps, none, [], [], none, es⟩ body scope [] (.ref da) kV doc pm an cdv ct), osl⟩) (hda : K.lookup da = some ⟨ocd, odd, .seq #[dv] m, osd⟩)
  (hk : scope.kind = .function) (hco : scope.isCoroutine = false) (hgen : scope.isGenerator = false) (hcd : codeIn K cdv qual = true)
  (hn : (ps.map (·.arg)).Nodup) (hnn : (scope.names.map ai).Nodup) (hkd : ((ps.map (·.arg)).all fun y => scope.names.lookup y == some .local || scope.names.lookup y == some .cell) = true)
  (hl : pvs.length = ps.length) (hpos : 0 < ps.length) (hr0 : ER scope.names ((ps.map (·.arg)).zip pvs) = some r0) (h : lj W n r0 H body (vy Q)) :
  jX W (n + 1) H (.ref f) pvs Q :=
 qQ (by rw [hK]; exact ho) (by rw [hK]; exact hcd) hn hnn hkd hl (fun G s vs hr hv => ⟨vs, hv, yK (s := s) rfl rfl (hr.base _ _ (W.inK _ _ (by rw [hK]; exact hda))) rfl hn (by rw [hv.length, hl]) hpos⟩) (wN hr0) h hk hco hgen
theorem Fj {f da : Addr} {name qual : Str} {ps : List Arg} {es : List Expr} {body : List Stmt} {scope : Scope} {kV doc pm cdv ct oc : Value} {an od : Option Addr} {osl : Array (Option Value)} {pvs : List PV} {pd : PV} {r0 : jr} {K : Frag} {dv ocd : Value} {m : Nat} {odd : Option Addr} {osd : Array (Option Value)} (hK : W.K = K)
  (ho : K.lookup f = some ⟨oc, od, .func (fnX name qual ⟨[], ps, none, [], [], none, es⟩ body scope [] (.ref da) kV doc pm an cdv ct), osl⟩) (hda : K.lookup da = some ⟨ocd, odd, .seq #[dv] m, osd⟩)
  (hk : scope.kind = .function) (hco : scope.isCoroutine = false) (hgen : scope.isGenerator = false) (hcd : codeIn K cdv qual = true)
  (hn : (ps.map (·.arg)).Nodup) (hnn : (scope.names.map ai).Nodup) (hkd : ((ps.map (·.arg)).all fun y => scope.names.lookup y == some .local || scope.names.lookup y == some .cell) = true)
  (hl : pvs.length + 1 = ps.length) (hpd : u4 pd dv) (hr0 : ER scope.names ((ps.map (·.arg)).zip (pvs ++ [pd])) = some r0) (h : lj W n r0 H body (vy Q)) :
  jX W (n + 1) H (.ref f) pvs Q :=
 qQ (pvs := pvs ++ [pd]) (by rw [hK]; exact ho) (by rw [hK]; exact hcd) hn hnn hkd (by simpa using hl) (fun G s vs hr hv => ⟨vs ++ [dv], hv.append (jY.one (hpd.rv (W := W) (G := G))), yJ (s := s) rfl rfl (hr.base _ _ (W.inK _ _ (by rw [hK]; exact hda))) rfl hn (by rw [hv.length, hl])⟩) (wN hr0) h hk hco hgen
noncomputable abbrev n3 (tags : List (List Int)) : PV := .lst (tags.map fun t => .tup (jn t))
noncomputable abbrev j3 (L : List (List Int)) : PV := .lst (L.map fun l => .lst (jn l))
noncomputable abbrev zm (lines tags : List (List Int)) : PV := .ins "Dfa" [("rows", j3 lines), ("tags", n3 tags)]
noncomputable abbrev rk (a : AR) (tags : List (List Int)) (cnt : Nat) (par : List Int) : PV := .ins "PackedDfa" [("bases", .lst (jn a.B)), ("table", .lst (jn a.T)), ("check", .lst (jn a.C)), ("owners", .lst (jn a.O)), ("tags", n3 tags), ("count", .int (cnt : Nat)), ("parents", .lst (jn par))]
theorem ym (P : PW W) {r t : PV} (h : Q (.ins "Dfa" [("rows", r), ("tags", t)]) H) : jX W (n + 2) H (.ref 125) [r, t] Q := by
 refine jX.frz (CZ P fun a => ?_)
 wtm_at "def"
 kd_p
 exact ⟨rfl, _, _, _, _, .one, .ins (.head _) .refl, mS.refl, h⟩
theorem rM (P : PW W) {lines tags : List (List Int)} (hz : lines.length ≤ 5000) (h : Q (.int (lines.length : Nat)) H) : jX W (n + 1) H (.ref 103) [zm lines tags] Q := by
 have hs : (lines.map fun l => PV.lst (jn l)).length ≤ sizeLine := by rw [aa, am]; exact J0 8 hz
 wtm_at "def"
 kd_p
 rw [aa]; exact h
theorem rN (P : PW W) {lines tags : List (List Int)} {l : List Int} (hl : lines[0]? = some l) (hz : l.length ≤ 5000) (h : Q (.int (l.length : Nat)) H) : jX W (n + 1) H (.ref 96) [zm lines tags] Q := by
 have hs := pK hz
 wtm_at "def"
 exists jl (jP (vO P (by kd_mem) ?_))
 refine jx (x := .lst (jn l)) Vw.refl (by decide) (by show (lines.map _)[0]? = _; rw [ax, hl]; rfl) (by decide) ?_
 kd_p
 rw [aa]; exact h
theorem uo (P : PW W) {b t c o tg : PV} {cnt : Nat} {par : List Int} (h : Q (.ins "PackedDfa" [("bases", b), ("table", t), ("check", c), ("owners", o), ("tags", tg), ("count", .int (cnt : Nat)), ("parents", .lst (jn par))]) H) : jX W (n + 2) H (.ref 550) [b, t, c, o, tg, .int (cnt : Nat), .lst (jn par)] Q := by
 refine jX.frz (pN P fun a => ?_)
 wtm_at "full"
 kd_p
 exists jA.ff ?_
 exact ⟨rfl, _, _, _, _, .one, .ins (.head _) .refl, mS.refl, h⟩
theorem zp (P : PW W) {t c o tg : PV} {cnt : Nat} {B : List Int} (hB : B.length ≤ 5000) (h : Q (.ins "PackedDfa" [("bases", .lst (jn B)), ("table", t), ("check", c), ("owners", o), ("tags", tg), ("count", .int (cnt : Nat)), ("parents", .lst (jn (bd B.length (-1))))]) H) : jX W (n + 2) H (.ref 550) [.lst (jn B), t, c, o, tg, .int (cnt : Nat)] Q := by
 refine jX.frz (pN P fun a => ?_)
 wtm_at "dflt"
 kd_p
 refine jA.tt ?_
 wtm_at "w1"
 exists kq (α := Int) (fun _ => PV.int (-1)) (by wtm_at "hcap") (jN ?_)
 refine ⟨_, rfl, _, B, PV.int, by wtm_at "crho", rfl, by rw [am]; exact J0 8 hB, fun d hd => ⟨_, by kd_in, ?_⟩, ?_⟩
 ·kd_p
  exact rfl
 rw [show B.map (fun _ => PV.int (-1)) = jn (bd B.length (-1)) by simp [gz]]
 kd_p
 exact ⟨rfl, _, _, _, _, .one, .ins (.head _) .refl, mS.refl, h⟩
structure nE (par : List Int) (size : Nat) : Prop where
 len : par.length = size
 low : ∀ s : Nat, s < size → par.getD s 0 = -1 ∨ (0 ≤ par.getD s 0 ∧ par.getD s 0 < s)
theorem nE.rng {par size} (x : nE par size) {s : Nat} (h : s < size) : -1 ≤ par.getD s 0 ∧ par.getD s 0 < s := by
 rcases x.low s h with q | q <;> lia
noncomputable def rO (a : AR) (par : List Int) (num : Int) : Nat → Int → Int
 | 0, _ => -1
 | k + 1, here => if here = -1 then -1 else match lG (a.B.getD here.toNat 0) a.T a.C (a.O.getD here.toNat 0) num with
  | some v => v
  | none => rO a par num k (par.getD here.toNat 0)
noncomputable def pe (a : AR) (par : List Int) (here num : Int) : Int := rO a par num (here + 1).toNat here
theorem zt {a : AR} {par : List Int} {num : Int} {size : Nat} (x : nE par size) : ∀ (k m : Nat) (here : Int), -1 ≤ here → here < size → (here + 1).toNat ≤ k → (here + 1).toNat ≤ m → rO a par num k here = rO a par num m here := fun k => by
 induction k with
 | zero =>
  intro m here h0 h1 h2 _
  have : here = -1 := by exact J7 0 h0 h2
  subst this; cases m <;> rfl
 | succ k ih =>
  intro m here h0 h1 h2 h3
  by_cases e : here = -1
  ·subst e; cases m <;> rfl
  ·obtain ⟨s, rfl⟩ : ∃ s : Nat, here = (s : Int) := ⟨here.toNat, by exact J1 21 h0 e⟩
   have hr := x.rng (s := s) (by exact J0 21 h1)
   cases m with
   | zero => exact absurd h3 (gL s)
   | succ m =>
    show (if (s : Int) = -1 then -1 else match lG (a.B.getD s 0) a.T a.C (a.O.getD s 0) num with | some v => v | none => rO a par num k (par.getD s 0)) = _
    rw [ih m _ hr.1 (by exact J1 12 hr h1) (by exact J7 1 h2 hr) (by exact J7 1 h3 hr)]
    rfl
theorem w3 {a : AR} {par : List Int} {num : Int} {size : Nat} (x : nE par size) (k : Nat) (here : Int) (h0 : -1 ≤ here) (h1 : here < size) (h2 : (here + 1).toNat ≤ k) : rO a par num k here = pe a par here num := zt x k _ here h0 h1 h2 (aU _)
theorem oB {a par num} : pe a par (-1) num = -1 := rfl
theorem vZ {a : AR} {par : List Int} {num : Int} {size s : Nat} (x : nE par size) (hs : s < size) : pe a par s num = match lG (a.B.getD s 0) a.T a.C (a.O.getD s 0) num with
  | some v => v
  | none => pe a par (par.getD s 0) num := by
 have hr := x.rng hs
 show rO a par num ((s : Int) + 1).toNat s = _
 rw [show ((s : Int) + 1).toNat = s + 1 by exact J2 19]
 unfold rO
 rw [if_neg (by exact J1 22), ag]
 cases lG (a.B.getD s 0) a.T a.C (a.O.getD s 0) num with
 | some v => rfl
 | none => exact w3 x s _ hr.1 (by exact J7 2 hr hs) (by exact J2 20 hr)
section
variable {a : AR} {tags : List (List Int)} {cnt : Nat} {par : List Int} {size : Nat}
theorem n4 (P : PW W) (x : p5 a size) (hp : nE par size) {here num : Int} (h0 : -1 ≤ here) (h1 : here < size) (h : Q (.int (pe a par here num)) H) : jX W (n + 2) H (.ref 511) [rk a tags cnt par, .int here, .int num] Q := by
 have xb := x.b
 have xo := x.o
 have xr := x.r
 have hpl := hp.len
 wtm_at "def"
 kd_p
 let I1 : IT jr := fun k Z => ∀ s : Int, -1 ≤ s → s < size → k = (s + 1).toNat → pe a par s num = pe a par here num → Z [lc "self" (rk a tags cnt par), lc "state" (.int here), lc "number" (.int num), lc "here" (.int s), lu "found", gb "look_up", gb "DEAD"] H
 refine lC I1 _ (fun Z zz => zz here h0 h1 rfl rfl) ?_
 rintro k s hs0 hs1 hk he
 kd_p
 refine jA.dec (fun h2 => ?_) fun h2 => ?_
 ·obtain ⟨j, rfl⟩ : ∃ j : Nat, s = (j : Int) := ⟨s.toNat, by exact J1 21 hs0 h2⟩
  have hr := hp.rng (s := j) (by exact J0 21 hs1)
  have hat := vZ (a := a) (num := num) hp (show j < size by exact J0 21 hs1)
  kd_p
  refine j7 Vw.refl (by exact J0 0) (by exact J4 5 xo hs1) (by exact J0 3 xr xo) ?_
  rw [ag]
  kd_p
  refine re P (by exact J4 6 xb hs1) (by exact J0 3 xr xb) x.ct x.t ?_
  cases e : lG (a.B.getD j 0) a.T a.C (a.O.getD j 0) num with
  | some v =>
   rw [e] at hat
   kd_p
   exists jA.tt ?_
   rw [← he, hat] at h
   exact h
  | none =>
   rw [e] at hat
   kd_p
   exists jA.ff ?_
   refine j7 Vw.refl (by exact J0 0) (by exact J4 5 hpl hs1) (by exact J0 3 xr hpl) ?_
   rw [ag]
   kd_p
   exact jv.nx (by kd_all) ⟨_, by exact J7 3 hr hk, fun Z zz => zz (par.getD j 0) hr.1 (by exact J1 12 hr hs1) rfl (by rw [← he, hat])⟩
 ·kd_p
  have : s = -1 := by exact J1 1 h2
  subst this
  rw [← he, oB] at h
  exact h
structure rl (a : AR) (par : List Int) (size cnt : Nat) (f : Int → Int → Int) : Prop where
 arr : p5 a size
 pk : nE par size
 eq : ∀ s c : Int, -1 ≤ s → s < size → 0 ≤ c → c < cnt → pe a par s c = f s c
 rng : ∀ s c : Int, -1 ≤ s → s < size → 0 ≤ c → c < cnt → -1 ≤ f s c ∧ f s c < size
noncomputable def sa (f : Int → Int → Int) (word : List Int) (s : Int) : Int := word.foldl f s
theorem uq {f w x s} : sa f (w ++ [x]) s = f (sa f w s) x := by simp [sa]
theorem qI {a : AR} {par : List Int} {size cnt : Nat} {f} (x : rl a par size cnt f) : ∀ {word : List Int} {s : Int}, (∀ c ∈ word, 0 ≤ c ∧ c < cnt) → -1 ≤ s → s < size → -1 ≤ sa f word s ∧ sa f word s < size
 | [], s, _, h0, h1 => ⟨h0, h1⟩
 | c :: w, s, hw, h0, h1 => by
  have hc := hw c (.head _)
  have := x.rng s c h0 h1 hc.1 hc.2
  exact qI x (word := w) (s := f s c) (fun z hz => hw z (.tail _ hz)) this.1 this.2
theorem v7 (P : PW W) {f : Int → Int → Int} (x : rl a par size cnt f) (hs : 0 < size) {word : List Int} (hw : ∀ c ∈ word, 0 ≤ c ∧ c < cnt) (h : Q (.int (sa f word 0)) H) : jX W (n + 3) H (.ref 519) [rk a tags cnt par, .lst (jn word)] Q := by
 wtm_at "dflt"
 kd_p
 exists mX (α := Int) ?_
 let I2 : IT jr := fun i Z => Z [lc "self" (rk a tags cnt par), lc "numbers" (.lst (jn word)), lc "state" (.int 0), lc "here" (.int (sa f (word.take i) 0)), lu "number"] H
 refine ⟨word, PV.int, rfl, I2, fun Z zz => zz, ?_, ?_⟩
 ·rintro i c hc
  have hcc := hw c (aS hc)
  have hrr := qI x (word := word.take i) (s := 0) (fun c hc => hw c (dC hc)) (by exact J1 23) (by exact J0 14 hs)
  exists ⟨_, by kd_in, ?_⟩
  refine n4 P x.arr x.pk hrr.1 hrr.2 ?_
  rw [x.eq _ _ hrr.1 hrr.2 hcc.1 hcc.2, ← uq (f := f), ← j9 hc]
  kd_p
  exact jv.nx (by kd_all) (fun Z zz => zz)
 ·show lj _ _ _ _ _ _
  rw [aZ]
  kd_p
  exact h
noncomputable def v8 (tags : List (List Int)) (s : Int) : List Int := if s = -1 then [] else tags.getD s.toNat []
theorem rm {tags : List (List Int)} {k : Int} {po : PV} (w : Vw H po (n3 tags)) (h0 : 0 ≤ k) (h1 : k.toNat < tags.length) (hs : k < 5000) (h : Q (.tup (jn (tags.getD k.toNat []))) H) : oM W n H po (.int k) Q :=
 jx w h0 (by rw [ax, jK (d := ([] : List Int)) h1]; rfl) (by exact J4 7 hs) h
theorem u5 (P : PW W) {f : Int → Int → Int} (x : rl a par size cnt f) (hs : 0 < size) (ht : tags.length = size) {word : List Int} (hw : ∀ c ∈ word, 0 ≤ c ∧ c < cnt) (h : Q (.tup (jn (v8 tags (sa f word 0)))) H) : jX W (n + 4) H (.ref 526) [rk a tags cnt par, .lst (jn word)] Q := by
 have hrr := qI x (s := 0) hw (by exact J1 23) (by exact J0 14 hs)
 have xr := x.arr.r
 wtm_at "def"
 kd_p
 exists v7 P x hs hw ?_
 unfold v8 at h
 refine jA.dec (fun h1 => ?_) fun h1 => ?_
 ·kd_p
  rw [if_pos h1] at h; exact h
 ·kd_p
  rw [if_neg h1] at h
  refine rm Vw.refl (by exact J1 2 hrr h1) (by exact J1 13 hrr ht hs) (by exact J4 8 xr hrr) ?_
  exact h
theorem tw (P : PW W) (x : p5 a size) (h : Q (.int (size : Nat)) H) : jX W (n + 1) H (.ref 540) [rk a tags cnt par] Q := by
 have xb := x.b
 have xr := x.r
 have hs := pK (L := a.B) (by exact J0 3 xr xb)
 wtm_at "def"
 kd_p
 rw [aa, xb]; exact h
noncomputable def nq (par : List Int) : Nat → Int → List Int
 | 0, _ => []
 | k + 1, here => if here = -1 then [] else here :: nq par k (par.getD here.toNat 0)
noncomputable def mf (par : List Int) (s : Int) : List Int := nq par (s + 1).toNat s
theorem w4 {par : List Int} {size : Nat} (x : nE par size) : ∀ (k m : Nat) (here : Int), -1 ≤ here → here < size → (here + 1).toNat ≤ k → (here + 1).toNat ≤ m → nq par k here = nq par m here := fun k => by
 induction k with
 | zero =>
  intro m here h0 h1 h2 _
  have : here = -1 := by exact J7 0 h0 h2
  subst this; cases m <;> rfl
 | succ k ih =>
  intro m here h0 h1 h2 h3
  by_cases e : here = -1
  ·subst e; cases m <;> rfl
  ·obtain ⟨s, rfl⟩ : ∃ s : Nat, here = (s : Int) := ⟨here.toNat, by exact J1 21 h0 e⟩
   have hr := x.rng (s := s) (by exact J0 21 h1)
   cases m with
   | zero => exact absurd h3 (gL s)
   | succ m =>
    show (if (s : Int) = -1 then [] else (s : Int) :: nq par k (par.getD s 0)) = _
    rw [ih m _ hr.1 (by exact J1 12 hr h1) (by exact J7 1 h2 hr) (by exact J7 1 h3 hr)]
    rfl
theorem wb {par : List Int} {size : Nat} (x : nE par size) (k : Nat) (here : Int) (h0 : -1 ≤ here) (h1 : here < size) (h2 : (here + 1).toNat ≤ k) : nq par k here = mf par here := w4 x k _ here h0 h1 h2 (aU _)
theorem rP {par} : mf par (-1) = [] := rfl
theorem ur {par : List Int} {size s : Nat} (x : nE par size) (hs : s < size) : mf par s = (s : Int) :: mf par (par.getD s 0) := by
 have hr := x.rng hs
 show nq par ((s : Int) + 1).toNat s = _
 rw [show ((s : Int) + 1).toNat = s + 1 by exact J2 19]
 unfold nq
 rw [if_neg (by exact J1 22), ag, wb x s _ hr.1 (by exact J7 2 hr hs) (by exact J2 20 hr)]
theorem tx {par : List Int} {size : Nat} (x : nE par size) {here : Int} (h0 : -1 ≤ here) (h1 : here < size) : (mf par here).length ≤ (here + 1).toNat := by
 have : ∀ k here, (nq par k here).length ≤ k := by
  intro k
  induction k with
  | zero => intro; simp [nq]
  | succ k ih => intro here; unfold nq; split <;> simp [ih]
 exact this _ _
theorem w5 (P : PW W) (hp : nE par size) (hz : size ≤ 5000) {here : Int} (h0 : -1 ≤ here) (h1 : here < size) (h : Q (.lst (jn (mf par here))) H) : jX W (n + 1) H (.ref 547) [rk a tags cnt par, .int here] Q := by
 have hpl := hp.len
 have hcl := tx hp h0 h1
 wtm_at "def"
 kd_p
 intro al
 kd_p
 let I3 : IT jr := fun k Z => ∀ (s : Int) (d : List Int), -1 ≤ s → s < size → k = (s + 1).toNat → d ++ mf par s = mf par here → Z [lc "self" (rk a tags cnt par), lc "state" (.int here), lc "found" (.ref al), lc "here" (.int s)] ((al, .lst (jn d)) :: H)
 refine lC I3 _ (fun Z zz => zz here [] h0 h1 rfl rfl) ?_
 rintro k s d hs0 hs1 hk he
 kd_p
 refine jA.dec (fun h2 => ?_) fun h2 => ?_
 ·obtain ⟨j, rfl⟩ : ∃ j : Nat, s = (j : Int) := ⟨s.toNat, by exact J1 21 hs0 h2⟩
  have hr := hp.rng (s := j) (by exact J0 21 hs1)
  have hat := ur hp (show j < size by exact J0 21 hs1)
  kd_p
  ·refine j7 Vw.refl (by exact J0 0) (by exact J4 5 hpl hs1) (by exact J0 3 hz hpl) ?_
   rw [ag]
   kd_p
   rw [oZ]
   exact jv.nx (by kd_all) ⟨_, by exact J7 3 hr hk, fun Z zz => zz (par.getD j 0) (d ++ [(j : Int)]) hr.1 (by exact J1 12 hr hs1) rfl (by rw [← he, hat]; simp)⟩
  ·rw [aa, am]
   have := congrArg eF he
   rw [ce] at this
   exact J16 20 hz hcl this h1
 ·have : s = -1 := by exact J1 1 h2
  subst this
  rw [rP, bl] at he
  subst he
  exists jl (jP (lg ?_))
  exact ⟨al, _, _, rfl, rfl, h⟩
end
noncomputable def sb (f : Int → Int → Int) (tags : List (List Int)) : List Int → Nat → Int → PV → PV
 | [], _, _, best => best
 | x :: w, ld, st, best => if f st x = -1 then best else sb f tags w (ld + 1) (f st x) (if tags.getD (f st x).toNat [] = [] then best else .tup [.int ((ld + 1 : Nat) : Int), .tup (jn (tags.getD (f st x).toNat []))])
theorem rn {f : Int → Int → Int} {tags : List (List Int)} {x : Int} {w : List Int} {i : Nat} {st : Int} {b : PV} : sb f tags (x :: w) i st b = if f st x = -1 then b else sb f tags w (i + 1) (f st x) (if tags.getD (f st x).toNat [] = [] then b else .tup [.int ((i + 1 : Nat) : Int), .tup (jn (tags.getD (f st x).toNat []))]) := rfl
noncomputable def n5 (l : List Int) : jL := kj (fun t => !decide (l.getD t 0 = -1)) (fun t => l.getD t 0) l.length
noncomputable def li (l p : List Int) : jL := kj (fun t => !decide (l.getD t 0 = p.getD t 0)) (fun t => l.getD t 0) l.length
noncomputable def j5 (lines : List (List Int)) (s : Nat) : List (Int × Int) := (av (s - (s - 8))).map fun i => ((((li (lines.getD s []) (lines.getD (s - 8 + i) [])).length : Nat) : Int), ((s - 8 + i : Nat) : Int))
noncomputable def wc (lines : List (List Int)) (s : Nat) : Int := ((n5 (lines.getD s [])).length : Nat)
noncomputable def mq (lines : List (List Int)) (s : Nat) : Int := if j5 lines s ≠ [] ∧ (oN (j5 lines s)).1 < wc lines s then (oN (j5 lines s)).2 else -1
noncomputable def BS (lines : List (List Int)) (s i : Nat) (best fewest : Int) : Prop :=
 (best = -1 ∧ fewest = wc lines s ∧ ∀ c ∈ (j5 lines s).take i, ¬ c.1 < wc lines s) ∨ (∃ b ∈ (j5 lines s).take i, best = b.2 ∧ fewest = b.1 ∧ b.1 < wc lines s ∧ ∀ c ∈ (j5 lines s).take i, nL c b = false)
section
variable {a : AR} {tags : List (List Int)} {cnt : Nat} {par : List Int} {size : Nat}
theorem u6 (P : PW W) {f : Int → Int → Int} (x : rl a par size cnt f) (hs : 0 < size) (ht : tags.length = size) {word : List Int} (hw : ∀ c ∈ word, 0 ≤ c ∧ c < cnt) (hwl : word.length ≤ 5000) {ld : Nat} (h : Q (sb f tags (word.drop ld) ld 0 .none) H) : jX W (n + 3) H (.ref 533) [rk a tags cnt par, .lst (jn word), .int (ld : Nat)] Q := by
 have xr := x.arr.r
 have hsz := pK hwl
 generalize hres : sb f tags (word.drop ld) ld 0 .none = res at *
 wtm_at "def"
 kd_p
 let I1 : IT jr := fun k Z => ∀ (j : Nat) (st : Int) (best : PV), -1 ≤ st → st < size → k = word.length - j → (st = -1 → best = res) → (st ≠ -1 → sb f tags (word.drop j) j st best = res) → Z [lc "self" (rk a tags cnt par), lc "numbers" (.lst (jn word)), lc "at" (.int (ld : Nat)), lc "best" best, lc "state" (.int st), lc "here" (.int (j : Nat)), gb "DEAD", gb "len"] H
 refine lC I1 _ (fun Z zz => zz ld 0 .none (by exact J1 23) (by exact J0 14 hs) rfl (fun q => by lia) (fun _ => hres)) ?_
 rintro k j st best hs0 hs1 hk hd hl
 kd_p
 refine jA.dec (fun h1 => ?_) fun h1 => ?_
 rotate_left
 ·kd_p
  rw [hd (by exact J1 1 h1)]
  exact h
 kd_p
 rw [aa]
 refine jA.dec (fun h2 => ?_) fun h2 => ?_
 rotate_left
 ·kd_p
  have := hl h1
  rw [gn (by exact J16 21 h2)] at this
  rw [show best = _ from this]
  exact h
 have hj : j < word.length := by exact J0 21 h2
 have hc := hw _ (jp (d := (0 : Int)) hj)
 have hdr : word.drop j = word.getD j 0 :: word.drop (j + 1) := by
  rw [fE hj]; congr 1; rw [aL, aG hj]; rfl
 have hrng := x.rng _ _ hs0 hs1 hc.1 hc.2
 have hfar := hl h1
 rw [hdr] at hfar
 kd_p
 refine j7 Vw.refl (by exact J0 0) (by exact J16 22 h2) (by exact J0 7 hwl) ?_
 rw [ag]
 kd_p
 refine n4 P x.arr x.pk hs0 hs1 ?_
 rw [x.eq _ _ hs0 hs1 hc.1 hc.2]
 rw [rn] at hfar
 generalize f st (word.getD j 0) = st' at *
 kd_p
 refine jA.dec (fun h3 => ?_) fun h3 => ?_
 ·kd_p
  rw [if_neg h3] at hfar
  exists rm Vw.refl (by exact J1 2 hrng h3) (by exact J1 13 hrng ht hs) (by exact J4 8 xr hrng) ?_
  exists xO Vw.refl Vw.refl ?_
  by_cases h4 : tags.getD st'.toNat [] = []
  ·rw [h4]
   rw [if_pos h4] at hfar
   exists jA.ff ?_
   rw [show (j : Int) + 1 = ((j + 1 : Nat) : Int) by exact J2 0]
   exact jv.nx (by kd_all) ⟨_, by exact J2 21 hk h2, fun Z zz => zz (j + 1) st' best (by exact J7 4 hrng) hrng.2 rfl (fun q => absurd q h3) (fun _ => hfar)⟩
  ·rw [show (!(jn (tags.getD st'.toNat [])).isEmpty) = true by cases e : tags.getD st'.toNat [] with | nil => exact absurd e h4 | cons => rfl]
   rw [if_neg h4] at hfar
   kd_p
   exists rm Vw.refl (by exact J1 2 hrng h3) (by exact J1 13 hrng ht hs) (by exact J4 8 xr hrng) ?_
   rw [show (j : Int) + 1 = ((j + 1 : Nat) : Int) by exact J2 0]
   exact jv.nx (by kd_all) ⟨_, by exact J2 21 hk h2, fun Z zz => zz (j + 1) st' _ (by exact J7 4 hrng) hrng.2 rfl (fun q => absurd q h3) (fun _ => hfar)⟩
 ·kd_p
  rw [if_pos (by exact J1 1 h3)] at hfar
  rw [show (j : Int) + 1 = ((j + 1 : Nat) : Int) by exact J2 0]
  exact jv.nx (by kd_all) ⟨_, by exact J2 21 hk h2, fun Z zz => zz (j + 1) st' best (by exact J16 23 h3) hrng.2 rfl (fun _ => hfar) (fun q => absurd q (by exact J17 0 h3))⟩
theorem w6 (P : PW W) {l : List Int} (hz : l.length ≤ 5000) (h : Q (jU (n5 l)) H) : jX W (n + 1) H (.ref 561) [.lst (jn l)] Q := by
 have hs := pK hz
 wtm_at "def"
 kd_p
 intro af
 kd_p
 exists jG ?_
 rw [aa]
 let I2 : IT jr := fun i Z => Z [lc "row" (.lst (jn l)), lc "found" (.ref af), lu "number", gb "range", gb "len", gb "DEAD"] ((af, .dct (Dk .int (kj (fun t => !decide (l.getD t 0 = -1)) (fun t => l.getD t 0) i))) :: H)
 refine ⟨l.length, rfl, by exact J0 17 hz, I2, fun Z zz => zz, ?_, ?_⟩
 ·rintro i hi
  exists ⟨_, by kd_in, ?_⟩
  refine j7 Vw.refl (by exact J0 0) (by exact J0 1 hi) (by exact J0 7 hz) ?_
  rw [ag]
  kd_p
  refine jA.dec (fun h1 => ?_) fun h1 => ?_
  ·kd_p
   refine j7 Vw.refl (by exact J0 0) (by exact J0 1 hi) (by exact J0 7 hz) ?_
   rw [ag]
   kd_p
   exists kI (f := PV.int) rfl (by wtm_at "updh") (mc (bj kJ (by exact J7 5 hz hi))) ?_
   rw [pD]
   have := kM (p := fun t => !decide (l.getD t 0 = -1)) (f := fun t => l.getD t 0) (n := i) (b := true) (by simpa using h1)
   rw [if_pos rfl] at this
   rw [← this]
   exact jv.nx (by kd_all) (fun Z zz => zz)
  ·kd_p
   have := kM (p := fun t => !decide (l.getD t 0 = -1)) (f := fun t => l.getD t 0) (n := i) (b := false) (by simpa using h1)
   rw [if_neg (by simp), bl] at this
   rw [← this]
   exact jv.nx (by kd_all) (fun Z zz => zz)
 ·show lj _ _ _ _ _ _
  exists jl (jP (vR ?_))
  exact ⟨af, _, _, rfl, rfl, h⟩
theorem wd (P : PW W) {l p : List Int} (hz : l.length ≤ 5000) (hp : p.length = l.length) (h : Q (jU (li l p)) H) : jX W (n + 1) H (.ref 568) [.lst (jn l), .lst (jn p)] Q := by
 have hs := pK hz
 wtm_at "def"
 kd_p
 intro af
 kd_p
 exists jG ?_
 rw [aa]
 let I3 : IT jr := fun i Z => Z [lc "row" (.lst (jn l)), lc "parent" (.lst (jn p)), lc "found" (.ref af), lu "number", gb "range", gb "len"] ((af, .dct (Dk .int (kj (fun t => !decide (l.getD t 0 = p.getD t 0)) (fun t => l.getD t 0) i))) :: H)
 refine ⟨l.length, rfl, by exact J0 17 hz, I3, fun Z zz => zz, ?_, ?_⟩
 ·rintro i hi
  exists ⟨_, by kd_in, ?_⟩
  refine j7 Vw.refl (by exact J0 0) (by exact J0 1 hi) (by exact J0 7 hz) ?_
  rw [ag]
  kd_p
  refine j7 Vw.refl (by exact J0 0) (by exact J0 2 hp hi) (by exact J0 3 hz hp) ?_
  rw [ag]
  kd_p
  refine jA.dec (fun h1 => ?_) fun h1 => ?_
  ·kd_p
   refine j7 Vw.refl (by exact J0 0) (by exact J0 1 hi) (by exact J0 7 hz) ?_
   rw [ag]
   kd_p
   exists kI (f := PV.int) rfl (by wtm_at "updh") (mc (bj kJ (by exact J7 5 hz hi))) ?_
   rw [pD]
   have := kM (p := fun t => !decide (l.getD t 0 = p.getD t 0)) (f := fun t => l.getD t 0) (n := i) (b := true) (by rw [decide_eq_false h1]; rfl)
   rw [if_pos rfl] at this
   rw [← this]
   exact jv.nx (by kd_all) (fun Z zz => zz)
  ·kd_p
   have := kM (p := fun t => !decide (l.getD t 0 = p.getD t 0)) (f := fun t => l.getD t 0) (n := i) (b := false) (by rw [decide_eq_true (show l.getD i 0 = p.getD i 0 by exact J2 17 h1)]; rfl)
   rw [if_neg (by simp), bl] at this
   rw [← this]
   exact jv.nx (by kd_all) (fun Z zz => zz)
 ·show lj _ _ _ _ _ _
  exists jl (jP (vR ?_))
  exact ⟨af, _, _, rfl, rfl, h⟩
theorem kA {L : List (List Int)} {k : Int} {po : PV} (w : Vw H po (j3 L)) (h0 : 0 ≤ k) (h1 : k.toNat < L.length) (hs : k < 5000) (h : Q (.lst (jn (L.getD k.toNat []))) H) : oM W n H po (.int k) Q :=
 jx w h0 (by rw [ax, jK (d := ([] : List Int)) h1]; rfl) (by exact J4 7 hs) h
theorem BU (P : PW W) {lines : List (List Int)} {s cnt : Nat} (hs : s < lines.length) (hz : lines.length ≤ 5000) (hc : ∀ l ∈ lines, l.length = cnt) (hcnt : cnt ≤ 5000) (h : Q (.int (mq lines s)) H) : jX W (n + 2) H (.ref 575) [j3 lines, .int (s : Nat)] Q := by
 have hls := hc _ (jp (d := ([] : List Int)) hs)
 have hlive : (n5 (lines.getD s [])).length ≤ 5000 := bj kJ (by exact J0 3 hcnt hls)
 wtm_at "def"
 kd_p
 refine kA Vw.refl (by exact J0 0) (by exact J0 1 hs) (by exact J7 6 hz hs) ?_
 rw [ag]
 kd_p
 refine w6 P (by exact J0 3 hcnt hls) ?_
 have hsl := mc hlive
 kd_p
 exists sj ?_
 let I4 : IT jr := fun i Z => ∀ best fewest : Int, BS lines s i best fewest → Z [lc "rows" (j3 lines), lc "state" (.int (s : Nat)), lc "best" (.int best), lc "fewest" (.int fewest), lu "other", lu "many", gb "len", gb "live_entries", gb "range", gb "max", gb "TEMPLATES", gb "unlike_entries"] H
 refine ⟨s - 8, s, by rw [show max 0 ((s : Int) - 8) = ((s - 8 : Nat) : Int) by lia], ⟨by exact J7 7, by exact J17 1 hz hs⟩, I4, fun Z zz => zz (-1) _ (.inl ⟨rfl, rfl, by simp⟩), ?_, ?_⟩
 ·rintro i hi best fewest hb
  have hci : (j5 lines s)[i]? = some ((((li (lines.getD s []) (lines.getD (s - 8 + i) [])).length : Nat) : Int), ((s - 8 + i : Nat) : Int)) := by
   unfold j5; rw [ax, b8 hi]; rfl
  have hlo := hc _ (jp (d := ([] : List Int)) (show s - 8 + i < lines.length by exact J7 8 hs hi))
  have hun : (li (lines.getD s []) (lines.getD (s - 8 + i) [])).length ≤ 5000 := bj kJ (by exact J0 3 hcnt hls)
  have htk := j9 hci
  have hord : ∀ c ∈ (j5 lines s).take i, c.2 < ((s - 8 + i : Nat) : Int) := fun c hcm => by
   unfold j5 at hcm
   rw [← eE, List.take_range] at hcm
   obtain ⟨j, hj, rfl⟩ := az.mp hcm
   have := aM.mp hj
   simp only; exact J17 2 this
  generalize hm : (li (lines.getD s []) (lines.getD (s - 8 + i) [])).length = m at *
  exists ⟨_, by kd_in, ?_⟩
  exists kA Vw.refl (by exact J0 0) (by exact J0 1 hs) (by exact J7 6 hz hs) ?_
  refine kA Vw.refl (by exact J7 9) (by exact J7 10 hs hi) (by exact J17 3 hz hs hi) ?_
  rw [ag, ag]
  kd_p
  refine wd P (by exact J0 3 hcnt hls) (by exact J7 11 hlo hls) ?_
  have hsu := mc (d := li (lines.getD s []) (lines.getD (s - 8 + i) [])) (by exact J0 3 hun hm)
  kd_p
  rw [hm]
  refine jA.dec (fun h1 => ?_) fun h1 => ?_
  ·kd_p
   refine jv.nx (by kd_all) (fun Z zz => zz _ _ (.inr ⟨((m : Int), ((s - 8 + i : Nat) : Int)), by rw [htk]; simp, rfl, rfl, ?_, fun c hcm => ?_⟩))
   ·rcases hb with ⟨_, q, _⟩ | ⟨b, _, _, q, q2, _⟩ <;> lia
   ·rw [htk] at hcm
    rcases aQ.mp hcm with hcm | hcm
    ·rw [tq]
     rcases hb with ⟨_, q, q2⟩ | ⟨b, _, _, q, _, q2⟩
     ·have := q2 c hcm; simp only; exact J17 4 h1 this q
     ·have := q2 c hcm; rw [tq] at this; simp only; exact J17 5 this h1 q
    ·simp at hcm; subst hcm; simp [nL]
  ·kd_p
   refine jv.nx (by kd_all) (fun Z zz => zz _ _ ?_)
   rcases hb with ⟨q, q1, q2⟩ | ⟨b, q0, q, q1, q2, q3⟩
   ·refine .inl ⟨q, q1, fun c hcm => ?_⟩
    rw [htk] at hcm
    rcases aQ.mp hcm with hcm | hcm
    ·exact q2 c hcm
    ·simp at hcm; subst hcm; simp only; exact J17 6 h1 q1
   ·refine .inr ⟨b, by rw [htk]; exact bu _ q0, q, q1, q2, fun c hcm => ?_⟩
    rw [htk] at hcm
    rcases aQ.mp hcm with hcm | hcm
    ·exact q3 c hcm
    ·simp at hcm; subst hcm
     have := hord b q0
     rw [tq]; simp only; exact J17 7 this h1 q1
 ·rintro best fewest hb
  unfold BS at hb
  rw [show (j5 lines s).take (s - (s - 8)) = j5 lines s from br (by simp [j5])] at hb
  kd_p
  have : best = mq lines s := by
   unfold mq
   rcases hb with ⟨q, q1, q2⟩ | ⟨b, q0, q, q1, q2, q3⟩
   ·rw [if_neg]
    ·exact q
    ·rintro ⟨z1, z2⟩
     have : oN (j5 lines s) ∈ j5 lines s := by
      cases hx : j5 lines s with
      | nil => exact absurd hx z1
      | cons c L =>
       unfold oN
       have hp := ki (c :: L)
       cases e : nz (c :: L) with
       | nil => rw [e] at hp; exact absurd hp.length_eq (by simp)
       | cons d M => rw [e] at hp; exact hp.mem_iff.mp (.head _)
     exact q2 _ this z2
   ·have := uP q0 q3
    rw [if_pos ⟨fun z => (by rw [z] at q0; cases q0), by rw [← this]; exact q2⟩, ← this]; exact q
  rw [this]; exact h
end
noncomputable def lT (lines : List (List Int)) (ch : Bool) (s : Nat) : Int := if ch = true then mq lines s else -1
noncomputable def kU (lines : List (List Int)) (ch : Bool) (s : Nat) : jL := if lT lines ch s = -1 then n5 (lines.getD s []) else li (lines.getD s []) (lines.getD (lT lines ch s).toNat [])
noncomputable def jT (lines : List (List Int)) (ch : Bool) : List Int := (av lines.length).map (lT lines ch)
noncomputable def js (lines : List (List Int)) (ch : Bool) : List jL := (av lines.length).map (kU lines ch)
theorem BV {lines : List (List Int)} {s : Nat} {c : Int × Int} (h : c ∈ j5 lines s) : 0 ≤ c.2 ∧ c.2 < s := by
 unfold j5 at h
 obtain ⟨j, hj, rfl⟩ := az.mp h
 have := aM.mp hj
 simp only; exact J17 8 this
theorem BW {L : List (Int × Int)} (h : L ≠ []) : oN L ∈ L := by
 unfold oN
 have hp := ki L
 cases e : nz L with
 | nil => rw [e] at hp; exact absurd hp.symm.eq_nil h
 | cons d M => rw [e] at hp; exact hp.mem_iff.mp (.head _)
theorem qJ {lines : List (List Int)} {ch : Bool} {s : Nat} : lT lines ch s = -1 ∨ (0 ≤ lT lines ch s ∧ lT lines ch s < s) := by
 unfold lT mq
 split
 ·split
  ·rename_i h; exact .inr (BV (BW h.1))
  ·exact .inl rfl
 ·exact .inl rfl
theorem zu {lines : List (List Int)} {ch : Bool} {s cnt : Nat} (hc : ∀ l ∈ lines, l.length = cnt) (h : cnt < 64) (hs : s < lines.length) : o7 (kU lines ch s) := by
 have hls := hc _ (jp (d := ([] : List Int)) hs)
 unfold kU n5 li
 split <;> exact qF (by exact J2 16 hls h)
theorem p7 {lines : List (List Int)} {ch : Bool} {cnt : Nat} (hc : ∀ l ∈ lines, l.length = cnt) (h : cnt < 64) (hz : lines.length < 64) : jZ (js lines ch) :=
 ⟨fun d hd => by
  unfold js at hd
  obtain ⟨s, hs, rfl⟩ := az.mp hd
  exact zu hc h (aM.mp hs), by unfold js; rw [aa, aq]; exact hz⟩
section
variable {a : AR} {tags : List (List Int)} {cnt : Nat} {par : List Int} {size : Nat}
theorem w7 (P : PW W) {lines : List (List Int)} (hne : 0 < lines.length) (hz : lines.length < 64) (hc : ∀ l ∈ lines, l.length = cnt) (hcnt : cnt < 64) (htg : tags.length ≤ 5000)
  (h : Q (rk (kQ (js lines true)) tags cnt (jT lines true)) H) : jX W (n + 9) H (.ref 581) [zm lines tags, .bool true] Q := by
 wtm_at "full"
 kd_p
 intro ar
 kd_p
 intro ap
 kd_p
 exists jG ?_
 exists rM P (by exact J0 13 hz) ?_
 let I1 : IT jr := fun i Z => Z [lc "dfa" (zm lines tags), lc "is_chained" (.bool true), lc "rows" (.ref ar), lc "parents" (.ref ap), lu "state", lu "parent", lu "packed", lu "tags", gb "range", gb "choose_parent", gb "live_entries", gb "unlike_entries", gb "packed_rows", gb "PackedDfa"] ((ap, .lst (jn ((av i).map (lT lines true)))) :: (ar, .lst (((av i).map (kU lines true)).map jU)) :: H)
 refine ⟨lines.length, rfl, by exact J0 22 hz, I1, fun Z zz => zz, ?_, ?_⟩
 ·rintro i hi
  have hpr := qJ (lines := lines) (ch := true) (s := i)
  have hls := hc _ (jp (d := ([] : List Int)) hi)
  have e1 : (av (i + 1)).map (lT lines true) = (av i).map (lT lines true) ++ [lT lines true i] := by rw [bA, aJ]; rfl
  have e2 : ((av (i + 1)).map (kU lines true)).map jU = ((av i).map (kU lines true)).map jU ++ [jU (kU lines true i)] := by rw [bA, aJ, aJ]; rfl
  exists ⟨_, by kd_in, ?_⟩
  refine BU P hi (by exact J0 13 hz) hc (by exact J0 13 hcnt) ?_
  rw [show mq lines i = lT lines true i from rfl]
  kd_p
  ·have hrow : kU lines true i = if lT lines true i = -1 then n5 (lines.getD i []) else li (lines.getD i []) (lines.getD (lT lines true i).toNat []) := rfl
   rw [oZ, ← e1]
   have hsz : (((av i).map (kU lines true)).map jU).length ≤ sizeLine := by rw [aa, aa, aq, am]; exact J2 22 hi hz
   generalize hp : lT lines true i = p at *
   refine jA.dec (fun h1 => ?_) fun h1 => ?_
   ·kd_p
    refine kA Vw.refl (by exact J0 0) (by exact J0 1 hi) (by exact J1 14 hi hz) ?_
    rw [ag]
    kd_p
    refine w6 P (by exact J0 10 hls hcnt) ?_
    rw [if_pos h1] at hrow
    kd_p
    rw [← hrow, ← e2]
    exact jv.nx (by kd_all) (fun Z zz => zz)
   ·have hlp := hc _ (jp (d := ([] : List Int)) (i := p.toNat) (show p.toNat < lines.length by exact J7 12 hi hpr))
    kd_p
    refine kA Vw.refl (by exact J0 0) (by exact J0 1 hi) (by exact J1 14 hi hz) ?_
    rw [ag]
    kd_p
    exists kA Vw.refl (by exact J17 9 h1 hpr) (by exact J7 12 hi hpr) (by exact J17 10 hi hz hpr) ?_
    refine wd P (by exact J0 10 hls hcnt) (by exact J7 11 hlp hls) ?_
    rw [if_neg h1] at hrow
    kd_p
    rw [← hrow, ← e2]
    exact jv.nx (by kd_all) (fun Z zz => zz)
  ·rw [aa, aa, aq, am]; exact J2 22 hi hz
 ·show lj _ _ _ _ _ _
  have hok := p7 (ch := true) hc hcnt hz
  refine mG (my.frz (r' := [lc "dfa" (zm lines tags), lc "is_chained" (.bool true), lc "rows" (jW (js lines true)), lc "parents" (.lst (jn (jT lines true))), lu "state", lu "parent", lu "packed", lu "tags", gb "range", gb "choose_parent", gb "live_entries", gb "unlike_entries", gb "packed_rows", gb "PackedDfa"]) .two (.same (.same (.rfy (.lst (.tail _ (.head _)) .refl) (.rfy (.lst (.head _) .refl) (by kd_all))))) mS.refl) ?_
  kd_p1
  kd_p1
  exists nv P (by kd_mem) ?_
  exists kx P hok ?_
  exists lz (α := List Int) (fun t => PV.tup (jn t)) (by wtm_at "hcap") (jN ?_)
  refine ⟨_, rfl, _, tags, fun t => .tup (jn t), by wtm_at "crho", rfl, by rw [am]; exact J0 8 htg, fun t htt => ⟨_, by kd_in, sh P (by kd_mem) ?_⟩, ?_⟩
  ·kd_p
   refine sR Vw.refl ?_
   exact ⟨rfl, rfl⟩
  kd_p
  refine rN P (l := lines.getD 0 []) (jK hne) (by have := hc _ (jp (d := ([] : List Int)) hne); exact J0 10 this hcnt) ?_
  rw [hc _ (jp (d := ([] : List Int)) hne)]
  kd_p
  exact uo P h
theorem w8 (P : PW W) {lines : List (List Int)} (hne : 0 < lines.length) (hz : lines.length < 64) (hc : ∀ l ∈ lines, l.length = cnt) (hcnt : cnt < 64) (htg : tags.length ≤ 5000)
  (h : Q (rk (kQ (js lines false)) tags cnt (jT lines false)) H) : jX W (n + 9) H (.ref 581) [zm lines tags] Q := by
 wtm_at "dflt"
 kd_p
 intro ar
 kd_p
 intro ap
 kd_p
 exists jG ?_
 exists rM P (by exact J0 13 hz) ?_
 let I2 : IT jr := fun i Z => Z [lc "dfa" (zm lines tags), lc "is_chained" (.bool false), lc "rows" (.ref ar), lc "parents" (.ref ap), lu "state", lu "parent", lu "packed", lu "tags", gb "range", gb "choose_parent", gb "live_entries", gb "unlike_entries", gb "packed_rows", gb "PackedDfa"] ((ap, .lst (jn ((av i).map (lT lines false)))) :: (ar, .lst (((av i).map (kU lines false)).map jU)) :: H)
 refine ⟨lines.length, rfl, by exact J0 22 hz, I2, fun Z zz => zz, ?_, ?_⟩
 ·rintro i hi
  have hpr := qJ (lines := lines) (ch := false) (s := i)
  have hls := hc _ (jp (d := ([] : List Int)) hi)
  have e1 : (av (i + 1)).map (lT lines false) = (av i).map (lT lines false) ++ [lT lines false i] := by rw [bA, aJ]; rfl
  have e2 : ((av (i + 1)).map (kU lines false)).map jU = ((av i).map (kU lines false)).map jU ++ [jU (kU lines false i)] := by rw [bA, aJ, aJ]; rfl
  exists ⟨_, by kd_in, ?_⟩
  ·have hsz : (((av i).map (kU lines false)).map jU).length ≤ sizeLine := by rw [aa, aa, aq, am]; exact J2 22 hi hz
   have e3 : jn ((av i).map (lT lines false)) ++ [PV.int (-1)] = jn ((av (i + 1)).map (lT lines false)) := by rw [e1, ← oZ]; rfl
   rw [e3]
   exists jA.pos rfl ?_
   refine kA Vw.refl (by exact J0 0) (by exact J0 1 hi) (by exact J1 14 hi hz) ?_
   rw [ag]
   kd_p
   exists w6 P (by exact J0 10 hls hcnt) ?_
   rw [show n5 (lines.getD i []) = kU lines false i from rfl, ← e2]
   exact jv.nx (by kd_all) (fun Z zz => zz)
  ·rw [aa, aa, aq, am]; exact J2 22 hi hz
 ·show lj _ _ _ _ _ _
  have hok := p7 (ch := false) hc hcnt hz
  refine mG (my.frz (r' := [lc "dfa" (zm lines tags), lc "is_chained" (.bool false), lc "rows" (jW (js lines false)), lc "parents" (.lst (jn (jT lines false))), lu "state", lu "parent", lu "packed", lu "tags", gb "range", gb "choose_parent", gb "live_entries", gb "unlike_entries", gb "packed_rows", gb "PackedDfa"]) .two (.same (.same (.rfy (.lst (.tail _ (.head _)) .refl) (.rfy (.lst (.head _) .refl) (by kd_all))))) mS.refl) ?_
  kd_p1
  kd_p1
  exists nv P (by kd_mem) ?_
  exists kx P hok ?_
  exists lz (α := List Int) (fun t => PV.tup (jn t)) (by wtm_at "hcap") (jN ?_)
  refine ⟨_, rfl, _, tags, fun t => .tup (jn t), by wtm_at "crho", rfl, by rw [am]; exact J0 8 htg, fun t htt => ⟨_, by kd_in, sh P (by kd_mem) ?_⟩, ?_⟩
  ·kd_p
   refine sR Vw.refl ?_
   exact ⟨rfl, rfl⟩
  kd_p
  refine rN P (l := lines.getD 0 []) (jK hne) (by have := hc _ (jp (d := ([] : List Int)) hne); exact J0 10 this hcnt) ?_
  rw [hc _ (jp (d := ([] : List Int)) hne)]
  kd_p
  exact uo P h
theorem u7 (P : PW W) {f : Int → Int → Int} (x : rl a par size cnt f) (hz : cnt ≤ 5000) (htg : tags.length ≤ 5000)
  (h : Q (zm ((av size).map fun s => (av cnt).map fun c => f (s : Nat) (c : Nat)) tags) H) : jX W (n + 4) H (.ref 586) [rk a tags cnt par] Q := by
 have xr := x.arr.r
 wtm_at "def"
 kd_p
 intro ar
 kd_p
 exists jG ?_
 exists tw P x.arr ?_
 let I3 : IT jr := fun i Z => Z [cc "packed" (rk a tags cnt par), lc "rows" (.ref ar), cu "state", gb "range", gb "Dfa"] ((ar, .lst (((av i).map fun s => (av cnt).map fun c => f (s : Nat) (c : Nat)).map fun l => .lst (jn l))) :: H)
 refine ⟨size, rfl, by exact J0 17 xr, I3, fun Z zz => zz, ?_, ?_⟩
 ·rintro i hi
  refine ⟨_, by kd_in, ?_⟩
  exists jl (lv rfl (k8 ?_))
  exists kq (α := Nat) (fun c => PV.int (f (i : Nat) (c : Nat))) (by wtm_at "hcap") (jM ?_)
  refine ⟨cnt, rfl, by exact J0 17 hz, _, av cnt, fun c => .int (c : Nat), by wtm_at "crho", rfl, by rw [aq, am]; exact J0 8 hz, fun c hcm => ⟨_, by kd_in, ?_⟩, ?_⟩
  ·have := aM.mp hcm
   kd_p
   refine n4 P x.arr x.pk (by exact J1 15) (by exact J0 23 hi) ?_
   rw [x.eq _ _ (by exact J1 15) (by exact J0 23 hi) (by exact J0 0) (by exact J0 23 this)]
   exact ⟨rfl, rfl⟩
  ·kd_p
   ·refine jv.nx (by kd_all) (Of.eqH ?_ (fun Z zz => zz))
    rw [bA, aJ, aJ]
    simp
   ·rw [aa, aa, aq, am]; exact J6 19 xr hi
 ·show lj _ _ _ _ _ _
  refine mG (my.frz (r' := [cc "packed" (rk a tags cnt par), lc "rows" (j3 ((av size).map fun s => (av cnt).map fun c => f (s : Nat) (c : Nat))), cu "state", gb "range", gb "Dfa"]) .one (.same (.rfy (.lst (.head _) .refl) (by kd_all))) mS.refl) ?_
  kd_p1
  kd_p1
  exists D7 P (by kd_mem) ?_
  exists kq (α := List Int) (fun t => PV.tup (jn t)) (by wtm_at "hcap") (jN ?_)
  refine ⟨_, rfl, _, tags, fun t => .tup (jn t), by wtm_at "crho", rfl, by rw [am]; exact J0 8 htg, fun t htt => ⟨_, by kd_in, sh P (by kd_mem) ?_⟩, ?_⟩
  ·kd_p
   refine sR Vw.refl ?_
   exact ⟨rfl, rfl⟩
  kd_p
  exact ym P h
end
noncomputable abbrev ko (ns : List Int) (sp gr : Int) : HO := .lst [.lst (jn ns), .int sp, .int gr]
theorem n6 {x m : Int} (h : 0 < m) : 0 ≤ x.fmod m ∧ x.fmod m < m := by
 rw [Int.fmod_eq_emod_of_nonneg _ (ix h)]
 exact ⟨Int.emod_nonneg _ (by exact J1 16 h), Int.emod_lt_of_pos _ h⟩
theorem yn {x m : Int} (hx : 0 ≤ x) (h : 0 < m) : 0 ≤ x.fdiv m := by
 rw [dA _ (ix h)]
 exact Int.ediv_nonneg hx (ix h)
theorem ty {value e : Expr} {p pos} (h : Ev W n r H value fun o H1 => Ev W n r H1 e fun i H2 => A0 o i H2 fun xs k => ∀ a, Q (.ref a) ((a, .lst (xs.take k)) :: H2)) :
  Ev W n r H (.Subscript value (.Slice none (some e) none p) pos) Q := fun A env fa G s R hr f => by
 refine Subscript_ (ay (h A env fa G s R hr f) (fun vo s1 h1 => ?_) fun _ _ x => x)
 obtain ⟨G1, po, H1, e1, r1, v1, q1⟩ := h1
 refine wpAny_Slice (aB ?_)
 refine ay (q1 A env fa G1 s1 R r1 (f.ext e1)) (fun vi s2 h2 => ?_) fun _ _ x => x
 obtain ⟨G2, pi, H2, e2, r2, v2, xs, k, w, rfl, hz, hQ⟩ := h2
 obtain ⟨t, rfl⟩ := lM v2
 obtain ⟨a, vs, m, rfl, g1, rs⟩ := w.lstAt r2 (e2.rv v1)
 rw [evalPart_none]
 refine aB ?_
 have hl := jq g1
 obtain ⟨ops, hs⟩ := nA (.Slice none (some e) none p) (.ref a) (.ref s2.heap.objs.size)
 refine tail_any (T := "list") (hl.push _).typeIs fG.lookup (wpAny_getItem_list_slice (hl.push _) (jj ..) .none (.int _ _) .none (by simp) ?_ (by rw [aH, rs.length]; exact hz)) hs
 refine Fin.trans (e1.trans e2) (mH (vs := vs.take k) (tk := s2.toks) (m := 0) r2 (ke ?_) (fun b o e => ju _ _ _ (ju _ _ _ e)) ?_ (rs.take k) hQ)
 ·rw [cL]; exact cW _
 ·rw [slicePick_upto', b7]
  exact aV _ rfl
theorem GM (P : PW W) {ns : List Int} (hz : ns.length ≤ 64) (h : ∀ a, Q (.ref a) ((a, ko (ns.take 40) 0 0) :: H)) : jX W (n + 1) H (.ref 591) [.lst (jn ns)] Q := by
 have hs := pK (L := ns) (by exact J4 9 hz)
 wtm_at "def"
 exists jl (jP (uA rfl (jy (kq (α := Int) PV.int (by wtm_at "hcap") (jN (lg (CS ?_)))))))
 refine ⟨_, 40, Vw.refl, rfl, hs, fun a => ⟨a, _, _, rfl, rfl, _, rfl, _, ns.take 40, PV.int, by wtm_at "crho", by rw [eE], ?_, fun k hk => ⟨_, by kd_in, ?_⟩, ?_⟩⟩
 ·rw [bg, am]; exact J17 11
 ·kd_p
  exact rfl
 ·kd_p
  intro a
  exact h a
theorem kc (P : PW W) {K : HO → HH} {p : Addr} (U : ∀ o o', kO p o o' (K o) (K o')) {ns : List Int} {sp gr many : Int} (hz : ns.length ≤ 64) (h0 : 0 ≤ sp) (h1 : sp ≤ 1000000) (hg : 0 ≤ gr) (hm : 0 < many) (hm2 : many ≤ 1000)
  (hq : ∀ d sp' gr' : Int, 0 ≤ d → d < many → 0 ≤ sp' → sp' ≤ sp + 1 → 0 ≤ gr' → Q (.int d) (K (ko ns sp' gr'))) : jX W (n + 1) (K (ko ns sp gr)) (.ref 598) [.ref p, .int many] Q := by
 have vp : ∀ {H : HH} {xs : List PV}, (p, HO.lst xs) ∈ H → Vw H (.ref p) (.lst xs) := fun h => .lst h
 have mem : ∀ o, (p, o) ∈ K o := fun o => (U o o).there
 have hs := pK (L := ns) (by exact J4 9 hz)
 wtm_at "def"
 kd_p
 exists jx (x := .int gr) (vp (mem _)) (by decide) rfl (by decide) ?_
 refine jA.dec (fun h2 => ?_) fun h2 => ?_
 ·kd_p
  exists jx (x := .int gr) (vp (mem _)) (by decide) rfl (by decide) ?_
  exists oR (by exact J1 16 hm) ?_
  exists jx (x := .int gr) (vp (mem _)) (by decide) rfl (by decide) ?_
  exists uB (by exact J1 16 hm) (by exact J7 13 hm2 hm) ?_
  exists mu (U _ _) (by decide) (by decide) (by simp) ?_
  have := n6 (x := gr) hm
  exact hq _ _ _ this.1 this.2 h0 (by exact J2 23) (yn hg hm)
 wtm_at "mo"
 refine jx (x := .int sp) (vp (mem _)) (by decide) rfl (by decide) ?_
 wtm_at "mo"
 refine mu (U _ _) (by decide) (by decide) (by simp) ?_
 change lj W n _ (K (ko ns (sp + 1) gr)) _ _
 exists jl (jB rfl (kP ?_))
 exists ly (nl (by decide)) ?_
 exists ty ?_
 exists jx (x := .lst (jn ns)) (vp (mem _)) (by decide) rfl (by decide) ?_
 exists ⟨_, 1, Vw.refl, rfl, hs, fun a => ?_⟩
 refine uM (ns := ns.take 1) (.lst (by rw [← eE]; exact .head _)) ?_
 kd_p
 exists oR (by decide) ?_
 refine ⟨_, _, .one, ?_⟩
 generalize 20947 * sp + 3571 + Int.fmod (ns.take 1).sum 1000003 = c0
 kd_p1
 refine jl (uF (Q' := fun fl r' H' => fl = .next ∧ ∃ c : Int, r' = [lc "pen" (.ref p), lc "many" (.int many), lu "digit", lc "spot" (.int sp), lc "cell" (.int c), lu "great", lu "mixed", gb "int", gb "sum", gb "len", gb "abs"] ∧ H' = K (ko ns (sp + 1) gr)) (kG (o9 (jS ?_))) ?_)
 ·kd_p
  exists jx (x := .lst (jn ns)) (vp (mem _)) (by decide) rfl (by decide) ?_
  intro ae
  kd_p
  exists nB Vw.refl (.lst (.head _)) ?_
  refine ⟨_, _, .one, ?_⟩
  rw [show (!(jn ns).isEmpty) = decide (ns ≠ []) by cases ns <;> simp]
  refine jA.dec (fun h3 => ?_) fun h3 => ?_
  ·have hpos := bI.mpr h3
   kd_p
   exists jx (x := .lst (jn ns)) (vp (mem _)) (by decide) rfl (by decide) ?_
   exists jx (x := .lst (jn ns)) (vp (mem _)) (by decide) rfl (by decide) ?_
   rw [aa]
   exists oR (by exact J17 12 hpos) ?_
   have hr := n6 (x := sp) (m := (ns.length : Int)) (by exact J0 14 hpos)
   exists j7 Vw.refl hr.1 (by exact J17 13 hr) (by exact J4 9 hz) ?_
   exact ⟨_, rfl, rfl⟩
  ·kd_p
   exact ⟨_, rfl, rfl⟩
 rintro fl r' H' ⟨rfl, c, rfl, rfl⟩
 refine jl (uF (Q' := fun fl r' H' => (∃ v, fl = .ret v ∧ Q v H') ∨ (fl = .next ∧ r' = [lc "pen" (.ref p), lc "many" (.int many), lu "digit", lc "spot" (.int sp), lc "cell" (.int c), lu "great", lu "mixed", gb "int", gb "sum", gb "len", gb "abs"] ∧ H' = K (ko ns (sp + 1) gr))) ?_ ?_)
 ·kd_p
  exists jx (x := .lst (jn ns)) (vp (mem _)) (by decide) rfl (by decide) ?_
  rw [aa]
  refine jA.dec (fun h3 => ?_) fun h3 => ?_
  rotate_left
  ·kd_p
   exact .inr ⟨rfl, rfl, rfl⟩
  kd_p
  exists qP (by decide) (by decide) (by decide) ?_
  refine jA.dec (fun h4 => ?_) fun h4 => ?_
  rotate_left
  ·kd_p
   exact .inr ⟨rfl, rfl, rfl⟩
  kd_p
  exists qP (by decide) (by decide) (by decide) ?_
  exists ly (nl (by decide)) ?_
  have hgr : 0 ≤ 2 * ((c.natAbs : Int) - 10 ^ (18 : Int).toNat) + (if decide (c < 0) = true then 1 else 0) := by
   have : (0 : Int) ≤ (if decide (c < 0) = true then 1 else 0) := by split <;> decide
   lia
  generalize 2 * ((c.natAbs : Int) - 10 ^ (18 : Int).toNat) + (if decide (c < 0) = true then (1 : Int) else 0) = great at *
  exists uB (by exact J1 16 hm) (by exact J7 13 hm2 hm) ?_
  exists mu (U _ _) (by decide) (by decide) (by simp) ?_
  exists oR (by exact J1 16 hm) ?_
  have := n6 (x := great) hm
  exact .inl ⟨_, rfl, hq _ _ _ this.1 this.2 (by exact J7 14 h0) (by exact J7 15) (yn hgr hm)⟩
 rintro fl r' H' (⟨v, rfl, hv⟩ | ⟨rfl, rfl, rfl⟩)
 ·exact hv
 kd_p
 have hc := n6 (x := c) (m := 2147483587) (by decide)
 exists oR (by decide) ?_
 exists ly (nl (by decide)) ?_
 exists qP (by decide) (by decide) (by lia) ?_
 exists oR (by decide) ?_
 have hx := n6 (x := (c.fmod 2147483587 + 20947 * sp + 3571) ^ (5 : Int).toNat) (m := 2147483629) (by decide)
 generalize Int.fmod ((c.fmod 2147483587 + 20947 * sp + 3571) ^ (5 : Int).toNat) 2147483629 = mx at *
 exists ly (nl (by decide)) ?_
 exists ly (nl (by exact J17 14 hx)) ?_
 exists ly (nl (by decide)) ?_
 exists ly (nl (by exact J17 15 h1 h0)) ?_
 have hb : (mx * (2 * sp + 7207) + 20947 * sp * sp + 31).natAbs < 2 ^ 64 := by
  have e1 : mx * (2 * sp + 7207) ≤ 2147483629 * 2007207 := i8 (by exact J17 16 hx) (by exact J17 17 h1) (by exact J7 16 h0) (by decide)
  have e2 : 0 ≤ mx * (2 * sp + 7207) := fe hx.1 (by exact J7 16 h0)
  have e3 : 20947 * sp * sp ≤ 20947000000 * 1000000 := i8 (by exact J17 18 h1) (by exact J17 19 h1) (by exact J4 10 h0) (by decide)
  have e4 : 0 ≤ 20947 * sp * sp := fe (by exact J17 20 h0) (by exact J4 10 h0)
  exact J17 21 e3 e1 e4 e2
 exists qP (by decide) (by decide) hb ?_
 exists oR (by decide) ?_
 exists uB (by decide) (by decide) ?_
 exists oR (by exact J1 16 hm) ?_
 have := n6 (x := (Int.fmod ((mx * (2 * sp + 7207) + 20947 * sp * sp + 31) ^ (3 : Int).toNat) 2147483579).fdiv 32) hm
 exact hq _ _ _ this.1 this.2 (by exact J7 14 h0) (by exact J7 15) (by exact J4 10 hg)
theorem oC (P : PW W) {K : HO → HH} {p : Addr} (U : ∀ o o', kO p o o' (K o) (K o')) {q : PV} {xs : List PV} (w : ∀ o, Vw (K o) q (.lst xs)) (hx : 0 < xs.length) (hx2 : xs.length ≤ 1000) {ns : List Int} {sp gr : Int} (hz : ns.length ≤ 64) (h0 : 0 ≤ sp) (h1 : sp ≤ 1000000) (hg : 0 ≤ gr)
  (hq : ∀ x ∈ xs, ∀ sp' gr' : Int, 0 ≤ sp' → sp' ≤ sp + 1 → 0 ≤ gr' → Q x (K (ko ns sp' gr'))) : jX W (n + 2) (K (ko ns sp gr)) (.ref 605) [.ref p, q] Q := by
 wtm_at "def"
 exists jl (jP (og ?_))
 refine sA (w _) (by rw [am]; exact J17 22 hx2) ?_
 kd_p
 refine kc P U hz h0 h1 hg (by exact J0 14 hx) (by exact J17 23 hx2) fun d sp' gr' hd0 hd1 q1 q2 q3 => ?_
 have hd : d.toNat < xs.length := by exact J2 1 hd1 hx
 kd_p
 refine jx (x := xs[d.toNat]) (w _) hd0 (aG hd) (by exact J18 0 hx2 hd1) ?_
 exact hq _ (bJ hd) _ _ q1 q2 q3
structure nP (d : jL) (j : Nat) : Prop where
 srt : qO d
 rng : ∀ p ∈ d, 0 ≤ p.1 ∧ p.1 < (j : Int)
theorem nP.nil {j} : nP [] j := ⟨by unfold qO; simp, by simp⟩
theorem nP.up {d j k} (x : nP d j) (h : j ≤ k) : nP d k := ⟨x.srt, fun p hp => by have := x.rng p hp; exact J18 1 h this⟩
theorem nP.new {d j} (x : nP d j) {v : Int} : dset d (j : Int) v = d ++ [((j : Int), v)] := o6 (lE.mpr fun q => by
 obtain ⟨p, hp, e⟩ := az.mp q
 have := x.rng p hp; exact J18 2 this e)
theorem nP.snoc {d j} (x : nP d j) {v : Int} : nP (d ++ [((j : Int), v)]) (j + 1) := by
 refine ⟨?_, fun p hp => ?_⟩
 ·unfold qO
  rw [aJ, bG]
  refine ⟨x.srt, by simp, fun a ha b hb => ?_⟩
  obtain ⟨p, hp, rfl⟩ := az.mp ha
  simp at hb; subst hb
  exact (x.rng p hp).2
 ·rcases aQ.mp hp with hp | hp
  ·have := x.rng p hp; exact J18 3 this
  ·simp at hp; subst hp; simp only; exact J18 4
theorem yo : ∀ (j : Nat) {L : List Int}, L.Pairwise (· < ·) → (∀ c ∈ L, 0 ≤ c ∧ c < (j : Int)) → L.length ≤ j
 | 0, L, h1, h2 => by
  cases L with
  | nil => simp
  | cons c L => have := h2 c (.head _); exact J18 5 this
 | j + 1, L, h1, h2 => by
  rcases cA L with rfl | ⟨L', c, rfl⟩
  ·simp
  ·rw [cB] at *
   have h3 := bG.mp h1
   have := yo j h3.1 fun x hx => by
    have q1 := h3.2.2 x hx c (by simp)
    have q2 := h2 x (bu _ hx)
    have q3 := h2 c (by simp)
    exact J18 6 q3 q2 q1
   simp; exact J7 17 this
theorem nP.len {d j} (x : nP d j) : d.length ≤ j := by
 have := yo j x.srt (fun c hc => by obtain ⟨p, hp, rfl⟩ := az.mp hc; exact x.rng p hp)
 simpa using this
theorem nP.ok {d j} (x : nP d j) (h : j < 64) : o7 d := ⟨x.srt, fun p hp => (x.rng p hp).1, fun p hp => by have := (x.rng p hp).2; exact J18 7 this h, bH x.len h⟩
theorem BX (P : PW W) {K : HO → HH} {p : Addr} (U : ∀ o o', kO p o o' (K o) (K o')) {ns : List Int} {sp gr : Int} (hz : ns.length ≤ 64) (h0 : 0 ≤ sp) (h1 : sp ≤ 500000) (hg : 0 ≤ gr)
  (hq : ∀ (R : List jL) (sp' gr' : Int), 2 ≤ R.length → R.length ≤ 5 → (∀ d ∈ R, nP d 6) → 0 ≤ sp' → sp' ≤ sp + 100 → 0 ≤ gr' → Q (jW R) (K (ko ns sp' gr'))) : jX W (n + 3) (K (ko ns sp gr)) (.ref 612) [.ref p] Q := by
 wtm_at "def"
 kd_p
 intro af
 kd_p
 exists jG ?_
 exists kc (K := fun o => (af, .lst []) :: K o) P (fun o o' => .tail (U o o')) hz h0 (by exact J3 0 h1) hg (by decide) (by decide) fun d sp1 gr1 hd0 hd1 s0 s1 g0 => ?_
 obtain ⟨dn, rfl⟩ : ∃ dn : Nat, d = (dn : Int) := ⟨d.toNat, by exact J2 2 hd0⟩
 let I1 : IT jr := fun i Z => ∀ (R : List jL) (sp' gr' : Int), R.length = i → (∀ d ∈ R, nP d 6) → 0 ≤ sp' → sp' ≤ sp1 + 10 * i → 0 ≤ gr' → Z [lc "pen" (.ref p), lc "found" (.ref af), lu "turn", lu "one", lu "column", lu "number", gb "range", gb "_law_draw", gb "dict", gb "_law_pick"] ((af, .lst (R.map jU)) :: K (ko ns sp' gr'))
 refine ⟨2 + dn, by rw [show ((2 + dn : Nat) : Int) = 2 + (dn : Int) by exact J18 8], by exact J18 9 hd1, I1, fun Z zz => zz [] sp1 gr1 rfl (by simp) s0 (by exact J3 1) g0, ?_, ?_⟩
 ·rintro i hi R sp' gr' hRl hR q0 q1 q2
  have hi5 : i ≤ 5 := by exact J18 10 hd1 hi
  have hRs : (R.map jU).length ≤ sizeLine := by rw [aa, am]; exact J18 11 hRl hd1 hi
  refine ⟨_, by kd_in, ?_⟩
  let ρ : jr := [lc "pen" (.ref p), lc "found" (.ref af), lc "turn" (.int (i : Nat)), lu "one", lu "column", lu "number", gb "range", gb "_law_draw", gb "dict", gb "_law_pick"]
  let I3 : jH → Prop := fun Z => (∀ sp2 gr2 : Int, 0 ≤ sp2 → sp2 ≤ sp' + 2 → 0 ≤ gr2 → ∀ row ∈ R, Z .cont ρ ((af, .lst ((R ++ [row]).map jU)) :: K (ko ns sp2 gr2))) ∧ ∀ sp2 gr2 : Int, 0 ≤ sp2 → sp2 ≤ sp' + 2 → 0 ≤ gr2 → Z .next ρ ((af, .lst (R.map jU)) :: K (ko ns sp2 gr2))
  refine jl (BB I3 ?_ ?_)
  ·exists kG (nH (o9 (jS ?_)))
   intro ae
   kd_p
   exists nB (.lst (.tail _ (.head _))) (.lst (.head _)) ?_
   refine ⟨_, _, .one, ?_⟩
   rw [show (!(R.map jU).isEmpty) = decide (R ≠ []) by cases R <;> simp]
   refine jA.dec (fun h3 => ?_) fun h3 => ?_
   rotate_left
   ·kd_p
    exact fun Z zz => zz.2 sp' gr' q0 (by exact J18 12) q2
   kd_p
   exists kc (K := fun o => (af, .lst (R.map jU)) :: K o) P (fun o o' => .tail (U o o')) hz q0 (by exact J18 13 s1 q1 h1 hd1 hi) q2 (by decide) (by decide) fun d2 sp2 gr2 hd0 hd1 s2 s3 g2 => ?_
   refine jA.dec (fun h4 => ?_) fun h4 => ?_
   rotate_left
   ·kd_p
    exact fun Z zz => zz.2 sp2 gr2 s2 (by exact J18 14 s3) g2
   refine ux (jA.tt ?_)
   refine jl (lv rfl (k8 ?_))
   wtm_at "mo"
   exists vR (sZ P (by kd_mem) (jy (nv P (by kd_mem) ?_)))
   have hpos := bI.mpr h3
   refine oC (K := fun o => (af, .lst (R.map jU)) :: K o) P (fun o o' => .tail (U o o')) (fun o => .lst (.head _)) (by rw [aa]; exact hpos) (by rw [aa]; exact J18 15 hRl ‹_› hi) hz s2 (by exact J18 16 s1 s3 q1 h1 ‹_› hi) g2 fun x hx sp3 gr3 s4 s5 g3 => ?_
   obtain ⟨row, hrow, rfl⟩ := az.mp hx
   kd_p
   refine uf (f := PV.int) Vw.refl (mc (by have := (hR row hrow).len; exact J7 18 this)) fun ad => ⟨ad, _, _, rfl, rfl, ?_⟩
   kd_p
   have := fun Z (zz : I3 Z) => zz.1 sp3 gr3 s4 (by exact J18 17 s5 s3) g3 row hrow
   rw [aJ] at this
   exact this
  refine ⟨fun sp2 gr2 s2 s3 g2 row hrow => ?_, fun sp2 gr2 s2 s3 g2 => ?_⟩
  ·refine jv.ct (by kd_all) fun Z zz => zz (R ++ [row]) sp2 gr2 (by simp [hRl]) (fun d hd => ?_) s2 (by exact J18 18 s3 q1) g2
   rcases aQ.mp hd with hd | hd
   ·exact hR d hd
   ·simp at hd; subst hd; exact hR _ hrow
  kd_p
  intro ao
  kd_p
  exists jG ?_
  let I2 : IT jr := fun j Z => ∀ (d : jL) (sp3 gr3 : Int), nP d j → 0 ≤ sp3 → sp3 ≤ sp2 + j → 0 ≤ gr3 → Z [lc "pen" (.ref p), lc "found" (.ref af), lc "turn" (.int (i : Nat)), lc "one" (.ref ao), lu "column", lu "number", gb "range", gb "_law_draw", gb "dict", gb "_law_pick"] ((ao, .dct (Dk .int d)) :: (af, .lst (R.map jU)) :: K (ko ns sp3 gr3))
  refine ⟨6, rfl, by decide, I2, fun Z zz => zz [] sp2 gr2 nP.nil s2 (by exact J0 18) g2, ?_, ?_⟩
  ·rintro j hj d sp3 gr3 hd s4 s5 g3
   refine ⟨_, by kd_in, ?_⟩
   exists jl (jB rfl (kP (nv P (by kd_mem) ?_)))
   intro al
   kd_p
   refine oC (K := fun o => (al, .lst [.none, .int 0, .none, .int (-1), .int 4, .none, .int 9]) :: (ao, .dct (Dk .int d)) :: (af, .lst (R.map jU)) :: K o) P (fun o o' => .tail (.tail (.tail (U o o')))) (fun o => .lst (.head _)) (by decide) (by decide) hz s4 (by exact J18 19 s1 s3 s5 q1 h1 hd1 hi hj) g3 fun x hx sp4 gr4 s6 s7 g4 => ?_
   refine ⟨_, _, .one, ?_⟩
   have hx : x = .none ∨ ∃ v, x = .int v := by
    simp only [au, bw, or_false] at hx
    rcases hx with rfl | rfl | rfl | rfl | rfl | rfl | rfl
    ·exact .inl rfl
    ·exact .inr ⟨_, rfl⟩
    ·exact .inl rfl
    ·exact .inr ⟨_, rfl⟩
    ·exact .inr ⟨_, rfl⟩
    ·exact .inl rfl
    ·exact .inr ⟨_, rfl⟩
   rcases hx with rfl | ⟨v, rfl⟩
   ·kd_p
    exists jA.ff ?_
    exact jv.nx (by kd_all) (fun Z zz => zz d sp4 gr4 (hd.up (by exact J3 13)) s6 (by exact J0 19 s7 s5) g4)
   ·kd_p
    exists jA.tt ?_
    refine kI (f := PV.int) rfl (by wtm_at "updh") (mc (by have := hd.len; exact J18 20 this hj)) ?_
    kd_p
    rw [hd.new]
    exact jv.nx (by kd_all) (fun Z zz => zz _ sp4 gr4 hd.snoc s6 (by exact J0 19 s7 s5) g4)
  ·rintro d sp3 gr3 hd s4 s5 g3
   kd_p
   refine jv.fz .one (by kd_all) (.lst (ny.snoc (.dct (.head _) .refl)) mS.refl) (Of.eqH (by rw [aJ]; rfl) (fun Z zz => zz (R ++ [d]) sp3 gr3 (by simp [hRl]) (fun d' hd' => ?_) s4 (by exact J18 21 s3 s5 q1) g3))
   rcases aQ.mp hd' with hd' | hd'
   ·exact hR d' hd'
   ·simp at hd'; subst hd'; exact hd
 ·rintro R sp' gr' hRl hR q0 q1 q2
  exists jl (jP (lg ?_))
  exact ⟨af, _, _, rfl, rfl, hq R _ _ (by exact J18 22 hRl) (by exact J18 23 hRl hd1) hR q0 (by exact J19 0 s1 q1 hd1) q2⟩
theorem we {α : Type} [DecidableEq α] : ∀ {d e : List α}, d.Nodup → (∀ x ∈ d, x ∈ e) → d.length = e.length → d.Perm e
 | [], e, _, _, h => by
  have : e = [] := f8.mp h.symm
  subst this; exact .refl _
 | p :: d, e, hn, hs, h => by
  have hp := hs p (.head _)
  rw [aY] at hn
  have h1 := List.perm_cons_erase hp
  have h2 := h1.length_eq
  refine (gK p (we hn.2 (fun x hx => ?_) ?_)).trans h1.symm
  ·exact (List.mem_erase_of_ne (fun q => hn.1 (by rw [← q]; exact hx))).mpr (hs x (.tail _ hx))
  ·simp at h h2; exact J19 1 h2 h
theorem nQ {d : jL} (h : (d.map ai).Nodup) : d.Nodup := by
 unfold gh at h ⊢
 rw [bU] at h
 exact h.imp fun q e => q (by rw [e])
theorem Du {d e : jL} (hd : qO d) (he : qO e) : D0 d e = true ↔ d = e := by
 constructor
 ·intro h
  unfold D0 at h
  rw [aX, beq_iff_eq, a8] at h
  obtain ⟨h1, h2⟩ := h
  have hs : ∀ x ∈ d, x ∈ e := fun x hx => by
   have := h2 x hx
   cases q : jz e x.1 with
   | none => rw [q] at this; cases this
   | some y =>
    rw [q] at this
    have e1 : x.2 = y := by simpa using this
    have := ls q
    rw [← e1] at this; exact this
  have hp := we (nQ hd.nodup) hs h1
  unfold qO at hd he
  rw [bU] at hd he
  refine vI (R := fun a b => a.1 < b.1 ∨ a = b) (fun a b q1 q2 => ?_) hp (hd.imp fun q => .inl q) (he.imp fun q => .inl q)
  rcases q1 with q1 | q1
  ·rcases q2 with q2 | q2
   ·lia
   ·exact q2.symm
  ·exact q1
 ·rintro rfl
  unfold D0
  rw [aX, beq_iff_eq, a8]
  refine ⟨rfl, fun x hx => ?_⟩
  rw [hd.get hx]; simp
theorem w9 {R : List jL} {d : jL} (hd : d ∈ R) : ((av R.length).filter fun i => decide (R.getD i [] = d))[0]? = some (R.idxOf d) := by
 have hlt := bW hd
 generalize hi : R.idxOf d = i at *
 have hat : R.getD i [] = d := by
  rw [aL, aG hlt]
  simp only [cK]
  subst hi; exact ia hlt
 have hno : ∀ j, j < i → R.getD j [] ≠ d := fun j hj e => by
  have hj2 : j < R.length := by exact J6 12 hj hlt
  have hm : d ∈ R.take i := by
   rw [← e]
   refine aS (i := j) ?_
   rw [List.getElem?_take_of_lt hj]; exact jK hj2
  have : (R.take i).idxOf d < i := by
   have := bW hm
   rw [bg] at this; exact J19 2 this
  have h2 : R.idxOf d = (R.take i).idxOf d := by
   conv => lhs; rw [← bS i R]
   rw [ir, if_pos hm]
  exact J19 3 h2 hi this
 have hsp : av R.length = av i ++ (List.range' i (R.length - i)) := by
  have h1 := List.range'_append_1 (s := 0) (m := i) (n := R.length - i)
  rw [Nat.zero_add] at h1
  rw [gM, gM, h1]; congr 1; exact J19 4 hlt
 rw [hsp, cC]
 have h0 : (av i).filter (fun j => decide (R.getD j [] = d)) = [] := by
  rw [cw]
  intro j hj
  have := hno j (aM.mp hj)
  simpa using this
 rw [h0, gw]
 obtain ⟨k, hk⟩ : ∃ k, R.length - i = k + 1 := ⟨R.length - i - 1, by exact J19 5 hlt⟩
 rw [hk, List.range'_succ, ga, if_pos (by simpa using hat)]
 rfl
theorem tz {b o : Int} : ∀ {row : jL} {h : Hd}, (hput h b o row).length ≤ h.length + row.length
 | [], h => by simp [hput]
 | p :: row, h => by
  rw [nZ]
  have := tz (b := b) (o := o) (row := row) (h := dset h (b + p.1) (p.2, o))
  have h2 := rJ (d := h) (k := b + p.1) (x := (p.2, o))
  simp only [dE]; exact J19 6 this h2
structure rQ (R : List jL) (w : Nat) : Prop where
 row : ∀ d ∈ R, d.length ≤ w
 all : R.length * w < 64
theorem rQ.held {R : List jL} {w : Nat} (x : rQ R w) : ∀ i ≤ (jo R).length, (kd R ((jo R).take i)).h.length ≤ i * w
 | 0, _ => by rw [ca]; simp [kd]
 | i + 1, hi => by
  rw [j9 (aG (by exact J1 17 hi)), lW]
  have hm := lF (bJ (l := jo R) (n := i) (by exact J1 17 hi))
  have h1 := x.row _ (jp (d := ([] : jL)) hm.2.1)
  have h2 := rQ.held x i (by exact J0 9 hi)
  have h3 := tz (b := place (kd R ((jo R).take i)).h (kd R ((jo R).take i)).m ((R.getD (jo R)[i].toNat []).map ai)) (o := (jo R)[i] + 1) (row := R.getD (jo R)[i].toNat []) (h := (kd R ((jo R).take i)).h)
  have h4 : (i + 1) * w = i * w + w := Nat.succ_mul _ _
  unfold kn
  simp only
  lia
theorem rQ.lt {R : List jL} {w : Nat} (x : rQ R w) {i : Nat} (hi : i ≤ (jo R).length) : (kd R ((jo R).take i)).h.length < 64 := by
 have h1 := x.held i hi
 have h2 := pC (R := R)
 have h3 : i * w ≤ R.length * w := Nat.mul_le_mul_right w (by exact J1 10 h2 hi)
 have := x.all
 exact J19 7 h3 h1 this
noncomputable def oJ (h : Hd) (m : Nat) : Prop := m = 0 ∨ ((m : Int) - 1) ∈ h.map ai
theorem tU {α : Type} {d : List (Int × α)} {k j : Int} {x : α} : j ∈ (dset d k x).map ai ↔ j = k ∨ j ∈ d.map ai := by
 rw [← rd, m3]
 by_cases e : j = k
 ·rw [if_pos e]; simp [e]
 ·rw [if_neg e, rd]; simp [e]
theorem pP {b o j : Int} : ∀ {row : jL} {h : Hd}, j ∈ (hput h b o row).map ai ↔ j ∈ h.map ai ∨ ∃ p ∈ row, j = b + p.1
 | [], h => by simp [hput]
 | p :: row, h => by
  rw [nZ, pP, tU]
  simp only [au, exists_eq_or_imp]
  constructor
  ·rintro ((h1 | h1) | h1)
   ·exact .inr (.inl h1)
   ·exact .inl h1
   ·exact .inr (.inr h1)
  ·rintro (h1 | h1 | h1)
   ·exact .inl (.inr h1)
   ·exact .inl (.inl h1)
   ·exact .inr h1
theorem oJ.step {R : List jL} {st : St} {num : Int} (hR : jZ R) (hn : num ∈ jo R) (t : oJ st.h st.m) : oJ (kn R st num).h (kn R st num).m := by
 obtain ⟨h0, h1, h2, _⟩ := lF hn
 have y := (hR.row _ (jp (d := ([] : jL)) h1)).cols h2
 have hge := qA (h := st.h) (m := st.m) (cols := (R.getD num.toNat []).map ai)
 have hl0 := y.head _ y.lastm
 have hlm := y.lastm
 unfold oJ kn
 simp only
 generalize hb : place st.h st.m ((R.getD num.toNat []).map ai) = b at *
 right
 rw [pP]
 by_cases hc : st.m ≤ (b + mQ ((R.getD num.toNat []).map ai) + 1).toNat
 ·right
  obtain ⟨p, hp, e⟩ := az.mp hlm
  exact ⟨p, hp, by lia⟩
 ·left
  rcases t with t | t
  ·lia
  ·rw [show max st.m (b + mQ ((R.getD num.toNat []).map ai) + 1).toNat = st.m by exact J19 8 hc]; exact t
theorem oJ.take {R : List jL} (hR : jZ R) : ∀ i ≤ (jo R).length, oJ (kd R ((jo R).take i)).h (kd R ((jo R).take i)).m
 | 0, _ => by rw [ca]; exact .inl rfl
 | i + 1, hi => by
  rw [j9 (aG (by exact J1 17 hi)), lW]
  exact (oJ.take hR i (by exact J0 9 hi)).step hR (bJ _)
theorem oJ.all {R : List jL} (hR : jZ R) : oJ (jt R).h (jt R).m := by
 have := oJ.take hR (jo R).length (aU _)
 rw [aZ] at this; exact this
theorem yp {L : List Int} {x : Int} (hm : x ∈ L) (hx : ∀ a ∈ L, a ≤ x) : om L = x := by
 have h := ua (ns := L) (fun q => by rw [q] at hm; cases hm)
 have h1 := hx _ h.1
 have h2 := h.2 _ hm
 exact J5 22 h2 h1
theorem yq {L : List Int} {x : Int} (hm : x ∈ L) (hx : ∀ a ∈ L, x ≤ a) : sS L = x := by
 have h := t9 (ns := L) (fun q => by rw [q] at hm; cases hm)
 have h1 := hx _ h.1
 have h2 := h.2 _ hm
 exact J19 9 h2 h1
theorem zv {h : Hd} {m : Nat} (x : lO h m) (t : oJ h m) {L : List Int} (hL : ∀ k, k ∈ L ↔ k ∈ h.map ai) : om (L ++ [-1]) + 1 = m := by
 have hh : ∀ k ∈ L, 0 ≤ k ∧ k < (m : Int) := fun k hk => by
  obtain ⟨p, hp, rfl⟩ := az.mp ((hL k).mp hk)
  exact ⟨x.low p hp, x.high p hp⟩
 rcases t with t | t
 ·have : L = [] := by
   cases L with
   | nil => rfl
   | cons k L => have := hh k (.head _); lia
  subst this; subst t; rfl
 ·rw [yp (x := (m : Int) - 1) (bu _ ((hL _).mpr t)) fun a ha => ?_]
  ·exact J19 10
  ·rcases aQ.mp ha with ha | ha
   ·have := hh a ha; exact J19 11 this
   ·simp at ha
    obtain ⟨p, hp, e⟩ := az.mp t
    have := x.low p hp
    exact J19 12 ha
noncomputable abbrev GN (R : List jL) : PV := .tup [.lst (jn (kk R)), .lst (jn (lP R)), .lst (jn (jQ R)), .lst (oY (km R))]
theorem pf {R : List jL} {k : Int} {po : PV} (w : Vw H po (jW R)) (h0 : 0 ≤ k) (h1 : k.toNat < R.length) (hs : k < 5000) (h : Q (jU (R.getD k.toNat [])) H) : oM W n H po (.int k) Q :=
 jx w h0 (by rw [ax, jK (d := ([] : jL)) h1]; rfl) (by exact J4 7 hs) h
theorem GO {L : List Nat} {k : Int} {po : PV} (w : Vw H po (.lst (oY L))) (h0 : 0 ≤ k) (h1 : k.toNat < L.length) (hs : L.length ≤ 5000) (h : Q (.int (L.getD k.toNat 0 : Nat)) H) : oM W n H po (.int k) Q :=
 jx w h0 (x9 (jK h1)) (by exact J7 19 hs h1) h
theorem lx (P : PW W) {R : List jL} {w : Nat} (hR : jZ R) (hw : rQ R w) (h : Q (GN R) H) : jX W (n + 1) H (.ref 617) [jW R] Q := by
 have hlen := hR.len
 have hRs : (R.map jU).length ≤ sizeLine := by rw [aa, am]; exact J0 5 hlen
 wtm_at "def"
 exists jl (lz (α := jL) (fun d => PV.int (R.idxOf d : Nat)) (by wtm_at "hcap") (jN ?_))
 refine ⟨_, rfl, _, R, jU, by wtm_at "crho", rfl, by rw [am]; exact J0 5 hlen, fun d hd => ⟨_, by kd_in, og (lh (α := Nat) (fun i => decide (R.getD i [] = d)) (fun i => PV.int (i : Nat)) (by wtm_at "hcap") (jM ?_))⟩, ?_⟩
 ·kd_p
  refine ⟨R.length, by rw [aa], by exact J0 22 hlen, _, av R.length, fun i => .int (i : Nat), by wtm_at "crho", rfl, by rw [aq, am]; exact J0 5 hlen, fun i hi => ⟨_, by kd_in, ?_⟩, ?_⟩
  ·have hi2 := aM.mp hi
   kd_p
   refine pf Vw.refl (by exact J0 0) (by exact J0 1 hi2) (by exact J1 14 hi2 hlen) ?_
   rw [ag]
   kd_p
   refine D1 Vw.refl Vw.refl ?_
   have e : D0 (R.getD i []) d = decide (R.getD i [] = d) := by
    have := Du (hR.row _ (jp (d := ([] : jL)) hi2)).srt (hR.row d hd).srt
    by_cases q : R.getD i [] = d
    ·rw [decide_eq_true q, this.mpr q]
    ·rw [decide_eq_false q]
     cases z : D0 (R.getD i []) d with
     | false => rfl
     | true => exact absurd (this.mp z) q
   rw [e]
   kd_p
   intro _
   kd_p
   exact rfl
  ·kd_p
   refine jx (x := .int (R.idxOf d : Nat)) Vw.refl (by decide) ?_ (by decide) ?_
   ·show (cT _ _)[0]? = _
    rw [ax, w9 hd]; rfl
   ·exact ⟨rfl, rfl⟩
 rw [show R.map (fun d => PV.int (R.idxOf d : Nat)) = oY (km R) by unfold km; simp]
 have hown : ∀ i, i < R.length → (km R).getD i 0 = R.idxOf (R.getD i []) := fun i hi => by
  unfold km; rw [aL, ax, jK (d := ([] : jL)) hi]; rfl
 have hol : (km R).length = R.length := jJ
 kd_p1
 exists jl (jB rfl (lg (lr P (by kd_mem) (jy (lh (α := Nat) (mO R) (fun i => kW (rc R i)) (by wtm_at "hcap") (jM ?_))))))
 refine ⟨R.length, by rw [aa], by exact J0 22 hlen, _, av R.length, fun i => .int (i : Nat), by wtm_at "crho", rfl, by rw [aq, am]; exact J0 5 hlen, fun i hi => ⟨_, by kd_in, ?_⟩, ?_⟩
 ·have hi2 := aM.mp hi
  have hrl := (hR.row _ (jp (d := ([] : jL)) hi2)).len
  have hrs := mc (d := R.getD i []) (by lia)
  kd_p
  refine GO Vw.refl (by exact J0 0) (by exact J0 2 hol hi2) (by exact J0 10 hol hlen) ?_
  rw [ag, hown i hi2]
  kd_p
  have hk : mO R i = (decide (R.idxOf (R.getD i []) = i) && decide (0 < (R.getD i []).length)) := rfl
  refine jA.dec (fun h1 => ?_) fun h1 => ?_
  ·rw [decide_eq_true (show R.idxOf (R.getD i []) = i by exact J1 20 h1), je] at hk
   kd_p
   refine pf Vw.refl (by exact J0 0) (by exact J0 1 hi2) (by exact J1 14 hi2 hlen) ?_
   rw [ag]
   kd_p
   refine jA.dec (fun h2 => ?_) fun h2 => ?_
   ·rw [decide_eq_true (by exact J4 4 h2)] at hk
    kd_p
    exists ⟨hk.symm, rfl, fun _ => ?_⟩
    refine pf Vw.refl (by exact J0 0) (by exact J0 1 hi2) (by exact J1 14 hi2 hlen) ?_
    rw [ag]
    kd_p
    rw [show (0 : Int) - ((R.getD i []).length : Nat) = -((R.getD i []).length : Nat) by exact J19 13]
    exact rfl
   ·rw [decide_eq_false (by exact J7 20 h2)] at hk
    kd_p
    exact ⟨hk.symm, rfl, fun q => by cases q⟩
  ·rw [decide_eq_false (show ¬ R.idxOf (R.getD i []) = i by exact J7 21 h1), dZ] at hk
   kd_p
   exact ⟨hk.symm, rfl, fun q => by cases q⟩
 kd_p
 have hkl := o4 (R := R)
 rw [show ((av R.length).filter (mO R)).map (fun i => kW (rc R i)) = (o0 R).map kW by unfold o0; rw [aW]; rfl]
 refine q9 Vw.refl (by exact J4 1 hkl hlen) fun a => ⟨a, _, _, rfl, rfl, ?_⟩
 kd_p1
 exists jl (k5 (xs := ["held", "places"]) rfl (by decide) (.inr rfl) ?_)
 intro ah
 kd_p
 intro al
 kd_p
 rw [aa]
 refine yW (.lst (.head _)) (by exact J0 0) (by exact J19 14 hlen) (by simp; exact J0 5 hlen) fun ap => ?_
 rw [show (bd ((R.length : Int)).toNat [PV.int 0]).flatten = jn (bd R.length 0) by rw [ag]; simp]
 kd_p
 refine ⟨_, _, rfl, .cons (by kd_in) (.cons (by kd_in) .nil), ?_⟩
 refine Bm (K := (ap, .lst (jn (bd R.length 0))) :: (ah, .dct []) :: H) (.l (.r .none)) ?_
 exists jl (m7 (tt := false) (fun h => nomatch h) (jN ?_))
 let I1 : IT jr := fun i Z => Z [cc "some" (jW R), lu "at", cc "firsts" (.lst (oY (km R))), lc "line" (.lst ((nz (o0 R)).map kW)), cc "held" (.ref ah), cc "places" (.ref ap), lu "size", cu "place", lu "column", lu "ends", lu "cells", lu "marks", gb "sorted", gb "range", gb "len", gb "min", gb "max"] ((ap, .lst (jn (kd R ((jo R).take i)).b)) :: (ah, .dct (Dk kW (kd R ((jo R).take i)).h)) :: H)
 refine ⟨_, rfl, uI.T I1 (fun Z zz => zz) ?_ ?_⟩
 ·rintro i x hx
  show Fo _ _ _ _ _ _ _
  rw [ax] at hx
  obtain ⟨⟨sz, num⟩, hk, rfl⟩ := bc.mp hx
  have hnum : (jo R)[i]? = some num := by unfold jo; rw [ax, hk]; rfl
  have hi := (aA.mp hnum).1
  have hmem := aS hnum
  obtain ⟨h0, h1, h2, _⟩ := lF hmem
  have hok := mI.take hR i (by exact J2 14 hi)
  have hrow := hR.row _ (jp (d := ([] : jL)) h1)
  have y := hrow.cols h2
  have hol2 := pC (R := R)
  have hm := hok.m
  have hbl := hok.len
  have hhl := hw.lt (i := i) (by exact J2 14 hi)
  have e : kd R ((jo R).take (i + 1)) = kn R (kd R ((jo R).take i)) num := by rw [j9 hnum, lW]
  have hge := qA (h := (kd R ((jo R).take i)).h) (m := (kd R ((jo R).take i)).m) (cols := (R.getD num.toNat []).map ai)
  generalize hst : kd R ((jo R).take i) = st at *
  have hgr : ∀ {Q : CV} {H : HH} {n : Nat}, Q (jU (R.getD num.toNat [])) H → oM W n H (jW R) (.int num) Q := fun hq => pf Vw.refl h0 h1 (by exact J19 15 hlen h1) hq
  unfold kn at e
  generalize R.getD num.toNat [] = row at *
  refine mU (xs := ["size", "at"]) (ps := [.int sz, .int num]) Vw.refl rfl (.cons (by kd_in) (.cons (by kd_in) .nil)) ?_
  exists jl (jB rfl (kP ?_))
  exists hgr ?_
  refine lB (f := PV.int) Vw.refl hrow.len fun as => ?_
  rw [rb y.srt]
  kd_p
  refine uL (ns := row.map ai) (.lst (.head _)) y.ne ?_
  rw [yq y.headm y.head]
  kd_p
  refine ⟨_, _, .one, ?_⟩
  kd_p1
  let I2 : IT jr := fun j Z => ∀ b : Int, b = -((row.map ai).headD 0) + st.m - j → j ≤ st.m → pJ st.h (row.map ai) j b = place st.h st.m (row.map ai) → Z [cc "some" (jW R), lc "at" (.int num), cc "firsts" (.lst (oY (km R))), lc "line" (.lst ((nz (o0 R)).map kW)), cc "held" (.ref ah), cc "places" (.ref ap), lc "size" (.int sz), cc "place" (.int b), lu "column", lu "ends", lu "cells", lu "marks", gb "sorted", gb "range", gb "len", gb "min", gb "max"] ((ap, .lst (jn st.b)) :: (ah, .dct (Dk kW st.h)) :: H)
  refine jl (lC I2 st.m (fun Z zz => zz (0 - (row.map ai).headD 0) (by exact J19 16) (aU _) (by rw [gp]; rfl)) ?_)
  rintro j b hb hj hf
  exists o9 (jS (lh (α := Int) (fun k => (jz st.h (b + k)).isSome) PV.int (by wtm_at "hcap") (wO (f := PV.int) ?_)))
  refine hgr ?_
  refine ⟨row, rfl, _, row.map ai, PV.int, by wtm_at "crho", by rw [aW]; rfl, by rw [aa, am]; have := hrow.len; exact J0 5 this, fun k hk => ⟨_, by kd_in, ?_⟩, ?_⟩
  ·kd_p
   exists Et (f := kW) (.dct (.tail _ (.head _))) ?_
   intro _
   kd_p
   exact rfl
  kd_p
  intro ae
  kd_p
  exists nB Vw.refl (.lst (.head _)) ?_
  refine ⟨_, _, .one, ?_⟩
  have hfil : (!(((row.map ai).filter fun k => (jz st.h (b + k)).isSome).map PV.int).isEmpty) = !(mP st.h (row.map ai) b) := by
   congr 1
   unfold mP
   generalize row.map ai = cols
   rw [List.isEmpty_map]
   cases q : cols.all fun c => hfree st.h (b + c) with
   | true =>
    rw [a8] at q
    rw [dG, cw]
    intro c hc z
    have := q c hc
    unfold hfree at this
    rw [cN] at this
    rw [this] at z; cases z
   | false =>
    rw [iu] at q
    obtain ⟨c, hc, z⟩ := q
    cases hx : (cols.filter fun k => (jz st.h (b + k)).isSome) with
    | nil =>
     rw [cw] at hx
     have := hx c hc
     unfold hfree at z
     cases w : jz st.h (b + c) with
     | none => rw [w] at z; exact absurd rfl z
     | some v => rw [w] at this; exact absurd rfl this
    | cons => rfl
  rw [hfil]
  cases hfit : mP st.h (row.map ai) b with
  | false =>
   exists jA.tt ?_
   cases j with
   | zero => rw [uY hok.ok fun c hc => by have := y.head c hc; exact J7 22 this hb] at hfit; cases hfit
   | succ j => exact jv.nx (by kd_all) ⟨j, fX _, fun Z zz => zz _ (by exact J7 23 hb) (by exact J0 9 hj) (by rw [← hf]; conv => rhs; unfold pJ; rw [if_neg (by rw [hfit]; simp)])⟩
  | true =>
   refine jA.ff ?_
   have hbp : b = place st.h st.m (row.map ai) := by
    rw [← hf]; cases j with
    | zero => rfl
    | succ j => unfold pJ; rw [if_pos hfit]
   have hin : ∀ p ∈ row, 0 ≤ b + p.1 := fun p hp => by
    have h1 := y.head p.1 (aO (f := ai) hp)
    exact J19 17 h1 hge hbp
   rw [← hbp] at e
   exists jl (m7 (tt := false) (fun h => nomatch h) (wO (f := PV.int) ?_))
   refine hgr ?_
   let I3 : IT jr := fun j Z => Z [cc "some" (jW R), lc "at" (.int num), cc "firsts" (.lst (oY (km R))), lc "line" (.lst ((nz (o0 R)).map kW)), cc "held" (.ref ah), cc "places" (.ref ap), lc "size" (.int sz), cc "place" (.int b), lu "column", lu "ends", lu "cells", lu "marks", gb "sorted", gb "range", gb "len", gb "min", gb "max"] ((ap, .lst (jn st.b)) :: (ah, .dct (Dk kW (hput st.h b (num + 1) (row.take j)))) :: H)
   refine ⟨row, rfl, uI.T I3 (fun Z zz => zz) ?_ ?_⟩
   ·rintro j x hx
    rw [ax] at hx
    obtain ⟨p, hp, rfl⟩ := bc.mp hx
    have hpm := aS hp
    have hjl := (aA.mp hp).1
    exists m6 (by kd_in) ?_
    exists hgr ?_
    exists mv (f := PV.int) Vw.refl (hrow.srt.get hpm) ?_
    exists kI (f := kW) (x := (p.2, num + 1)) rfl (by wtm_at "updh") (by
     rw [am]
     have := tz (b := b) (o := num + 1) (row := row.take j) (h := st.h)
     have h2 : (row.take j).length ≤ row.length := (eb j row).length_le
     have := hrow.len
     exact J19 18 h2 ‹_› this hhl) ?_
    rw [← uj, ← j9 hp]
    exact jv.nx (by kd_all) (fun Z zz => zz)
   ·show lj _ _ _ _ _ _
    rw [aa, aZ]
    kd_p
    refine mu (by wtm_at "updh") h0 (by exact J4 11 hlen h1) (by rw [aa, hbl]; exact J3 17 h1) ?_
    kd_p
    rw [qz]
    refine jv.nx (by kd_all) (Of.eqH ?_ (fun Z zz => zz))
    rw [e]
 ·show lj _ _ _ _ _ _
  rw [aa, (ki _).length_eq]
  rw [show (jo R).take (o0 R).length = jo R from br (by unfold jo; rw [aa, (ki _).length_eq]; exact aU _)]
  have hok := mI.all hR
  have htight := oJ.all hR
  have hh := hw.lt (i := (jo R).length) (aU _)
  rw [aZ] at hh
  change mI R (kd R (jo R)) R.length at hok
  have hm := hok.m
  have hbl := hok.len
  exists jl (jB rfl (kP (uS P (by kd_mem) ?_)))
  exists lB (f := kW) (.dct (.tail _ (.head _))) hh fun as => ?_
  intro a1
  kd_p
  refine uN (.lst (.tail _ (.head _))) (.lst (.head _)) (by rw [aa, (qs _).length_eq, aa, am]; simp; exact J19 19 hh) fun a2 => ?_
  kd_p
  refine sf (ns := srt ((kd R (jo R)).h.map ai) ++ [-1]) (.lst (by rw [aJ]; exact .head _)) (by simp) ?_
  kd_p
  rw [zv hok.ok htight (fun k => (qs _).mem_iff)]
  refine ⟨_, _, .three, ?_⟩
  kd_p1
  change mI R (jt R) R.length at hok
  change (jt R).m ≤ 64 * R.length at hm
  change (jt R).b.length = R.length at hbl
  change lj W n _ ((ap, .lst (jn (jt R).b)) :: (ah, .dct (Dk kW (jt R).h)) :: H) _ _
  have hgetv : ∀ c : Nat, ((jz (jt R).h (c : Int)).map kW).getD (.tup [.int 0, .int 0]) = kW ((jz (jt R).h (c : Int)).getD (0, 0)) := fun c => by
   cases jz (jt R).h (c : Int) <;> rfl
  exists jl (lz (α := Nat) (fun c => PV.int ((jz (jt R).h (c : Int)).getD (0, 0)).1) (by wtm_at "hcap") (jM ?_))
  refine ⟨(jt R).m, rfl, by exact J8 0 hm hlen, _, av (jt R).m, fun c => .int (c : Nat), by wtm_at "crho", rfl, by rw [aq, am]; exact J8 1 hm hlen, fun c hc => ⟨_, by kd_in, og (x_get ?_)⟩, ?_⟩
  ·kd_p
   exists oz (f := kW) (.dct (.tail _ (.head _))) (hgetv c) ?_
   refine kH (x := .int ((jz (jt R).h (c : Int)).getD (0, 0)).1) Vw.refl (by decide) rfl (by decide) ?_
   exact ⟨rfl, rfl⟩
  rw [show (av (jt R).m).map (fun c => PV.int ((jz (jt R).h ((c : Nat) : Int)).getD (0, 0)).1) = jn (lP R) by unfold lP pI; simp]
  kd_p1
  exists jl (lz (α := Nat) (fun c => PV.int ((jz (jt R).h (c : Int)).getD (0, 0)).2) (by wtm_at "hcap") (jM ?_))
  refine ⟨(jt R).m, rfl, by exact J8 0 hm hlen, _, av (jt R).m, fun c => .int (c : Nat), by wtm_at "crho", rfl, by rw [aq, am]; exact J8 1 hm hlen, fun c hc => ⟨_, by kd_in, og (x_get ?_)⟩, ?_⟩
  ·kd_p
   exists oz (f := kW) (.dct (.tail _ (.head _))) (hgetv c) ?_
   refine kH (x := .int ((jz (jt R).h (c : Int)).getD (0, 0)).2) Vw.refl (by decide) rfl (by decide) ?_
   exact ⟨rfl, rfl⟩
  rw [show (av (jt R).m).map (fun c => PV.int ((jz (jt R).h ((c : Nat) : Int)).getD (0, 0)).2) = jn (jQ R) by unfold jQ o5; simp]
  kd_p1
  exists jl (jP (kP (sx rfl (jy (kq (α := Nat) (fun o => PV.int ((jt R).b.getD o 0)) (by wtm_at "hcap") (jN ?_))))))
  refine ⟨_, rfl, _, km R, fun o => .int (o : Nat), by wtm_at "crho", rfl, by rw [hol, am]; exact J0 5 hlen, fun o ho => ⟨_, by kd_in, ?_⟩, ?_⟩
  ·have := wR ho
   kd_p
   refine j7 (.lst (.head _)) (by exact J0 0) (by exact J0 2 hbl this) (by exact J0 10 hbl hlen) ?_
   exact ⟨rfl, rfl⟩
  rw [show (km R).map (fun o => PV.int ((jt R).b.getD o 0)) = jn (kk R) by unfold kk; simp]
  kd_p
  exact ⟨_, _, .two, h⟩
theorem oD {b o c : Int} : ∀ {row : jL} {h : Hd}, (∀ p ∈ row, c ≠ b + p.1) → jz (hput h b o row) c = jz h c
 | [], h, _ => rfl
 | p :: row, h, hc => by
  rw [nZ, oD fun q hq => hc q (.tail _ hq), m3, if_neg (hc p (.head _))]
theorem tA {b o : Int} : ∀ {row : jL} {h : Hd}, qO row → ∀ p ∈ row, jz (hput h b o row) (b + p.1) = some (p.2, o)
 | [], h, _, p, hp => by cases hp
 | q :: row, h, hs, p, hp => by
  rw [nZ]
  unfold qO at hs
  rw [aC, cj] at hs
  rcases au.mp hp with rfl | hp
  ·rw [oD fun r hr => by have := hs.1 r.1 (aO (f := ai) hr); exact J19 20 this, m3, if_pos rfl]
  ·exact tA hs.2 p hp
theorem wf {R : List jL} : (jo R).Nodup := by
 unfold jo
 have hp : ((nz (o0 R)).map bB).Perm ((o0 R).map bB) := (ki _).map _
 rw [hp.nodup_iff]
 unfold o0
 rw [aW]
 unfold gh
 rw [bU]
 refine List.Pairwise.imp ?_ ((List.nodup_range (n := R.length)).filter (mO R))
 intro a b hab e
 unfold rc at e
 simp only [cI] at e
 exact hab (by exact J1 20 e)
theorem zw {R : List jL} {i : Nat} (hi : i < R.length) (h : R.getD i [] ≠ []) (h2 : R.idxOf (R.getD i []) = i) : (i : Int) ∈ jo R := by
 unfold jo
 refine az.mpr ⟨rc R i, (ki _).mem_iff.mpr ?_, rfl⟩
 unfold o0
 refine az.mpr ⟨i, bz.mpr ⟨aM.mpr hi, ?_⟩, rfl⟩
 unfold mO
 rw [decide_eq_true h2, decide_eq_true (bI.mpr h)]; rfl
structure ph (R : List jL) (L : List Int) (st : St) : Prop where
 a : ∀ o ∈ L, ∀ p ∈ R.getD o.toNat [], jz st.h (st.b.getD o.toNat 0 + p.1) = some (p.2, o + 1)
 b : ∀ c v k, jz st.h c = some (v, k) → ∃ o ∈ L, k = o + 1 ∧ ∃ p ∈ R.getD o.toNat [], c = st.b.getD o.toNat 0 + p.1 ∧ v = p.2
theorem ph.step {R : List jL} {L : List Int} {st : St} {num : Int} {i : Nat} (hR : jZ R) (ih : ph R L st) (hok : mI R st i) (hnd : num ∉ L) (hlow : ∀ o ∈ L, 0 ≤ o ∧ o.toNat < R.length) (hnm : num ∈ jo R) : ph R (L ++ [num]) (kn R st num) := by
 obtain ⟨h0, h1, h2, _⟩ := lF hnm
 have hrow := hR.row _ (jp (d := ([] : jL)) h1)
 have y := hrow.cols h2
 have hfit := wQ hok.ok y
 have hbl := hok.len
 unfold kn
 generalize hb : place st.h st.m ((R.getD num.toNat []).map ai) = b at *
 have hfree : ∀ p ∈ R.getD num.toNat [], jz st.h (b + p.1) = none := fun p hp => by
  unfold mP at hfit
  rw [a8] at hfit
  have := hfit p.1 (aO (f := ai) hp)
  unfold Mine.Internal.hfree at this
  exact cN.mp this
 have hbo : ∀ o ∈ L, (st.b.set num.toNat b).getD o.toNat 0 = st.b.getD o.toNat 0 := fun o ho => by
  have hne : num.toNat ≠ o.toNat := fun q => by
   have := (hlow o ho).1
   have : num = o := by exact J19 21 this h0 q
   exact hnd (this ▸ ho)
  rw [aL, dB hne, ← aL]
 have hbn : (st.b.set num.toNat b).getD num.toNat 0 = b := by
  rw [aL, dg (by exact J19 22 hbl h1)]; rfl
 refine ⟨fun o ho p hp => ?_, fun c v k hc => ?_⟩
 ·simp only at hp ⊢
  rcases aQ.mp ho with ho | ho
  ·rw [hbo o ho]
   have := ih.a o ho p hp
   rw [oD fun q hq e => by rw [e, hfree q hq] at this; cases this]
   exact this
  ·simp at ho; subst ho
   rw [hbn]
   exact tA hrow.srt p hp
 ·simp only at hc
  by_cases q : ∃ p ∈ R.getD num.toNat [], c = b + p.1
  ·obtain ⟨p, hp, rfl⟩ := q
   rw [tA hrow.srt p hp] at hc
   cases hc
   exact ⟨num, by simp, rfl, p, hp, by rw [hbn], rfl⟩
  ·rw [oD fun p hp e => q ⟨p, hp, e⟩] at hc
   obtain ⟨o, ho, e1, p, hp, e2, e3⟩ := ih.b c v k hc
   exact ⟨o, bu _ ho, e1, p, hp, by rw [hbo o ho]; exact e2, e3⟩
theorem ph.take {R : List jL} (hR : jZ R) (i : Nat) : i ≤ (jo R).length → ph R ((jo R).take i) (kd R ((jo R).take i)) := by
 induction i with
 | zero => exact fun _ => by rw [ca]; exact ⟨by simp, fun c v k h => by simp [kd, jz] at h⟩
 | succ i ih =>
  intro hi
  have hat := aG (l := jo R) (i := i) (by exact J1 17 hi)
  rw [j9 hat, lW]
  refine ph.step hR (ih (by exact J0 9 hi)) (mI.take hR i (by exact J0 9 hi)) (fun q => ?_) (fun o ho => by have := lF (dC ho); exact ⟨this.1, this.2.1⟩) (bJ _)
  have h1 := wf (R := R)
  rw [show jo R = (jo R).take i ++ (jo R)[i] :: (jo R).drop (i + 1) by rw [bY, bS]] at h1
  exact (du.mp h1).2.2 _ q _ (.head _) rfl
theorem ph.all {R : List jL} (hR : jZ R) : ph R (jo R) (jt R) := by
 have := ph.take hR (jo R).length (aU _)
 rw [aZ] at this; exact this
theorem xa {R : List jL} {i : Nat} (hi : i < R.length) : (km R).getD i 0 = R.idxOf (R.getD i []) := by
 unfold km; rw [aL, ax, jK (d := ([] : jL)) hi]; rfl
theorem BY {R : List jL} {i : Nat} (hi : i < R.length) : (oI (km R)).getD i 0 = (R.idxOf (R.getD i []) : Nat) := by
 rw [aL, ax, jK (d := 0) (by rw [jJ]; exact hi), xa hi]; rfl
theorem wg {R : List jL} {i : Nat} (hi : i < R.length) : (kk R).getD i 0 = (jt R).b.getD (R.idxOf (R.getD i [])) 0 := by
 unfold kk; rw [aL, ax, jK (d := 0) (by rw [jJ]; exact hi), xa hi]; rfl
theorem BZ {R : List jL} {d : jL} (h : d ∈ R) : R.getD (R.idxOf d) [] = d := by
 have := bW h
 rw [aL, aG this]; exact ia this
theorem yr {h : Hd} {m : Nat} {c : Nat} (hc : c < m) : (o5 h m).getD c 0 = ((jz h (c : Int)).getD (0, 0)).2 := by
 rw [aL, th hc]; rfl
theorem yt {h : Hd} {m : Nat} {c : Nat} (hc : c < m) : (pI h m).getD c 0 = ((jz h (c : Int)).getD (0, 0)).1 := by
 rw [aL, uX hc]; rfl
theorem wh {R : List jL} (hR : jZ R) {d : jL} (hd : d ∈ R) {c v : Int} : jz (jt R).h c = some (v, ((R.idxOf d : Nat) : Int) + 1) ↔ (c - (jt R).b.getD (R.idxOf d) 0, v) ∈ d := by
 have inv := ph.all hR
 have hid := BZ hd
 have hlt := bW hd
 constructor
 ·intro h
  obtain ⟨o, ho, e1, p, hp, e2, e3⟩ := inv.b _ _ _ h
  have : o = ((R.idxOf d : Nat) : Int) := by exact J19 23 e1
  subst this
  rw [ag, hid] at hp
  rw [ag] at e2
  rw [show c - (jt R).b.getD (R.idxOf d) 0 = p.1 by exact J20 0 e2, e3]; exact hp
 ·intro h
  have ho : ((R.idxOf d : Nat) : Int) ∈ jo R := zw hlt (by rw [hid]; exact List.ne_nil_of_mem h) (by rw [hid])
  have := inv.a _ ho (c - (jt R).b.getD (R.idxOf d) 0, v) (by rw [ag, hid]; exact h)
  rw [ag] at this
  rw [show (jt R).b.getD (R.idxOf d) 0 + (c - (jt R).b.getD (R.idxOf d) 0, v).1 = c by simp only; exact J20 1] at this
  exact this
theorem sm {R : List jL} (hR : jZ R) {i : Nat} (hi : i < R.length) {col : Int} : lG ((kk R).getD i 0) (lP R) (jQ R) ((oI (km R)).getD i 0) col = jz (R.getD i []) col := by
 have hm := jp (d := ([] : jL)) hi
 have hs := (hR.row _ hm).srt
 have hok := (mI.all hR).ok
 rw [wg hi, BY hi]
 have key : ∀ v, jz (jt R).h ((jt R).b.getD (R.idxOf (R.getD i [])) 0 + col) = some (v, ((R.idxOf (R.getD i []) : Nat) : Int) + 1) ↔ jz (R.getD i []) col = some v := fun v => by
  rw [wh hR hm, show (jt R).b.getD (R.idxOf (R.getD i [])) 0 + col - (jt R).b.getD (R.idxOf (R.getD i [])) 0 = col by exact J20 2]
  exact ⟨fun h => hs.get h, fun h => ls h⟩
 have ho0 : 0 ≤ ((R.idxOf (R.getD i []) : Nat) : Int) := fg _
 generalize (jt R).b.getD (R.idxOf (R.getD i [])) 0 = b at *
 generalize ((R.idxOf (R.getD i []) : Nat) : Int) = o at *
 have hnone : (∀ v, jz (jt R).h (b + col) ≠ some (v, o + 1)) → jz (R.getD i []) col = none := fun h => by
  cases e : jz (R.getD i []) col with
  | none => rfl
  | some v => exact absurd ((key v).mpr e) (h v)
 unfold lG
 by_cases h1 : b + col < 0
 ·rw [if_pos h1, hnone fun v q => by rw [hok.get0 (.inl h1)] at q; cases q]
 rw [if_neg h1]
 have hbc : (((b + col).toNat : Nat) : Int) = b + col := bP (by exact J3 2 h1)
 by_cases h2 : (b + col).toNat < (jt R).m
 ·have hC : (jQ R)[(b + col).toNat]? = some ((jz (jt R).h (b + col)).getD (0, 0)).2 := by unfold jQ; rw [th h2, hbc]
  have hT : (lP R)[(b + col).toNat]? = some ((jz (jt R).h (b + col)).getD (0, 0)).1 := by unfold lP; rw [uX h2, hbc]
  rw [hC, hT]
  simp only
  cases e : jz (jt R).h (b + col) with
  | none =>
   rw [hnone fun v q => by rw [e] at q; cases q]
   simp only [iI]
   rw [if_neg (by exact J8 2 ho0)]
  | some x =>
   obtain ⟨v, k⟩ := x
   simp only [cK]
   by_cases h3 : k = o + 1
   ·rw [if_pos h3]
    subst h3
    exact ((key v).mp e).symm
   ·rw [if_neg h3, hnone fun v' q => by rw [e] at q; cases q; exact h3 rfl]
 ·have hC : (jQ R)[(b + col).toNat]? = none := a9 (by unfold jQ; rw [ku]; exact J8 3 h2)
  rw [hC, hnone fun v q => by rw [hok.get0 (.inr (by exact J20 3 h2 hbc))] at q; cases q]
theorem yu {d e : jL} (hd : qO d) (he : qO e) (h : ∀ x, x ∈ d ↔ x ∈ e) : d = e := by
 have hp : d.Perm e := (List.perm_ext_iff_of_nodup (nQ hd.nodup) (nQ he.nodup)).mpr h
 unfold qO at hd he
 rw [bU] at hd he
 refine vI (R := fun a b => a.1 < b.1 ∨ a = b) (fun a b q1 q2 => ?_) hp (hd.imp fun q => .inl q) (he.imp fun q => .inl q)
 rcases q1 with q1 | q1
 ·rcases q2 with q2 | q2
  ·lia
  ·exact q2.symm
 ·exact q1
theorem u8 {R : List jL} (hR : jZ R) : lV (kk R) (lP R) (jQ R) (oI (km R)) = R := by
 apply dy
 intro i
 by_cases hi : i < R.length
 ·have hm := jp (d := ([] : jL)) hi
  have hs := (hR.row _ hm).srt
  have hok := (mI.all hR).ok
  have hlt := bW hm
  have hid := BZ hm
  have hlen : (jQ R).length = (jt R).m := by unfold jQ; exact ku
  rw [jK (d := ([] : jL)) hi]
  unfold lV
  rw [ax, jK (L := oI (km R)) (d := 0) (by rw [aa, jJ]; exact hi), BY hi, gu]
  congr 1
  refine yu mJ hs fun x => ?_
  have hb : (kk R).getD (((R.idxOf (R.getD i []) : Nat) : Int)).toNat 0 = (jt R).b.getD (R.idxOf (R.getD i [])) 0 := by
   rw [ag, wg hlt, hid]
  unfold jw
  rw [fq, hb, hlen]
  have hh := fun c v => wh hR hm (c := c) (v := v)
  have ho0 : 0 ≤ ((R.idxOf (R.getD i []) : Nat) : Int) := fg _
  generalize (jt R).b.getD (R.idxOf (R.getD i [])) 0 = b at *
  generalize ((R.idxOf (R.getD i []) : Nat) : Int) = o at *
  constructor
  ·rintro ⟨c, hc, e⟩
   have hc := aM.mp hc
   unfold jQ lP at e
   rw [yr hc, yt hc] at e
   cases q : jz (jt R).h (c : Int) with
   | none =>
    rw [q] at e
    simp only [iI] at e
    rw [if_neg (by exact J8 2 ho0)] at e; cases e
   | some y =>
    obtain ⟨v, k⟩ := y
    rw [q] at e
    simp only [cK] at e
    by_cases z : k = o + 1
    ·rw [if_pos z] at e
     cases e
     subst z
     exact (hh _ _).mp q
    ·rw [if_neg z] at e; cases e
  ·intro hx
   have := (hh (x.1 + b) x.2).mpr (by rw [show x.1 + b - b = x.1 by exact J8 4]; exact hx)
   have hl := hok.low _ (ls this)
   have hg := hok.high _ (ls this)
   simp only at hl hg
   refine ⟨(x.1 + b).toNat, aM.mpr (by exact J4 12 hl hg), ?_⟩
   unfold jQ lP
   rw [yr (by exact J4 12 hl hg), yt (by exact J4 12 hl hg), bP hl, this]
   simp only [cK, if_pos]
   rw [show x.1 + b - b = x.1 by exact J8 4]
 ·rw [a9 (by unfold lV; rw [aa, aa, jJ]; exact J1 0 hi), a9 (by exact J1 0 hi)]
theorem zx {R : List jL} (hR : jZ R) : ∀ k ∈ jQ R, 0 ≤ k ∧ k ≤ R.length := fun k hk => by
 unfold jQ o5 at hk
 obtain ⟨c, hc, rfl⟩ := az.mp hk
 cases e : jz (jt R).h (c : Int) with
 | none => simp
 | some y =>
  obtain ⟨v, k⟩ := y
  obtain ⟨o, ho, rfl, _⟩ := (ph.all hR).b _ _ _ e
  have := lF ho
  simp only [cK]; lia
theorem B1 {R : List jL} (hR : jZ R) : yd (kk R) (lP R) (jQ R) (oI (km R)) := by
 have h1 := (mI.all hR).m
 have h2 := hR.len
 refine ⟨by rw [nM, aa, jJ], by unfold lP jQ; rw [kL, ku], fun o ho => ?_, fun k hk => ?_, by rw [aa, jJ]; exact h2, by unfold jQ; rw [ku]; exact J6 21 h1 h2⟩
 ·obtain ⟨x, hx, rfl⟩ := az.mp ho
  have := wR hx
  rw [aa, jJ]; exact J20 4 this
 ·have := zx hR k hk
  rw [aa, jJ]; exact this
theorem pQ {k : Nat} {i : Int} : oO k (.int i) := by cases k <;> exact trivial
theorem Ei {k : Nat} {i : Str} : oO k (.str i) := by cases k <;> exact trivial
theorem B2 {k : Nat} : oO k .none := by cases k <;> exact trivial
theorem B3 {k : Nat} {o : Option Int} : oO k (vV o) := by cases o <;> first | exact B2 | exact pQ
theorem yw {k : Nat} {xs : List PV} (h : ∀ x ∈ xs, oO k x) : oO (k + 1) (.lst xs) := h
theorem sn {k : Nat} {xs : List PV} (h : ∀ x ∈ xs, oO k x) : oO (k + 1) (.tup xs) := h
theorem kX {α : Type} {k : Nat} {L : List α} {f : α → PV} (h : ∀ x, oO k (f x)) : oO (k + 1) (.lst (L.map f)) := yw fun x hx => by obtain ⟨y, _, rfl⟩ := az.mp hx; exact h y
theorem u9 {k : Nat} {L : List Int} : oO (k + 1) (.lst (jn L)) := kX fun _ => pQ
theorem yx {k : Nat} {L : List Nat} : oO (k + 1) (.lst (oY L)) := kX fun _ => pQ
theorem wi {k : Nat} {L : List Int} : oO (k + 1) (.tup (jn L)) := sn fun x hx => by obtain ⟨y, _, rfl⟩ := az.mp hx; exact pQ
theorem qK {k : Nat} {d : jL} : oO (k + 1) (jU d) := ⟨d.map fun p => (p.1, PV.int p.2), by simp [Dk], fun p hp => by obtain ⟨y, _, rfl⟩ := az.mp hp; exact pQ⟩
theorem pj {k : Nat} {x : PV} {xs : List PV} (h : oO k x) (h' : ∀ y ∈ xs, oO k y) : ∀ y ∈ x :: xs, oO k y := fun y hy => by
 rcases au.mp hy with rfl | hy
 ·exact h
 ·exact h' y hy
theorem ve {k : Nat} : ∀ y ∈ ([] : List PV), oO k y := fun y hy => by cases hy
inductive GP (W : Wd) (n : Nat) (r : jr) (x : Str) (body : List Stmt) (Q : jH) (p : PV) (H1 : HH) : Prop
 | mk (lo hi : Int) (e : p = .rng lo hi) (b : -(2 ^ 62) ≤ lo ∧ lo < 2 ^ 62 ∧ -(2 ^ 62) ≤ hi ∧ hi < 2 ^ 62) (I : (CR) → Prop) (i0 : Of I r H1)
   (step : ∀ k, lo ≤ k → k < hi → I (CG W n x (.int k) body (jv W (Of I) Q))) (fin : I (Q .next))
theorem Dv {x px iter body pos} {Q : jH} (h : Ev W n r H iter (GP W n r x body Q))
  (hs : autoParam (∀ env x, foldedSetIterable iter env x = pure x) aI) : Ex W n r H (.For (.Name x px) iter body [] pos) Q :=
 m7 (tt := false) (fun h => nomatch h) (ta (h.mono fun p H1 h => by
  obtain ⟨lo, hi, e, hb, I, h0, step, done⟩ := h
  exact ⟨lo, hi, e, hb, fun _ => Of I, h0, fun i x' r' H' hx hI => by
  rw [ax] at hx
  obtain ⟨y, hy, rfl⟩ := bc.mp hx
  have hi' := (aA.mp hy).1
  rw [k6] at hi'
  rw [sL hi'] at hy
  cases hy
  obtain ⟨r2, U, E⟩ := hI _ (step (lo + (i : Int)) (by exact J20 5) (by exact J20 6 hi'))
  exact m6 U E, fun r' H' hI => hI _ done⟩)) hs
theorem vf {L : List Int} : (L.filter fun k => decide (k = 0)).length = L.count 0 := by
 rw [List.count_eq_length_filter]
 congr 1
theorem wj (P : PW W) {R : List jL} (hne : 0 < R.length) (hl : R.length ≤ 5) (hB : ∀ d ∈ R, nP d 6) (h : Q (.bool true) H) : jX W (n + 9) H (.ref 624) [jW R] Q := by
 have hR : jZ R := ⟨fun d hd => (hB d hd).ok (by decide), by exact J2 3 hl⟩
 have hS : rQ R 6 := ⟨fun d hd => (hB d hd).len, by exact J20 7 hl⟩
 have hA := B1 hR
 have hRs : (R.map jU).length ≤ sizeLine := by rw [aa, am]; exact J4 13 hl
 have hm := (mI.all hR).m
 have hml : (jQ R).length = (jt R).m := by unfold jQ; exact ku
 have htl : (lP R).length = (jt R).m := by unfold lP; exact kL
 wtm_at "def"
 exists jl (oh rfl rfl (nv P (by kd_mem) ?_))
 refine lx P hR hS (mU (xs := ["places", "cells", "marks", "firsts"]) (ps := [.lst (jn (kk R)), .lst (jn (lP R)), .lst (jn (jQ R)), .lst (oY (km R))]) Vw.refl rfl (.cons (by kd_in) (.cons (by kd_in) (.cons (by kd_in) (.cons (by kd_in) .nil)))) ?_)
 kd_p1
 kd_p1
 exists nv P (by kd_mem) ?_
 exists rI P hR ?_
 exists jR 2 (by decide) .refl .refl (by wtm_at "dat") (fun es => by simp) ?_
 exists o8 P (fun d hd => (hR.row d hd).srt) (fun d hd => (hR.row d hd).len) hR.len ?_
 exists jR 1 (by decide) .refl .refl (by wtm_at "dat") (fun es => by simp) ?_
 have hbl : (kk R).length = R.length := nM
 have hol : (km R).length = R.length := jJ
 exists jG ?_
 let I1 : IT jr := fun i Z => Z [lc "some" (jW R), lc "places" (.lst (jn (kk R))), lc "cells" (.lst (jn (lP R))), lc "marks" (.lst (jn (jQ R))), lc "firsts" (.lst (oY (km R))), lc "heard" (yh R), lu "at", lu "column", lu "held", lu "back", gb "_law_first_fit", gb "pack_rows", gb "owners_of", gb "range", gb "len", gb "look_up", gb "packed_rows"] H
 refine ⟨R.length, by rw [aa], by exact J2 4 hl, I1, fun Z zz => zz, ?_, ?_⟩
 ·rintro i hi
  refine ⟨_, by kd_in, ?_⟩
  exists jl (Dv ?_)
  let I2 : (CR) → Prop := fun Z => Z [lc "some" (jW R), lc "places" (.lst (jn (kk R))), lc "cells" (.lst (jn (lP R))), lc "marks" (.lst (jn (jQ R))), lc "firsts" (.lst (oY (km R))), lc "heard" (yh R), lc "at" (.int (i : Nat)), lu "column", lu "held", lu "back", gb "_law_first_fit", gb "pack_rows", gb "owners_of", gb "range", gb "len", gb "look_up", gb "packed_rows"] H
  refine ⟨-3, 10, rfl, by decide, I2, fun Z zz => zz, ?_, ?_⟩
  ·rintro k hk0 hk1
   refine ⟨_, by kd_in, ?_⟩
   exists jl (kG (jS (nv P (by kd_mem) ?_)))
   exists kH (x := .lst (jn (kk R))) Vw.refl (by decide) rfl (by decide) ?_
   exists kH (x := .lst (jn (lP R))) Vw.refl (by decide) rfl (by decide) ?_
   exists kH (x := .lst (jn (jQ R))) Vw.refl (by decide) rfl (by decide) ?_
   refine GO Vw.refl (by exact J0 0) (by exact J0 2 hol hi) (by exact J3 3 hl hol) ?_
   rw [ag]
   kd_p
   refine re P (by exact J0 4 hbl hi) (by exact J3 3 hl hbl) (by exact J20 8 htl hml) (by exact J3 4 hl hm htl) ?_
   have hlk := sm hR hi (col := k)
   rw [BY hi] at hlk
   rw [xa hi, hlk]
   exists x_get ?_
   refine pf Vw.refl (by exact J0 0) (by exact J0 1 hi) (by exact J20 9 hl hi) ?_
   rw [ag]
   kd_p
   refine ul (f := PV.int) (v := vV (jz (R.getD i []) k)) Vw.refl (by cases jz (R.getD i []) k <;> rfl) ?_
   refine jR 0 (by decide) .refl .refl B3 (fun es => by cases jz (R.getD i []) k <;> simp [vV]) ?_
   kd_p
   exact jv.nx (by kd_all) (fun Z zz => zz)
  ·show lj _ _ _ _ _ _
   kd_p
   exact jv.nx (by kd_all) (fun Z zz => zz)
 show lj _ _ _ _ _ _
 kd_p1
 kd_p1
 exists nv P (by kd_mem) ?_
 exists kx P hR ?_
 exists Fe P (by exact J3 4 hl hm hml) ?_
 refine ou P (by exact J3 4 hl hm htl) ?_
 have hst := pK (L := lP R) (by exact J3 4 hl hm htl)
 kd_p
 exists ub Vw.refl ?_
 rw [aa, vf]
 exists jR 1 (by decide) .refl .refl (by wtm_at "dat") (fun es => by simp) ?_
 refine tj P hA fun D bs hbs => ?_
 rw [u8 hR]
 rw [aa, hol] at hbs
 kd_p
 refine jR (t := jW R) 1 (by decide) (.lst (.head _) (wU hbs fun p hp => .tail _ (bu _ hp))) .refl (kX fun _ => qK) (fun es => by simp) ?_
 wtm_at "w1"
 wtm_at "mo"
 obtain ⟨d0, R', rfl⟩ : ∃ d0 R', R = d0 :: R' := by
  cases R with
  | nil => simp at hne
  | cons d0 R' => exact ⟨d0, R', rfl⟩
 obtain ⟨b0, bs', rfl⟩ : ∃ b0 bs', bs = b0 :: bs' := by
  cases bs with
  | nil => simp at hbs
  | cons b0 bs' => exact ⟨b0, bs', rfl⟩
 refine jx (x := .ref b0) (.lst (.head _)) (by decide) rfl (by decide) ?_
 wtm_at "mo"
 refine kI (f := PV.int) (x := 1) (d := d0) (H' := (D, .lst ((b0 :: bs').map .ref)) :: (b0, .dct (Dk .int (dset d0 77 1))) :: (slots bs' (dS R') ++ H)) rfl (.tail .head) (mc (by have := (hB d0 (.head _)).len; exact J7 18 this)) ?_
 have hl2 : ((b0 :: bs').map PV.ref).length ≤ sizeLine := by rw [aa, am]; exact J20 10 hl hbs
 exists jl (jP (kP (uU (m5 (xN ?_)))))
 exists ⟨_, 1, .lst (.head _), rfl, hl2, fun a1 => xN ?_⟩
 refine ⟨_, 1, Vw.refl, rfl, hRs, fun a2 => ?_⟩
 refine qo (t := jW R') 1 (by decide) (.lst (.tail _ (.head _)) (wU (by simpa using hbs) fun p hp => .tail _ (.tail _ (.tail _ (.tail _ (bu _ hp)))))) (.lst (.head _) .refl) (kX fun _ => qK) ?_
 exists ⟨_, rfl, jA.tt ?_⟩
 refine ox P hA ?_
 rw [u8 hR]
 kd_p
 refine qo (t := jW (d0 :: R')) 1 (by decide) .refl .refl (kX fun _ => qK) ?_
 exact ⟨H, _, .r (.r (.r (.r jI.slots))), h⟩
noncomputable abbrev Ix (W : Wd) (n : Nat) (x : Str) (v : PV) (cr : jr) (elt : Expr) (i : Nat) (I : (CL) → Prop) : CL := fun ys H => ys.length = i → lJ x v cr fun r => Ev W n r H elt fun q => Of I (ys ++ [q])
noncomputable abbrev Iy (m : Nat) (K : CL) : CL := fun ys H => ys.length = m → K ys H
inductive Fk {α : Type} (W : Wd) (n : Nat) (r : jr) (elt : Expr) (x : Str) (scope : Scope) (K : CL) (xs : List PV) (H1 : HH) : Prop
 | mk (cr : jr) (L : List α) (g : α → PV) (I : IT (List PV)) (cp : k7 r scope.names cr) (e : xs = L.map g) (hz : L.length ≤ sizeLine) (i0 : Of (I 0) [] H1)
   (step : ∀ i a, L[i]? = some a → I i (Ix W n x (g a) cr elt i (I (i + 1))))
   (fin : I L.length (Iy L.length K))
theorem wl {Q : CV} {α : Type} {elt iter : Expr} {x : Str} {scope : Scope} {K : CL}
  (h : tM W false n r H iter (Fk (α := α) W n r elt x scope K)) (hK : ∀ ys H', K ys H' → ∀ D, Q (.ref D) ((D, .lst ys) :: H')) : yS W n r H elt x iter [] scope Q := fun A env fa G s R hr f => by
 refine jF (h A env fa G s R hr f) fun xv s1 h1 => jF h1 fun it s2 h2 => ?_
 obtain ⟨G2, I, fp, wr, xs, H2, St, a, b, c, d, e, e2, f1, g, h, ⟨cr, L, gg, Inv, cp, rfl, hz, i0, step, fin⟩⟩ := h2
 refine ⟨G2, I, fp, wr, _, H2, St, a, b, c, d, e, e2, f1, g, h, cr, fun i ys H' => ys.length = i ∧ i ≤ L.length ∧ Of (Inv i) ys H', cp, ⟨rfl, bF _, i0⟩, fun i ys H' q => by rw [q.1]; exact bj q.2.1 hz, fun i p ys H' hx q => ?_, fun ys H' q D => ?_⟩
 ·obtain ⟨q1, q2, q3⟩ := q
  rw [ax] at hx
  obtain ⟨a, ha, rfl⟩ := bc.mp hx
  obtain ⟨r2, U, E⟩ := q3 _ (step i a ha) q1
  exact ⟨r2, U, jA.tt (E.mono fun q H3 hq => ⟨by simp [q1], (aA.mp ha).1, hq⟩)⟩
 ·rw [aa] at q
  exact hK _ _ (q.2.2 _ fin q.1) D
noncomputable abbrev Iz (Q : CV) : CL := fun ys H => Q (.lst ys) H
noncomputable abbrev IA (t : Str) (r : jr) (Q : jH) : CL := fun ys H => lJ t (.lst ys) r fun r' => Q .next r' H
theorem xd {Q : CV} {α : Type} {elt iter : Expr} {x : Str} {px pos : Pos} {scope : Scope} (hcap : ∃ cr, k7 r scope.names cr)
  (h : tM W false n r H iter (Fk (α := α) W n r elt x scope (Iz Q)))
  (hk : autoParam (scope.kind = .function) aF) (hn : autoParam ((scope.names.map ai).Nodup) aN) (hs : autoParam (∀ env x, foldedSetIterable iter env x = pure x) aI) :
  Ev W n r H (.ListComp elt [⟨.Name x px, iter, [], 0⟩] scope pos) Q :=
 lg (qn hcap (wl h fun ys H' q D => ⟨D, _, _, rfl, rfl, q⟩) hk hn hs)
theorem p8 {t pt spos} {Q : jH} {α : Type} {elt iter : Expr} {x : Str} {px pos : Pos} {scope : Scope} (hcap : ∃ cr, k7 r scope.names cr)
  (h : tM W false n r H iter (Fk (α := α) W n r elt x scope (IA t r Q)))
  (hk : autoParam (scope.kind = .function) aF) (hn : autoParam ((scope.names.map ai).Nodup) aN) (hs : autoParam (∀ env x, foldedSetIterable iter env x = pure x) aI) :
  Ex W n r H (.Assign [.Name t pt] (.ListComp elt [⟨.Name x px, iter, [], 0⟩] scope pos) spos) Q :=
 uT fun Q' hQ => m8 hcap (wl h fun ys H' q D => by obtain ⟨r', U, z⟩ := q; exact hQ D _ _ r' U z) hk hn hs
theorem wm {α : Type} {xs : List α} {x : α} : (xs ++ [x])[((-1 : Int) + (xs ++ [x]).length).toNat]? = some x := by
 have : ((-1 : Int) + (xs ++ [x]).length).toNat = xs.length := by simp; exact J8 5
 rw [this]; simp
structure nr (lines tags : List (List Int)) (cnt : Nat) : Prop where
 s0 : 0 < lines.length
 s1 : lines.length ≤ 10
 c0 : 0 < cnt
 c1 : cnt ≤ 3
 sc : lines.length * cnt < 64
 row : ∀ l ∈ lines, l.length = cnt
 ent : ∀ l ∈ lines, ∀ v ∈ l, -1 ≤ v ∧ v < lines.length
 tag : tags.length = lines.length
structure xe (l : List Int) (cnt size : Nat) : Prop where
 len : l.length = cnt
 ent : ∀ v ∈ l, -1 ≤ v ∧ v < (size : Int)
theorem wn (P : PW W) {K : HO → HH} {p : Addr} (U : ∀ o o', kO p o o' (K o) (K o')) {ns : List Int} {sp gr : Int} (hz : ns.length ≤ 64) (h0 : 0 ≤ sp) (h1 : sp ≤ 500000) (hg : 0 ≤ gr)
  (hq : ∀ (lines tags : List (List Int)) (cnt : Nat) (sp' gr' : Int), nr lines tags cnt → 0 ≤ sp' → sp' ≤ sp + 1000 → 0 ≤ gr' → Q (.tup [j3 lines, n3 tags]) (K (ko ns sp' gr'))) : jX W (n + 3) (K (ko ns sp gr)) (.ref 673) [.ref p] Q := by
 wtm_at "def"
 exists jl (jB rfl (kP (nv P (by kd_mem) ?_)))
 intro al
 kd_p
 refine oC (K := fun o => (al, .lst [.int 1, .int 2, .int 3, .int 4, .int 10]) :: K o) P (fun o o' => .tail (U o o')) (fun o => .lst (.head _)) (by decide) (by decide) hz h0 (by exact J3 0 h1) hg fun x hx sp1 gr1 s0 s1 g0 => ?_
 refine ⟨_, _, .one, ?_⟩
 obtain ⟨size, rfl, hs0, hs1⟩ : ∃ size : Nat, x = .int (size : Nat) ∧ 0 < size ∧ (size ≤ 4 ∨ size = 10) := by
  simp only [au, bw, or_false] at hx
  rcases hx with rfl | rfl | rfl | rfl | rfl
  ·exact ⟨1, rfl, by decide, by decide⟩
  ·exact ⟨2, rfl, by decide, by decide⟩
  ·exact ⟨3, rfl, by decide, by decide⟩
  ·exact ⟨4, rfl, by decide, by decide⟩
  ·exact ⟨10, rfl, by decide, by decide⟩
 kd_p1
 refine jl (jB rfl (Ev.mono (Q := fun v H' => ∃ (cnt : Nat) (sp' gr' : Int), v = .int (cnt : Nat) ∧ H' = K (ko ns sp' gr') ∧ 0 < cnt ∧ cnt ≤ 3 ∧ size * cnt < 64 ∧ 0 ≤ sp' ∧ sp' ≤ sp1 + 1 ∧ 0 ≤ gr') (kN ?_) ?_))
 ·kd_p
  refine jA.dec (fun h2 => ?_) fun h2 => ?_
  ·kd_p
   exists kc P U hz s0 (by exact J4 14 s1 h1) g0 (by decide) (by decide) fun d sp' gr' hd0 hd1 q0 q1 q2 => ?_
   have : size ≤ 4 := by exact J20 11 h2 hs1
   refine ⟨(1 + d).toNat, sp', gr', by rw [bP (by exact J8 6 hd0)], rfl, by exact J8 7 hd0, by exact J8 8 hd1, ?_, q0, q1, q2⟩
   have : size * (1 + d).toNat ≤ 4 * 3 := ft this (by exact J8 8 hd1)
   exact J20 12 this
  ·kd_p
   exists kc P U hz s0 (by exact J4 14 s1 h1) g0 (by decide) (by decide) fun d sp' gr' hd0 hd1 q0 q1 q2 => ?_
   refine ⟨(1 + d).toNat, sp', gr', by rw [bP (by exact J8 6 hd0)], rfl, by exact J8 7 hd0, by exact J20 13 hd1, ?_, q0, q1, q2⟩
   have : size * (1 + d).toNat ≤ 10 * 2 := ft (by exact J20 14 hs1) (by exact J20 15 hd1)
   exact J20 16 this
 rintro v H' ⟨cnt, sp2, gr2, rfl, rfl, hc0, hc1, hsc, s2, s3, g2⟩
 kd_p
 intro ll
 kd_p
 exists jG ?_
 let I1 : IT jr := fun i Z => ∀ (L : List (List Int)) (sp' gr' : Int), L.length = i → (∀ l ∈ L, xe l cnt size) → 0 ≤ sp' → sp' ≤ sp2 + 10 * i → 0 ≤ gr' → Z [cc "pen" (.ref p), cc "size" (.int (size : Nat)), lc "count" (.int (cnt : Nat)), lc "lines" (.ref ll), lu "state", gb "_law_pick", gb "_law_draw", gb "range", gb "list"] ((ll, .lst (L.map fun l => .lst (jn l))) :: K (ko ns sp' gr'))
 refine ⟨size, rfl, by exact J20 17 hs1, I1, fun Z zz => zz [] sp2 gr2 rfl (by simp) s2 (by exact J3 1) g2, ?_, ?_⟩
 ·rintro i hi L sp3 gr3 hLl hL s4 s5 g3
  have hLs : (L.map fun l => PV.lst (jn l)).length ≤ sizeLine := by rw [aa, am]; exact J20 18 hLl hi hs1
  have adds : ∀ {l : List Int}, xe l cnt size → ∀ m ∈ L ++ [l], xe m cnt size := fun hl m hm => by
   rcases aQ.mp hm with hm | hm
   ·exact hL m hm
   ·simp at hm; subst hm; exact hl
  refine ⟨_, by kd_in, ?_⟩
  refine jl (kG (Tv.mono (Q' := fun b H' => ∃ sp' gr' : Int, H' = (ll, .lst (L.map fun l => .lst (jn l))) :: K (ko ns sp' gr') ∧ (b = true → L ≠ []) ∧ 0 ≤ sp' ∧ sp' ≤ sp3 + 1 ∧ 0 ≤ gr') (nH (o9 (jS ?_))) ?_))
  ·kd_p
   intro ae
   kd_p
   exists nB (.lst (.tail _ (.head _))) (.lst (.head _)) ?_
   refine ⟨_, _, .one, ?_⟩
   rw [show (!(L.map fun l => PV.lst (jn l)).isEmpty) = decide (L ≠ []) by cases L <;> simp]
   refine jA.dec (fun h3 => ?_) fun h3 => ?_
   ·kd_p
    exists kc (K := fun o => (ll, .lst (L.map fun l => .lst (jn l))) :: K o) P (fun o o' => .tail (U o o')) hz s4 (by exact J20 19 s3 s1 s5 h1 hi hs1) g3 (by decide) (by decide) fun d sp' gr' hd0 hd1 q0 q1 q2 => ?_
    refine jA.by (fun _ => ?_) fun _ => ?_
    ·kd_p
     exact ⟨sp', gr', rfl, fun _ => h3, q0, q1, q2⟩
    ·exact ⟨sp', gr', rfl, fun q => (by cases q), q0, q1, q2⟩
   ·exact ⟨sp3, gr3, rfl, fun q => (by cases q), s4, by exact J2 23, g3⟩
  rintro b H' ⟨sp4, gr4, rfl, hb, s6, s7, g4⟩
  refine jA.by (fun h3 => ?_) fun h3 => ?_
  ·have hne := hb h3
   have hpos := bI.mpr hne
   exists jl (lv rfl (k8 ?_))
   refine oC (K := fun o => (ll, .lst (L.map fun l => .lst (jn l))) :: K o) P (fun o o' => .tail (U o o')) (fun o => .lst (.head _)) (by rw [aa]; exact hpos) (by rw [aa]; exact J20 20 hLl hi hs1) hz s6 (by exact J20 21 s7 s3 s1 s5 h1 hi hs1) g4 fun x hx sp5 gr5 s8 s9 g5 => ?_
   obtain ⟨l, hl, rfl⟩ := az.mp hx
   have hlk := hL l hl
   have hll := hlk.len
   kd_p
   exists qX Vw.refl (pK (by exact J0 6 hc1 hll)) fun al => ?_
   exists kc (K := fun o => (al, .lst (jn l)) :: (ll, HO.lst ((L.map fun l => PV.lst (jn l)) ++ [PV.ref al])) :: K o) P (fun o o' => .tail (.tail (U o o'))) hz s8 (by exact J20 22 s9 s3 s7 s1 s5 h1 hi hs1) g5 (by exact J4 15) (by exact J8 9 hs1) fun d sp6 gr6 hd0 hd1 s10 s11 g6 => ?_
   refine nW (x := .ref al) (.lst (.tail _ (.head _))) (by decide) (by simp; exact J8 10) wm (by decide) ?_
   kd_p
   exists kc (K := fun o => (al, .lst (jn l)) :: (ll, HO.lst ((L.map fun l => PV.lst (jn l)) ++ [PV.ref al])) :: K o) P (fun o o' => .tail (.tail (U o o'))) hz s10 (by exact J20 23 s3 s11 s1 s7 s9 s5 h1 hi hs1) g6 (by exact J0 14 hc0) (by exact J8 11 hc1) fun d2 sp7 gr7 hd2 hd3 s12 s13 g7 => ?_
   refine mu .head hd2 (by exact J21 0 hc1 hd3) (by rw [aa]; exact J21 1 hll hd3) ?_
   kd_p
   rw [qz]
   refine jv.fz .one (by kd_all) (.lst (ny.snoc (.lst (.head _) .refl)) mS.refl) (Of.eqH (by rw [aJ]; rfl) (fun Z zz => zz (L ++ [l.set d2.toNat (d - 1)]) sp7 gr7 (by simp [hLl]) (adds ⟨by simp [hll], fun v hv => ?_⟩) s12 (by exact J21 2 s13 s9 s7 s11 s5) g7))
   rcases List.mem_or_eq_of_mem_set hv with hv | rfl
   ·exact hlk.ent v hv
   ·exact J21 3 hd0 hd1
  ·exists jl (lv rfl (k8 ?_))
   exists xd (α := Nat) (by wtm_at "hcap") (jM ?_)
   let I2 : IT (List PV) := fun i Z => ∀ (l : List Int) (sp' gr' : Int), (∀ v ∈ l, -1 ≤ v ∧ v < (size : Int)) → 0 ≤ sp' → sp' ≤ sp4 + i → 0 ≤ gr' → Z (jn l) ((ll, .lst (L.map fun l => .lst (jn l))) :: K (ko ns sp' gr'))
   refine ⟨cnt, rfl, by exact J1 5 hc1, _, av cnt, fun c => .int (c : Nat), I2, by wtm_at "crho", rfl, by rw [aq, am]; exact J2 5 hc1, fun Z zz => zz [] sp4 gr4 (by simp) s6 (by exact J0 18) g4, ?_, ?_⟩
   ·rintro j c hc l sp5 gr5 hl s8 s9 g5 hyl
    have hj := (aA.mp hc).1
    rw [aq] at hj
    exists ⟨_, by kd_in, ?_⟩
    exists kc (K := fun o => (ll, .lst (L.map fun l => .lst (jn l))) :: K o) P (fun o o' => .tail (U o o')) hz s8 (by exact J21 4 s7 s3 s1 s9 s5 h1 hc1 hi hj hs1) g5 (by exact J4 15) (by exact J8 9 hs1) fun d sp6 gr6 hd0 hd1 s10 s11 g6 => ?_
    refine Of.eq (by simp) (fun Z zz => zz (l ++ [d - 1]) sp6 gr6 (fun v hv => ?_) s10 (by exact J0 19 s11 s9) g6)
    rcases aQ.mp hv with hv | hv
    ·exact hl v hv
    ·simp at hv; exact J21 5 hd0 hd1 hv
   ·rintro l sp5 gr5 hl s8 s9 g5 hyl
    rw [aa, aq] at hyl
    rw [aq] at s9
    kd_p
    exact jv.nx (by kd_all) (Of.eqH (by rw [aJ]; rfl) (fun Z zz => zz (L ++ [l]) sp5 gr5 (by simp [hLl]) (adds ⟨hyl, hl⟩) s8 (by exact J21 6 s7 s9 s5 hc1) g5))
 ·rintro L sp3 gr3 hLl hL s4 s5 g3
  have hLsz : L.length ≤ 10 := by exact J21 7 hLl hs1
  refine mG (my.frz (r' := [cc "pen" (.ref p), cc "size" (.int (size : Nat)), lc "count" (.int (cnt : Nat)), lc "lines" (j3 L), lu "state", gb "_law_pick", gb "_law_draw", gb "range", gb "list"]) .one (.same (.same (.same (.rfy (.lst (.head _) .refl) (by kd_all))))) mS.refl) ?_
  exists jl (jP ?_)
  exists xd (α := List Int) (by wtm_at "hcap") (jN ?_)
  let I3 : IT (List PV) := fun i Z => ∀ (tags : List (List Int)) (sp' gr' : Int), 0 ≤ sp' → sp' ≤ sp3 + i → 0 ≤ gr' → Z (tags.map (fun t => .tup (jn t))) (K (ko ns sp' gr'))
  refine ⟨_, rfl, _, L, fun l => .lst (jn l), I3, by wtm_at "crho", rfl, by rw [am]; exact J1 6 hLsz, fun Z zz => zz [] sp3 gr3 s4 (by exact J0 18) g3, ?_, ?_⟩
  ·rintro j c hc tags sp5 gr5 s8 s9 g5 hyl
   have hj := (aA.mp hc).1
   exists ⟨_, by kd_in, kP (nv P (by kd_mem) ?_)⟩
   intro a4
   kd_p
   refine oC (K := fun o => (a4, .lst [.tup (jn []), .tup (jn [0]), .tup (jn [0, 1]), .tup (jn [])]) :: K o) P (fun o o' => .tail (U o o')) (fun o => .lst (.head _)) (by decide) (by decide) hz s8 (by exact J21 8 s1 s3 s9 s5 h1 hLsz hLl hj) g5 fun x hx sp6 gr6 s10 s11 g6 => ?_
   refine ⟨_, _, .one, ?_⟩
   obtain ⟨t, rfl⟩ : ∃ t : List Int, x = .tup (jn t) := by
    simp only [au, bw, or_false] at hx
    rcases hx with rfl | rfl | rfl | rfl
    ·exact ⟨_, rfl⟩
    ·exact ⟨_, rfl⟩
    ·exact ⟨_, rfl⟩
    ·exact ⟨_, rfl⟩
   exact Of.eq (by rw [aJ]; rfl) (fun Z zz => zz (tags ++ [t]) sp6 gr6 s10 (by exact J0 19 s11 s9) g6)
  ·rintro tags sp5 gr5 s8 s9 g5 hyl
   rw [aa] at hyl
   kd_p
   exact hq L tags cnt sp5 gr5 ⟨by exact J6 4 hLl hs0, by exact J21 9 hLsz, hc0, hc1, by rw [hLl]; exact hsc, fun l hl => (hL l hl).len, fun l hl => by rw [hLl]; exact (hL l hl).ent, hyl⟩ s8 (by exact J21 10 s3 s1 s9 s5 hLsz hLl) g5
noncomputable def fL (lines : List (List Int)) (s c : Int) : Int := if s = -1 then -1 else (lines.getD s.toNat []).getD c.toNat 0
theorem nr.rng {lines tags : List (List Int)} {cnt : Nat} (x : nr lines tags cnt) {s c : Int} (h0 : -1 ≤ s) (h1 : s < lines.length) (h2 : 0 ≤ c) (h3 : c < cnt) : -1 ≤ fL lines s c ∧ fL lines s c < lines.length := by
 unfold fL
 split
 ·have := x.s0; exact J22 0
 ·have hl := jp (L := lines) (d := ([] : List Int)) (i := s.toNat) (by exact J22 1 h0 h1 ‹_›)
  have hc := x.row _ hl
  exact x.ent _ hl _ (jp (d := (0 : Int)) (by exact J22 2 h2 hc h3))
theorem xf {l : List Int} {p : Int → Bool} : (l.filter p).length = ((av l.length).filter fun t => p (l.getD t 0)).length := by
 induction l with
 | nil => rfl
 | cons a l ih =>
  have e : ((fun t => p ((a :: l).getD t 0)) ∘ ie) = fun t => p (l.getD t 0) := by funext t; rfl
  rw [dE, List.range_succ_eq_map, ga, ga, eM, e, show (a :: l).getD 0 0 = a from rfl]
  split <;> simp [ih]
theorem xg (P : PW W) {lines tags : List (List Int)} {cnt : Nat} (x : nr lines tags cnt) {word : List Int} (hw : ∀ c ∈ word, 0 ≤ c ∧ c < cnt) (hwl : word.length ≤ 50) {start : Nat} (hst : start ≤ word.length) (h : Q (sb (fL lines) tags (word.drop start) start 0 .none) H) : jX W (n + 1) H (.ref 680) [j3 lines, n3 tags, .lst (jn word), .int (start : Nat)] Q := by
 have xs0 := x.s0
 have xs1 := x.s1
 have xt := x.tag
 have hsz := pK (L := word) (by exact J8 15 hwl)
 generalize hres : sb (fL lines) tags (word.drop start) start 0 .none = res at *
 wtm_at "def"
 exists jl (k5 (xs := ["best", "state"]) rfl (by decide) (by first | exact .inl rfl | exact .inr rfl) ?_)
 exists ⟨_, _, rfl, .cons (by kd_in) (.cons (by kd_in) .nil), ?_⟩
 exists sj ?_
 rw [aa]
 let I1 : IT jr := fun i Z => ∀ (st : Int) (best : PV), 0 ≤ st → st < lines.length → sb (fL lines) tags (word.drop (start + i)) (start + i) st best = res → Z [lc "lines" (j3 lines), lc "marks" (n3 tags), lc "word" (.lst (jn word)), lc "start" (.int (start : Nat)), lc "best" best, lc "state" (.int st), lu "at", gb "range", gb "len"] H
 refine ⟨start, word.length, rfl, ⟨hst, by exact J22 3 hwl⟩, I1, fun Z zz => zz 0 .none (by exact J4 16) (by exact J0 14 xs0) hres, ?_, ?_⟩
 ·rintro i hi st best h0 h1 hf
  have hj : start + i < word.length := by exact J22 4 hi
  have hc := hw _ (jp (d := (0 : Int)) hj)
  have hdr : word.drop (start + i) = word.getD (start + i) 0 :: word.drop (start + i + 1) := by
   rw [fE hj]; congr 1; rw [aL, aG hj]; rfl
  rw [hdr] at hf
  rw [rn] at hf
  have hr := x.rng (s := st) (by exact J22 5 h0) h1 hc.1 hc.2
  have hll := x.row _ (jp (L := lines) (d := ([] : List Int)) (i := st.toNat) (by exact J2 1 h1 xs0))
  have hfl : fL lines st (word.getD (start + i) 0) = (lines.getD st.toNat []).getD (word.getD (start + i) 0).toNat 0 := by unfold fL; rw [if_neg (by exact J22 6 h0)]
  exists ⟨_, by kd_in, ?_⟩
  exists kA Vw.refl h0 (by exact J2 1 h1 xs0) (by exact J8 16 xs1 h1) ?_
  refine j7 Vw.refl (by exact J22 7) (by exact J22 8 hj) (by exact J8 15 hwl) ?_
  rw [ag]
  have hcnt := x.c1
  wtm_at "w1"
  refine j7 Vw.refl hc.1 (by exact J8 17 hc hll) (by exact J0 6 hcnt hll) ?_
  rw [← hfl]
  generalize fL lines st (word.getD (start + i) 0) = st' at *
  kd_p
  refine jA.dec (fun h2 => ?_) fun h2 => ?_
  ·kd_p
   rw [if_pos h2] at hf
   rw [show best = res from hf]
   exact h
  rw [if_neg h2] at hf
  kd_p
  exists rm Vw.refl (by exact J1 2 hr h2) (by exact J1 13 hr xt xs0) (by exact J4 17 xs1 hr) ?_
  exists xO Vw.refl Vw.refl ?_
  by_cases h4 : tags.getD st'.toNat [] = []
  ·rw [h4]
   rw [if_pos h4] at hf
   exists jA.ff ?_
   exact jv.nx (by kd_all) (fun Z zz => zz st' best (by exact J1 2 hr h2) hr.2 hf)
  ·rw [show (!(jn (tags.getD st'.toNat [])).isEmpty) = true by cases e : tags.getD st'.toNat [] with | nil => exact absurd e h4 | cons => rfl]
   rw [if_neg h4] at hf
   kd_p
   exists rm Vw.refl (by exact J1 2 hr h2) (by exact J1 13 hr xt xs0) (by exact J4 17 xs1 hr) ?_
   rw [show ((start + i : Nat) : Int) + 1 = ((start + i + 1 : Nat) : Int) by exact J22 9]
   exact jv.nx (by kd_all) (fun Z zz => zz st' _ (by exact J1 2 hr h2) hr.2 hf)
 ·rintro st best h0 h1 hf
  kd_p
  rw [gn (by exact J22 10)] at hf
  rw [show best = res from hf]
  exact h
theorem B4 (P : PW W) {lines tags : List (List Int)} {cnt : Nat} (x : nr lines tags cnt) {word : List Int} (hw : ∀ c ∈ word, 0 ≤ c ∧ c < cnt) (h : Q (.int (sa (fL lines) word 0)) H) : jX W (n + 1) H (.ref 687) [j3 lines, .lst (jn word)] Q := by
 have xs0 := x.s0
 have xs1 := x.s1
 have xc := x.c1
 wtm_at "def"
 kd_p
 exists mX (α := Int) ?_
 let I2 : IT jr := fun i Z => ∀ st : Int, st = sa (fL lines) (word.take i) 0 → -1 ≤ st → st < lines.length → Z [lc "lines" (j3 lines), lc "word" (.lst (jn word)), lc "state" (.int st), lu "number"] H
 refine ⟨word, PV.int, rfl, I2, fun Z zz => zz 0 rfl (by exact J1 23) (by exact J0 14 xs0), ?_, ?_⟩
 ·rintro i c hc st he h0 h1
  have hcc := hw c (aS hc)
  have hr := x.rng h0 h1 hcc.1 hcc.2
  have hnx : fL lines st c = sa (fL lines) (word.take (i + 1)) 0 := by rw [j9 hc, uq, ← he]
  exists ⟨_, by kd_in, ?_⟩
  refine jA.dec (fun h2 => ?_) fun h2 => ?_
  ·have hll := x.row _ (jp (L := lines) (d := ([] : List Int)) (i := st.toNat) (by exact J2 1 h1 xs0))
   have hfl : fL lines st c = (lines.getD st.toNat []).getD c.toNat 0 := by unfold fL; rw [if_neg (by exact J22 11 h2)]
   kd_p
   exists kA Vw.refl (by exact J22 12 h0 h2) (by exact J2 1 h1 xs0) (by exact J8 16 xs1 h1) ?_
   refine j7 Vw.refl hcc.1 (by exact J8 17 hcc hll) (by exact J0 6 xc hll) ?_
   rw [← hfl]
   kd_p
   exact jv.nx (by kd_all) (fun Z zz => zz _ hnx hr.1 hr.2)
  ·have hfl : fL lines st c = -1 := by unfold fL; rw [if_pos (by exact J1 1 h2)]
   kd_p
   exact jv.nx (by kd_all) (fun Z zz => zz _ (by rw [← hnx, hfl]) (by exact J8 18) (by exact J8 19))
 ·rintro st he h0 h1
  rw [aZ] at he
  kd_p
  rw [he]; exact h
theorem wo (P : PW W) {par : List Int} {size : Nat} (hp : nE par size) (hz : size ≤ 50) {s : Nat} (hs : s < size) (h : Q (.lst (jn (mf par s))) H) : jX W (n + 1) H (.ref 699) [.lst (jn par), .int (s : Nat)] Q := by
 have hpl := hp.len
 have hcl := tx hp (here := (s : Int)) (by exact J1 15) (by exact J0 23 hs)
 wtm_at "def"
 kd_p
 intro al
 kd_p
 let I3 : IT jr := fun k Z => ∀ (j : Nat) (d : List Int), j < size → k = j → d ++ mf par j = mf par s → Z [lc "parents" (.lst (jn par)), lc "state" (.int (s : Nat)), lc "found" (.ref al)] ((al, .lst (jn (d ++ [(j : Int)]))) :: H)
 refine lC I3 s (fun Z zz => zz s [] hs rfl rfl) ?_
 rintro k j d hj rfl he
 have hr := hp.rng hj
 have hat := ur hp hj
 have hsnoc : jn (d ++ [(k : Int)]) = jn d ++ [PV.int (k : Int)] := by simp
 rw [hsnoc]
 have last : ∀ {Q : CV}, Q (.int (k : Nat)) ((al, .lst (jn d ++ [PV.int (k : Int)])) :: H) → oM W n ((al, .lst (jn d ++ [PV.int (k : Int)])) :: H) (.ref al) (.int (-1)) Q := fun hq =>
  nW (x := .int (k : Nat)) (.lst (.head _)) (by decide) (by simp; exact J8 10) wm (by decide) hq
 kd_p
 refine last ?_
 wtm_at "w1"
 refine j7 Vw.refl (by exact J0 0) (by exact J0 2 hpl hj) (by exact J8 20 hz hpl) ?_
 rw [ag]
 kd_p
 refine jA.dec (fun h2 => ?_) fun h2 => ?_
 ·kd_p
  refine last ?_
  wtm_at "w1"
  refine j7 Vw.refl (by exact J0 0) (by exact J0 2 hpl hj) (by exact J8 20 hz hpl) ?_
  rw [ag]
  kd_p
  ·obtain ⟨j', hj'⟩ : ∃ j' : Nat, par.getD k 0 = (j' : Int) := ⟨(par.getD k 0).toNat, by exact J22 13 hr h2⟩
   rw [hj'] at hr hat ⊢
   exact jv.nx (by kd_all) ⟨j', by exact J22 14 hr, Of.eqH (by rw [← hsnoc]; simp) (fun Z zz => zz j' (d ++ [(k : Int)]) (by exact J22 15 hr hj) rfl (by rw [← he, hat]; simp))⟩
  ·rw [ce, aa, am]
   have := congrArg eF he
   rw [ce] at this
   simp; exact J22 16 hz hcl this hs
 ·exists jl (jP (lg ?_))
  refine ⟨al, _, _, rfl, rfl, ?_⟩
  rw [hat, show par.getD k 0 = -1 by exact J1 1 h2, rP] at he
  rw [← hsnoc, he]
  exact h
theorem zy : typeLookup (.type "list") "keys" = pure none := am_miss_of_fast (by kernel_rfl)
theorem p9 {prog : Program} {w : World} {A : Around} {E : Value → Shared → Prop} {s : Shared} {a : Addr} {xs : Array Value} {k : Nat} {name : Str} {Q : Option Value → Shared → Prop}
  (hx : s.heap.get? a = some { cls := .type "list", data := .seq xs k }) (hmiss : typeLookup (.type "list") name = pure none) (hname : (["__module__", "__name__", "__qualname__", "__doc__", "__annotations__"] : List Str).contains name = false) (hA : A.handled = none)
  (h : ∀ h' tk, (∀ b o, s.heap.get? b = some o → h'.get? b = some o) → Q none { s with heap := h', toks := tk }) (hsz : name.length + 100 ≤ sizeLine) :
  wpAny (model prog w) A (getAttr? (.ref a) name) Q E s := by
 obtain ⟨hp, g, d, tk, os⟩ := s
 have hT : ∀ tk', (⟨hp, g, d, tk', os⟩ : Shared).TypeIs (.ref a) "list" := fun _ => ⟨_, hx, rfl⟩
 have f1 := sub_AttributeError
 have f3 := dK.lookup
 have f4 := dK.bind (.ref a)
 have f5 := am_list_getattr_none
 unfold getAttr? getAttrBy? getAttrBy
 repeat (any_goals (first | assumption | exact hT _ | ((with_reducible show wpAny _ _ (call (jd "list.__getattribute__") _ _) _ _ _); refine gZ dK (hT _) am_entry_list_getattribute (F.args_list_getattribute_2 _ _) (meets_getattribute_miss_list a xs k #[] name _ hmiss hname hsz) ⟨hx, hA, fun h' tk' e hx' => ?_⟩) | wp_step))
 obtain ⟨t', u', he⟩ := hx'.there
 show wpAny _ _ (getattributeRaised _ _ _ _ _ _ _) _ _ _
 unfold getattributeRaised
 repeat (any_goals (first | assumption | wp_step))
 exact h _ _ hx'.keeps
theorem ut : entryFor table "dict.update.loop" = some Builtin.«dict.update.loop» := entryFor_of_tree (by kernel_rfl)
theorem pE : plainId "dict.update.loop" = true := by decide +kernel
theorem vg {prog : Program} {w : World} {A : Around} {E : Value → Shared → Prop} {s : Shared} {v : Value} {x : Int × Int} {Q : List Value → Shared → Prop} (h : lm s.heap v x) (hq : ∀ t u, Q [.int x.1 t, .int x.2 u] s) : wpAny (model prog w) A (gq v) Q E s := by
 obtain ⟨a, t, u, rfl, o, ho, hc, n, hd⟩ := h
 have hT : s.TypeIs (.ref a) "tuple" := ⟨o, ho, hc⟩
 unfold gq
 refine aj (wpAny_typeOf hT ?_)
 rw [if_pos (by decide)]
 refine aj (cS ho hd ?_)
 exact aB (hq t u)
theorem pF {prog : Program} {w : World} {h h' : Heap} {a : Addr} {kvs : List (Int × Value)} (x : h.DictOf (intKind prog w) a kvs) (hk : ∀ o, h.get? a = some o → h'.get? a = some o) : h'.DictOf (intKind prog w) a kvs := by
 obtain ⟨o, es, ep, ho, r⟩ := x
 exact ⟨o, es, ep, hk o ho, r⟩
theorem zU {W : Wd} {G : Gh} {A : Around} {R : Result → Shared → Prop} {I l D : Addr} {vs : List Value} {L : List (Int × Int)} (hh : A.handled = none) (hlI : l ≠ I) (hDI : D ≠ I) (hDl : D ≠ l) (hlen : vs.length = L.length) (hz : L.length ≤ 5000) (nd : (L.map ai).Nodup) :
  ∀ (k j : Nat) (s : Shared) (kvs : List (Int × Value)), L.length - j = k → j ≤ L.length → s.heap.IsListIter I l j → s.heap.IsList l vs.toArray →
  (∀ (i : Nat) (x : Int × Int), L[i]? = some x → ∃ v, vs[i]? = some v ∧ lm s.heap v x ∧ v ≠ .ref I ∧ v ≠ .ref D) → KV W G PV.int (L.take j) kvs → s.heap.DictOf (intKind W.prog W.w) D kvs →
  (∀ h' tk kvs', KV W G PV.int L kvs' → h'.DictOf (intKind W.prog W.w) D kvs' → (∀ b o, b ≠ I → b ≠ D → s.heap.get? b = some o → h'.get? b = some o) → R (.ok (.ret .none)) { s with heap := h', toks := tk }) →
  codeAny (model W.prog W.w) A (.builtin "dict.update.loop" ⟨[.ref D, .ref I, rawInt (j : Int), .none], []⟩) R s := by
 have Wl := hJ (prog := W.prog) (w := W.w) (A := A.in1) hh I l hlI vs.toArray
 have hDw : D ∉ [I] := by simpa using hDI
 intro k
 induction k with
 | zero =>
  intro j s kvs hk hj hit hl hT kv hD hR
  have hin : j = vs.toArray.size := by rw [aH]; exact J22 17 hj hlen hk
  refine dM ut ?_
  rw [cQ pE _]
  show wpAny _ A.in1 (pyNext (.ref I) >>= _) _ _ s
  refine aj (Wl.done s _ _ (hin ▸ ⟨hit, hl⟩) fun h' tk hk' => ?_)
  show wpAny _ A.in1 (Builtin.Dict.addKeywords D [] >>= _) _ _ _
  refine aj (aB (aB ?_))
  rw [show L.take j = L from br (by exact J22 18 hk)] at kv
  exact hR h' tk kvs kv (pF hD fun o e => hk' D o hDw e) fun b o h1 h2 e => hk' b o (by simpa using h1) e
 | succ k ih =>
  intro j s kvs hk hj hit hl hT kv hD hR
  have hlt : j < vs.toArray.size := by rw [aH]; exact J22 19 hlen hk
  have hlt' : j < L.length := by exact J22 20 hk
  refine dM ut ?_
  rw [cQ pE _]
  show wpAny _ A.in1 (pyNext (.ref I) >>= _) _ _ s
  refine aj (Wl.item j s _ _ hlt ⟨hit, hl⟩ fun v h' tk hP hst' hk' => ?_)
  obtain ⟨v', hv', pv, q1, q2⟩ := hT j L[j] (aG hlt')
  have ev : v' = v := by
   have : vs[j]? = some v := by simpa using hP
   rw [hv'] at this; exact bD this
  subst ev
  have kp : ∀ (u : Value) (x : Int × Int), u ≠ .ref I → lm s.heap u x → lm h' u x := fun u x h1 p => p.keep fun a o e q => hk' a o (by
   have : a ≠ I := fun z => h1 (z ▸ e)
   simpa using this) q
  have hD' := pF hD fun o e => hk' D o hDw e
  show wpAny _ A.in1 (holding [v'] _ >>= _) _ _ _
  refine aj (bv ?_)
  refine aj (d6 (vg (kp _ _ q1 pv) fun t u => ?_))
  show wpAny _ A.in1 (holding _ (dictSet D _ _)) _ _ _
  refine bv ?_
  have hkl : kvs.length ≤ sizeLine := by rw [kv.length, bg, am]; exact J22 21 hz
  refine wpAny_dictSet_pairs (hsz := hkl) (dz _ _ L[j].1 t) hD' fun h2 hd2 hs2 => ?_
  refine aB ⟨dJ pE _, ?_⟩
  have hat : L[j]? = some L[j] := aG hlt'
  have hnew : jz (L.take j) L[j].1 = none := lE.mpr fun q => by
   have hsp : L = L.take j ++ L[j] :: L.drop (j + 1) := by rw [bY, bS]
   rw [hsp, aJ] at nd
   exact (du.mp nd).2.2 _ q _ (.head _) rfl
  have kv2 : KV W G PV.int (L.take (j + 1)) (stored kvs L[j].1 (.int L[j].2 u)) := by
   have := kv.stored (k := L[j].1) (x := L[j].2) (v := .int L[j].2 u) (by wtm_at "rv")
   rw [o6 hnew] at this
   rw [j9 hat]; exact this
  have kp2 : ∀ b o, b ≠ I → b ≠ D → s.heap.get? b = some o → h2.get? b = some o := fun b o h1 h3 e => (hs2.2 b h3).trans (hk' b o (by simpa using h1) e)
  have := ih (j + 1) { s with heap := h2, toks := tk + 1 } _ (by exact J22 22 hk) hlt' (hst'.1.at fun o e => (hs2.2 I (fM hDI)).trans e) (hl.at fun o e => kp2 l o hlI (fM hDl) e) (fun i x hx => ?_) kv2 hd2 (fun h3 tk3 kvs3 a b c => ?_)
  ·exact this
  ·obtain ⟨u', hu', pu, z1, z2⟩ := hT i x hx
   exact ⟨u', hu', pu.keep fun a o e q => kp2 a o (fun z => z1 (z ▸ e)) (fun z => z2 (z ▸ e)) q, z1, z2⟩
  ·exact hR h3 tk3 kvs3 a b fun b' o h1 h2' e => c b' o h1 h2' (kp2 b' o h1 h2' e)
theorem uu {p : PV} {L : List (Int × Int)} (w : Vw H p (.lst (L.map kW))) (nd : (L.map ai).Nodup) (hz : L.length ≤ 5000) (h : ∀ a, Q (.ref a) ((a, .dct (Dk .int L)) :: H)) : mM W n H (fun vs => call (.type "dict") vs) [p] Q := kE fun A G s v R hr hv => by
 obtain ⟨l, vs, m, rfl, e1, rs⟩ := w.lstAt hr hv
 have hl0 : vs.length = L.length := by rw [rs.length, aa]
 have tupOf : ∀ (i : Nat) (x : Int × Int), L[i]? = some x → ∃ v, vs[i]? = some v ∧ lm s.heap v x ∧ ∃ b, v = .ref b ∧ b < s.heap.objs.size := fun i x hx => by
  obtain ⟨v, hv, rv⟩ := rs.get (i := i) (x := kW x) (by rw [ax, hx]; rfl)
  simp only [kW, RV, jY] at rv
  obtain ⟨b, ws, rfl, ⟨o, g1, g2, m', g3⟩, v1, _, rfl, ⟨t, rfl⟩, v2, _, rfl, ⟨u, rfl⟩, rfl⟩ := rv
  have g1' := (hr.imm _ _ g1).1
  exact ⟨_, hv, ⟨b, t, u, rfl, o, g1', g2, m', g3⟩, b, rfl, bq g1'⟩
 refine callType_codes (Q₁ := fun obj s₁ => obj = .ref s.heap.objs.size ∧ s₁ = { s with heap := s.heap.push { cls := .type "dict", data := .dict #[] } }) F.kt_called_dict (F.kt_typeCall_dict_1 _) F.entry_dict_init (kt_code_dict_new _ ⟨rfl, rfl⟩) ?_
 rintro obj s₁ ⟨rfl, rfl⟩
 have hnew : (s.heap.push { cls := .type "dict", data := .dict #[] }).DictOf (intKind W.prog W.w) s.heap.objs.size [] := Heap.DictOf.new s.heap
 have el : (s.heap.push { cls := .type "dict", data := .dict #[] }).get? l = some (lI vs m) := ju _ _ _ e1
 have hll : l < s.heap.objs.size := bq e1
 refine ⟨hnew.typeIs, F.args_dict_init_2 _ _, ?_⟩
 unfold Builtin.«dict.__init__»
 refine aj ?_
 unfold Builtin.Dict.selfAndRest
 refine aj (wpAny_notOrdered_dict hnew.typeIs ?_)
 show wpAny _ _ (pure (s.heap.objs.size, [gP l])) _ _ _
 refine aB ?_
 show wpAny _ _ (gc "dict.__init__" s.heap.objs.size (.ref l) [] .none) _ _ _
 unfold gc
 refine aj (wpAny_typeOf (s := { s with heap := s.heap.push { cls := .type "dict", data := .dict #[] } }) (jq el).typeIs ?_)
 rw [if_pos (by decide)]
 refine aj (p9 el zy (by decide +kernel) (by exact R.hd) (fun h1 tk1 k1 => ?_) (by rw [am]; decide +kernel))
 simp only [Option.isNone_none, if_true]
 refine aj (fk ?_)
 have el1 : h1.get? l = some (lI vs m) := k1 _ _ el
 have hD1 : h1.DictOf (intKind W.prog W.w) s.heap.objs.size [] := pF hnew fun o e => k1 _ _ e
 have hDh : k9 h1 s.heap.objs.size := let ⟨o, es, ep, ho, _⟩ := hD1; ⟨o, ho⟩
 have hDs : s.heap.objs.size < h1.objs.size := let ⟨o, ho⟩ := hDh; bq ho
 refine aj (fJ (jq el1) ?_)
 refine aB ⟨dJ pE _, ?_⟩
 have hit0 : (h1.push { cls := .type "list_iterator", data := .fields #[.ref l, .int 0 0] }).IsListIter h1.objs.size l 0 := ⟨_, aV _ rfl, rfl, rfl⟩
 refine zU (G := G) (D := s.heap.objs.size) (vs := vs) (L := L) (by exact R.hd) (bK (d5 hll hDs)) (bK hDs) (ik hll) hl0 hz nd L.length 0 _ [] (by exact J22 23) (bF _) hit0 ((jq el1).at fun o e => ju _ _ _ e) (fun i x hx => ?_) (by rw [ca]; rfl) (pF hD1 fun o e => ju _ _ _ e) (fun h2 tk2 kvs2 kv2 d2 k2 => ?_)
 ·obtain ⟨v, q1, q2, b, rfl, q3⟩ := tupOf i x hx
  refine ⟨_, q1, q2.keep fun a o e q => ju _ _ _ (k1 _ _ (ju _ _ _ q)), fun z => ?_, fun z => ?_⟩
  ·cases z; exact dm _ (d5 q3 hDs)
  ·cases z; exact dm _ q3
 ·refine ⟨rfl, ?_⟩
  refine vL (tk := tk2) hr oW (fun b o q => k2 b o ?_ ?_ (ju _ _ _ (k1 _ _ (ju _ _ _ q)))) d2 kv2 h
  ·exact bK (d5 (bq q) hDs)
  ·exact bK (bq q)
theorem z9 (P : PW W) {lines tags : List (List Int)} {cnt : Nat} (x : nr lines tags cnt) (h : Q (.lst (jn (jT lines true))) H) : jX W (n + 1) H (.ref 692) [j3 lines] Q := by
 have xs0 := x.s0
 have xs1 := x.s1
 have xc := x.c1
 have hlz : (lines.map fun l => PV.lst (jn l)).length ≤ sizeLine := by rw [aa, am]; exact J1 6 xs1
 wtm_at "def"
 kd_p
 intro al
 kd_p
 exists jG ?_
 rw [aa]
 have hcl : ∀ s, (j5 lines s).length ≤ 8 := fun s => by unfold j5; rw [aa, aq]; exact J23 0
 let I1 : IT jr := fun i Z => Z [cc "lines" (j3 lines), lc "found" (.ref al), cu "state", lu "some", cu "other", lu "own", gb "range", gb "len", gb "max", gb "min"] ((al, HO.lst (jn ((jT lines true).take i))) :: H)
 refine ⟨lines.length, rfl, by exact J3 5 xs1, I1, Of.eqH (by rw [ca]; rfl) (fun Z zz => zz), ?_, ?_⟩
 ·rintro s hs
  have hls := x.row _ (jp (L := lines) (d := ([] : List Int)) hs)
  exists ⟨_, by kd_in, ?_⟩
  intro as
  kd_p
  exists sj ?_
  let I2 : IT jr := fun i Z => Z [cc "lines" (j3 lines), lc "found" (.ref al), cc "state" (.int (s : Nat)), lc "some" (.ref as), cu "other", lu "own", gb "range", gb "len", gb "max", gb "min"] ((as, HO.lst (((j5 lines s).take i).map kW)) :: (al, HO.lst (jn ((jT lines true).take s))) :: H)
  refine ⟨s - 8, s, by rw [show max 0 ((s : Int) - 8) = ((s - 8 : Nat) : Int) by lia], ⟨by exact J7 7, by exact J23 1 xs1 hs⟩, I2, Of.eqH (by rw [ca]; rfl) (fun Z zz => zz), ?_, ?_⟩
  ·rintro i hi
   have hlo := x.row _ (jp (d := ([] : List Int)) (show s - 8 + i < lines.length by exact J7 8 hs hi))
   have hl0 := x.row _ (jp (d := ([] : List Int)) (show 0 < lines.length by exact J23 2 xs0))
   have hci : (j5 lines s)[i]? = some ((((li (lines.getD s []) (lines.getD (s - 8 + i) [])).length : Nat) : Int), ((s - 8 + i : Nat) : Int)) := by
    unfold j5; rw [ax, b8 hi]; rfl
   have hun : (li (lines.getD s []) (lines.getD (s - 8 + i) [])).length = ((av cnt).filter fun t => !decide ((lines.getD (s - 8 + i) []).getD t 0 = (lines.getD s []).getD t 0)).length := by
    unfold li kj
    rw [aa, hls]
    congr 2
    funext t
    by_cases q : (lines.getD s []).getD t 0 = (lines.getD (s - 8 + i) []).getD t 0
    ·rw [decide_eq_true q, decide_eq_true q.symm]
    ·rw [decide_eq_false q, decide_eq_false (fun z => q z.symm)]
   have hun2 : ((av cnt).filter fun t => !decide ((lines.getD (s - 8 + i) []).getD t 0 = (lines.getD s []).getD t 0)).length ≤ cnt := bj (bm _ _) (by simp)
   have hs2 : (((j5 lines s).take i).map kW).length ≤ sizeLine := by rw [aa, bg, am]; have := hcl s; exact J23 3 hi
   refine ⟨_, by kd_in, ?_⟩
   exists jl (lv rfl (k8 ?_))
   exists lh (α := Nat) (fun t => !decide ((lines.getD (s - 8 + i) []).getD t 0 = (lines.getD s []).getD t 0)) (fun i => PV.int (i : Nat)) (by wtm_at "hcap") (jM ?_)
   refine kA Vw.refl (by exact J4 16) (by exact J8 21 xs0) (by exact J8 22) ?_
   have hl1 := pK (L := lines.getD (0 : Int).toNat []) (by rw [show (0 : Int).toNat = 0 from rfl]; exact J0 6 xc hl0)
   kd_p
   rw [aa, show (0 : Int).toNat = 0 from rfl, hl0]
   refine ⟨cnt, rfl, by exact J1 5 xc, _, av cnt, fun c => .int (c : Nat), by wtm_at "crho", rfl, by rw [aq, am]; exact J2 5 xc, fun t ht => ⟨_, by kd_in, ?_⟩, ?_⟩
   ·have ht2 := aM.mp ht
    kd_p
    exists kA Vw.refl (by exact J7 9) (by exact J7 10 hs hi) (by exact J23 4 xs1 hs hi) ?_
    rw [ag]
    refine j7 Vw.refl (by exact J0 0) (by exact J0 2 hlo ht2) (by exact J0 6 xc hlo) ?_
    rw [ag]
    kd_p
    exists kA Vw.refl (by exact J0 0) (by exact J0 1 hs) (by exact J4 18 xs1 hs) ?_
    rw [ag]
    refine j7 Vw.refl (by exact J0 0) (by exact J0 2 hls ht2) (by exact J0 6 xc hls) ?_
    rw [ag]
    kd_p
    exists ⟨by simp, rfl, fun _ => ?_⟩
    exact rfl
   ·have hl3 : (((av cnt).filter fun t => !decide ((lines.getD (s - 8 + i) []).getD t 0 = (lines.getD s []).getD t 0)).map fun i => PV.int (i : Nat)).length ≤ sizeLine := by rw [aa, am]; exact J23 5 hun2 xc
    kd_p
    rw [aa, ← hun]
    exact jv.nx (by kd_all) (Of.eqH (by rw [j9 hci, aJ]; rfl) (fun Z zz => zz))
  ·show lj _ _ _ _ _ _
   rw [show (j5 lines s).take (s - (s - 8)) = j5 lines s from br (by simp [j5])]
   have hown : (((lines.getD s []).filter fun t => !decide (t = -1)).length : Int) = wc lines s := by
    unfold wc n5 kj
    rw [aa]
    exact congrArg _ (xf (p := fun t => !decide (t = -1)))
   have hpa : (jT lines true)[s]? = some (mq lines s) := by
    unfold jT; rw [ax, b8 hs]; rfl
   have hflt : ((lines.getD s []).filter fun t => !decide (t = -1)).length ≤ cnt := bj (bm _ _) (by exact J4 19 hls)
   have hfin : ∀ {v : PV}, v = .int (mq lines s) → jn ((jT lines true).take s) ++ [v] = jn ((jT lines true).take (s + 1)) := fun e => by rw [e, j9 hpa]; simp
   exists jl (jB rfl (vO P (by kd_mem) (jy (lh (α := Int) (fun t => !decide (t = -1)) PV.int (by wtm_at "hcap") (jN ?_)))))
   refine kA Vw.refl (by exact J0 0) (by exact J0 1 hs) (by exact J4 18 xs1 hs) ?_
   rw [ag]
   refine ⟨_, rfl, _, lines.getD s [], PV.int, by wtm_at "crho", rfl, by rw [am]; exact J1 3 xc hls, fun t ht => ⟨_, by kd_in, ?_⟩, ?_⟩
   ·kd_p
    exists ⟨by simp, rfl, fun _ => ?_⟩
    exact rfl
   have hl4 := pK (L := (lines.getD s []).filter fun t => !decide (t = -1)) (by exact J23 6 hflt xc)
   refine mh (sA Vw.refl hl4 ?_)
   rw [aa, hown]
   kd_p1
   have hs3 : (jn ((jT lines true).take s)).length ≤ sizeLine := pK (by rw [bg]; unfold jT; rw [aa, aq]; exact J23 7 xs1)
   have hcl' := hcl s
   have hcs : ((j5 lines s).map kW).length ≤ sizeLine := by rw [aa, am]; exact J23 8 hcl'
   refine jl (lv rfl (k8 ?_))
   kd_p1
   kd_p1
   kd_p1
   refine qh (Tv.mono (Q' := fun b H' => H' = (as, HO.lst ((j5 lines s).map kW)) :: (al, HO.lst (jn ((jT lines true).take s))) :: H ∧ (b = true ↔ j5 lines s ≠ [] ∧ (oN (j5 lines s)).1 < wc lines s)) (nH (o9 (jS ?_))) ?_)
   ·kd_p
    intro ae
    kd_p
    exists nB (.lst (.tail _ (.head _))) (.lst (.head _)) ?_
    refine ⟨_, _, .one, ?_⟩
    rw [show (!((j5 lines s).map kW).isEmpty) = decide (j5 lines s ≠ []) by cases j5 lines s <;> simp]
    refine jA.dec (fun h3 => ?_) fun h3 => ?_
    ·exists nH (jS (og (vQ P (by kd_mem) ?_)))
     exists vM (.lst (.head _)) h3 ?_
     exists kH (x := .int (oN (j5 lines s)).1) Vw.refl (by decide) rfl (by decide) ?_
     refine jA.by (fun h4 => ?_) fun h4 => ?_
     ·kd_p
      exact nN rfl ⟨h3, of_decide_eq_true h4⟩
     ·exact ⟨rfl, j0 rfl fun z => of_decide_eq_false h4 z.2⟩
    ·exact ⟨rfl, j0 rfl fun z => h3 z.1⟩
   rintro b _ ⟨rfl, hb⟩
   refine jA.by (fun h3 => ?_) fun h3 => ?_
   ·have hb2 := hb.mp h3
    exists og (vQ P (by kd_mem) ?_)
    exists vM (.lst (.head _)) hb2.1 ?_
    exists kH (x := .int (oN (j5 lines s)).2) Vw.refl (by decide) rfl (by decide) ?_
    refine jv.fz .one (by kd_all) mS.refl (Of.eqH ?_ (fun Z zz => zz))
    rw [hfin]
    unfold mq
    rw [if_pos hb2]
   ·have hb2 : ¬ (j5 lines s ≠ [] ∧ (oN (j5 lines s)).1 < wc lines s) := fun z => by rw [hb.mpr z] at h3; cases h3
    kd_p
    refine jv.fz .one (by kd_all) mS.refl (Of.eqH ?_ (fun Z zz => zz))
    rw [hfin]
    unfold mq
    rw [if_neg hb2]
 ·show lj _ _ _ _ _ _
  rw [show (jT lines true).take lines.length = jT lines true from br (by simp [jT])]
  exists jl (jP (lg ?_))
  exact ⟨al, _, _, rfl, rfl, h⟩
theorem kD {α : Type} {L : List α} {d : α} {i : Nat} (h : i < L.length) : L.getD i d = L[i] := by
 rw [aL, aG h]; rfl
theorem lR {α : Type} {f : Nat → α} {N i : Nat} {d : α} (h : i < N) : ((av N).map f).getD i d = f i := by
 rw [kD (by simpa using h)]; simp
theorem yy {lines : List (List Int)} {ch : Bool} {s : Nat} (h : s < lines.length) : (jT lines ch).getD s 0 = lT lines ch s := lR h
theorem Dw {lines : List (List Int)} {ch : Bool} {s : Nat} (h : s < lines.length) : (js lines ch).getD s [] = kU lines ch s := lR h
theorem Ej {lines : List (List Int)} {ch : Bool} : nE (jT lines ch) lines.length where
 len := by simp [jT]
 low := fun s hs => by rw [yy hs]; exact qJ
theorem nr.rowsOk {lines tags : List (List Int)} {cnt : Nat} (x : nr lines tags cnt) (ch : Bool) : jZ (js lines ch) :=
 p7 x.row (by have := x.c1; exact J1 7 this) (by have := x.s1; exact J4 20 this)
theorem nr.step {lines tags : List (List Int)} {cnt : Nat} (x : nr lines tags cnt) (ch : Bool) {c : Int} (h0 : 0 ≤ c) (h1 : c < cnt) : ∀ s : Nat, s < lines.length → pe (kQ (js lines ch)) (jT lines ch) s c = fL lines s c := by
 intro s
 induction s using Nat.strongRecOn with
 | ind s ih =>
 intro hs
 have hls := x.row _ (jp (L := lines) (d := ([] : List Int)) hs)
 have hlk := sm (x.rowsOk ch) (i := s) (by simp [js]; exact hs) (col := c)
 rw [Dw hs] at hlk
 obtain ⟨k, rfl⟩ : ∃ k : Nat, c = (k : Int) := ⟨c.toNat, by exact J2 2 h0⟩
 rw [vZ Ej hs]
 show (match lG ((kk (js lines ch)).getD s 0) (lP (js lines ch)) (jQ (js lines ch)) ((oI (km (js lines ch))).getD s 0) k with
  | some v => v
  | none => pe (kQ (js lines ch)) (jT lines ch) ((jT lines ch).getD s 0) k) = _
 rw [hlk, yy hs]
 have hfl : ∀ t : Nat, fL lines t k = (lines.getD t []).getD k 0 := fun t => by unfold fL; rw [if_neg (by exact J1 22), ag, ag]
 rw [hfl s]
 unfold kU
 by_cases hp : lT lines ch s = -1
 ·rw [if_pos hp, hp, oB]
  unfold n5
  rw [rj (by exact J4 6 hls h1)]
  by_cases q : (lines.getD s []).getD k 0 = -1
  ·rw [q]; rfl
  ·rw [decide_eq_false q]; rfl
 ·rw [if_neg hp]
  have hr : 0 ≤ lT lines ch s ∧ lT lines ch s < s := (qJ).resolve_left hp
  unfold li
  rw [rj (by exact J4 6 hls h1)]
  obtain ⟨p, hpe⟩ : ∃ p : Nat, lT lines ch s = (p : Int) := ⟨(lT lines ch s).toNat, by exact J4 21 hr⟩
  rw [hpe] at hr ⊢
  rw [ag]
  by_cases q : (lines.getD s []).getD k 0 = (lines.getD p []).getD k 0
  ·rw [decide_eq_true q]
   show pe _ _ (p : Int) (k : Int) = _
   rw [ih p (by exact J4 22 hr) (by exact J23 9 hr hs), hfl p, q]
  ·rw [decide_eq_false q]; rfl
theorem nr.stepOk {lines tags : List (List Int)} {cnt : Nat} (x : nr lines tags cnt) (ch : Bool) : rl (kQ (js lines ch)) (jT lines ch) lines.length cnt (fL lines) where
 arr := by
  have := u3 (x.rowsOk ch)
  rwa [show (js lines ch).length = lines.length by simp [js]] at this
 pk := Ej
 eq := fun s c h0 h1 h2 h3 => by
  by_cases q : s = -1
  ·subst q; rw [oB]; rfl
  ·obtain ⟨t, rfl⟩ : ∃ t : Nat, s = (t : Int) := ⟨s.toNat, by exact J1 21 h0 q⟩
   exact x.step ch h2 h3 t (by exact J0 21 h1)
 rng := fun s c h0 h1 h2 h3 => x.rng h0 h1 h2 h3
theorem yz {lines : List (List Int)} : jT lines false = bd lines.length (-1) := by
 unfold jT
 refine bO (by simp) fun i h1 h2 => ?_
 rw [bk, List.getElem_replicate]; rfl
theorem wp {lines : List (List Int)} : js lines false = lines.map n5 := by
 unfold js
 refine bO (by simp) fun i h1 h2 => ?_
 have h3 : i < lines.length := by simpa using h2
 rw [bk, bk, bL]
 unfold kU
 rw [if_pos (show lT lines false i = -1 from rfl), kD h3]
theorem nr.small {lines tags : List (List Int)} {cnt : Nat} (x : nr lines tags cnt) : rQ (js lines false) cnt where
 row := fun d hd => by
  rw [wp] at hd
  obtain ⟨l, hl, rfl⟩ := az.mp hd
  exact bj kJ (by rw [x.row l hl]; exact aU _)
 all := by rw [show (js lines false).length = lines.length by simp [js]]; exact x.sc
theorem B5 {lines : List (List Int)} {cnt : Nat} (h : ∀ l ∈ lines, l.length = cnt) : ((av lines.length).map fun s => (av cnt).map fun c => fL lines (s : Nat) (c : Nat)) = lines := by
 refine bO (by simp) fun i h1 h2 => ?_
 rw [bk, bL]
 refine bO (by simp [h _ (bJ h2)]) fun j h3 h4 => ?_
 rw [bk, bL]
 unfold fL
 rw [if_neg (by exact J1 22), ag, ag, kD h2, kD h4]
theorem xh {R : List jL} : PV.tup [.lst (jn (kQ R).B), .lst (jn (kQ R).T), .lst (jn (kQ R).C), .lst (jn (kQ R).O)] = GN R := by
 show PV.tup [_, _, _, PV.lst (jn (oI (km R)))] = PV.tup [_, _, _, PV.lst (oY (km R))]
 rw [Eg]; rfl
theorem yA {k : Nat} {f : Int → Int → Int} {tags : List (List Int)} : ∀ {w : List Int} {i : Nat} {st : Int} {b : PV}, oO (k + 2) b → oO (k + 2) (sb f tags w i st b)
 | [], _, _, _, h => h
 | x :: w, i, st, b, h => by
  rw [rn]
  split
  ·exact h
  ·refine yA ?_
   split
   ·exact h
   ·exact sn (pj pQ (pj wi ve))
theorem Dx {lines : List (List Int)} {s : Nat} (hs : s < lines.length) : (av (lines.getD s []).length).map (fun (c : Nat) => PV.int (fL lines s c)) = jn (lines.getD s []) := by
 refine bO (by simp) fun j h1 h2 => ?_
 rw [bk, bk, bL]
 unfold fL
 rw [if_neg (by exact J1 22), ag, ag, kD (by simpa using h2)]
theorem qL (P : PW W) {lines tags : List (List Int)} {cnt : Nat} (x : nr lines tags cnt) {word : List Int} (hw : ∀ c ∈ word, 0 ≤ c ∧ c < cnt) (hwl : word.length = 5) (h : Q (.bool true) H) : jX W (n + 10) H (.ref 704) [j3 lines, n3 tags, .lst (jn word)] Q := by
 have xs0 := x.s0
 have xs1 := x.s1
 have xc := x.c1
 have xt := x.tag
 have hlz : (lines.map fun l => PV.lst (jn l)).length ≤ sizeLine := by rw [aa, am]; exact J1 6 xs1
 have htz : (tags.map fun t => PV.tup (jn t)).length ≤ sizeLine := by rw [aa, am]; exact J23 10 xs1 xt
 wtm_at "def"
 exists jl (jB rfl (D7 P (by kd_mem) (jy (kq (α := List Int) (fun l => .lst (jn l)) (by wtm_at "hcap") (jN ?_)))))
 refine ⟨_, rfl, _, lines, fun l => .lst (jn l), by wtm_at "crho", rfl, by rw [am]; exact J1 6 xs1, fun l hl => ⟨_, by kd_in, lg (wM P (by kd_mem) ?_)⟩, ?_⟩
 ·have hll := x.row l hl
  kd_p
  exact qX Vw.refl (pK (by exact J0 6 xc hll)) fun a => ⟨a, _, _, rfl, rfl, rfl, rfl⟩
 exists jy (lg (wM P (by kd_mem) ?_))
 exists qX Vw.refl htz fun a => ⟨a, _, _, rfl, rfl, ?_⟩
 refine ym P ?_
 kd_p1
 refine jl (k5 (xs := ["plain", "chained"]) rfl (by decide) (.inr rfl) ?_)
 kd_p1
 exists jy (nv P (by kd_mem) ?_)
 refine w8 (n := n) P xs0 (by exact J4 20 xs1) x.row (by exact J1 7 xc) (by exact J0 15 xs1 xt) ?_
 exists jy (nv P (by kd_mem) ?_)
 exists w7 (n := n) P xs0 (by exact J4 20 xs1) x.row (by exact J1 7 xc) (by exact J0 15 xs1 xt) ?_
 exists ⟨_, _, rfl, .cons (by kd_in) (.cons (by kd_in) .nil), ?_⟩
 intro al
 kd_p
 exists mX (α := List Int) ?_
 let I1 : IT jr := fun i Z => Z [cc "lines" (j3 lines), cc "marks" (n3 tags), cc "word" (.lst (jn word)), cu "line", lc "whole" (zm lines tags), lc "plain" (rk (kQ (js lines false)) tags cnt (jT lines false)), lc "chained" (rk (kQ (js lines true)) tags cnt (jT lines true)), lc "live" (.ref al), lu "loose", cu "packed", cu "state", lu "back", lu "last", gb "Dfa", gb "list", gb "pack_dfa", gb "dict", gb "range", gb "len", gb "_law_first_fit", gb "_law_parents", gb "PackedDfa", gb "unpack_dfa", gb "_law_walked"] ((al, .lst (((js lines false).take i).map jU)) :: H)
 refine ⟨lines, fun l => .lst (jn l), rfl, I1, Of.eqH (by rw [ca]; rfl) (fun Z zz => zz), ?_, ?_⟩
 ·rintro i l hl
  have hi := (aA.mp hl).1
  have hll := x.row l (aS hl)
  have hrow : (js lines false)[i]? = some (n5 l) := by rw [wp, ax, hl]; rfl
  have hz := pK (L := l) (by exact J0 6 xc hll)
  have hlen : (((js lines false).take i).map jU).length ≤ sizeLine := by rw [aa, bg, am]; exact J23 11 xs1 hi
  refine ⟨_, by kd_in, ?_⟩
  refine jl (lv rfl (k8 ?_))
  kd_p1
  kd_p1
  kd_p1
  exists vR (sZ P (by kd_mem) (jy (lh (α := Nat) (fun t => !decide (l.getD t 0 = -1)) (fun (t : Nat) => kW ((t : Int), l.getD t 0)) (by wtm_at "hcap") (jM ?_))))
  rw [aa]
  refine ⟨l.length, rfl, by exact J23 12 xc hll, _, av l.length, fun c => .int (c : Nat), by wtm_at "crho", rfl, by rw [aq, am]; exact J1 3 xc hll, fun t ht => ⟨_, by kd_in, ?_⟩, ?_⟩
  ·have ht2 := aM.mp ht
   kd_p
   refine j7 Vw.refl (by exact J0 0) (by exact J0 1 ht2) (by exact J0 6 xc hll) ?_
   rw [ag]
   kd_p
   exists ⟨by simp, rfl, fun _ => ?_⟩
   refine j7 Vw.refl (by exact J0 0) (by exact J0 1 ht2) (by exact J0 6 xc hll) ?_
   rw [ag]
   kd_p
   exact rfl
  ·rw [show ((av l.length).filter fun t => !decide (l.getD t 0 = -1)).map (fun (t : Nat) => kW ((t : Int), l.getD t 0)) = (n5 l).map kW by unfold n5 kj; rw [aW]; rfl]
   exists mh (uu Vw.refl (lZ).nodup (bj kJ (by exact J0 6 xc hll)) fun a => ⟨a, _, _, rfl, rfl, ?_⟩)
   exact jv.nx (by kd_all) (Of.eqH (by rw [j9 hrow, aJ]; rfl) (fun Z zz => zz))
 show lj _ _ _ _ _ _
 rw [show (js lines false).take lines.length = js lines false from br (by simp [js])]
 refine mG (my.frz (r' := [cc "lines" (j3 lines), cc "marks" (n3 tags), cc "word" (.lst (jn word)), cu "line", lc "whole" (zm lines tags), lc "plain" (rk (kQ (js lines false)) tags cnt (jT lines false)), lc "chained" (rk (kQ (js lines true)) tags cnt (jT lines true)), lc "live" (jW (js lines false)), lu "loose", cu "packed", cu "state", lu "back", lu "last", gb "Dfa", gb "list", gb "pack_dfa", gb "dict", gb "range", gb "len", gb "_law_first_fit", gb "_law_parents", gb "PackedDfa", gb "unpack_dfa", gb "_law_walked"]) .one (.same (.same (.same (.same (.same (.same (.same (.rfy (.lst (.head _) .refl) (by kd_all))))))))) mS.refl) ?_
 exists jl (kG (jS ?_))
 exists lx P (x.rowsOk false) x.small ?_
 refine jR (t := GN (js lines false)) 2 (by decide) (by rw [xh]; exact .refl) .refl (by wtm_at "dat") (fun es => by simp) ?_
 kd_p1
 kd_p1
 kd_p1
 exists jl (kG (rp (o9 (jS ?_))))
 intro a1
 kd_p
 refine yW (.lst (.head _)) (by exact J0 0) (by rw [aa]; exact J23 13 xs1) (by simp; exact J1 6 xs1) fun a2 => ?_
 rw [show (bd ((((lines.map fun l => PV.lst (jn l)).length : Nat) : Int)).toNat [PV.int (-1)]).flatten = jn (jT lines false) by rw [ag, aa, yz]; simp]
 wtm_at "w1"
 exists jR (t := .lst (jn (jT lines false))) 1 (by decide) .refl (.lst (.head _) .refl) (by wtm_at "dat") (fun es => by simp) ?_
 exists ⟨_, _, .two, ?_⟩
 exists z9 P x ?_
 exists jR (t := .lst (jn (jT lines true))) 1 (by decide) .refl .refl (by wtm_at "dat") (fun es => by simp) ?_
 have hbl : (kQ (js lines false)).B.length = lines.length := (x.stepOk false).arr.b
 kd_p
 refine zp P (by exact J0 15 xs1 hbl) ?_
 rw [hbl, ← yz]
 wtm_at "w1"
 exists qH (α := Bool) ?_
 let I2 : IT jr := fun i Z => Z [cc "lines" (j3 lines), cc "marks" (n3 tags), cc "word" (.lst (jn word)), cu "line", lc "whole" (zm lines tags), lc "plain" (rk (kQ (js lines false)) tags cnt (jT lines false)), lc "chained" (rk (kQ (js lines true)) tags cnt (jT lines true)), lc "live" (jW (js lines false)), lc "loose" (rk (kQ (js lines false)) tags cnt (jT lines false)), cu "packed", cu "state", lu "back", lu "last", gb "Dfa", gb "list", gb "pack_dfa", gb "dict", gb "range", gb "len", gb "_law_first_fit", gb "_law_parents", gb "PackedDfa", gb "unpack_dfa", gb "_law_walked"] H
 refine ⟨[false, true, false], fun ch => (rk (kQ (js lines ch)) tags cnt (jT lines ch)), rfl, I2, fun Z zz => zz, ?_, ?_⟩
 ·rintro i ch _
  have hst := x.stepOk ch
  refine ⟨_, by kd_in, ?_⟩
  exists jl (jG ?_)
  rw [aa]
  let I3 : IT jr := fun i Z => Z [cc "lines" (j3 lines), cc "marks" (n3 tags), cc "word" (.lst (jn word)), cu "line", lc "whole" (zm lines tags), lc "plain" (rk (kQ (js lines false)) tags cnt (jT lines false)), lc "chained" (rk (kQ (js lines true)) tags cnt (jT lines true)), lc "live" (jW (js lines false)), lc "loose" (rk (kQ (js lines false)) tags cnt (jT lines false)), cc "packed" (rk (kQ (js lines ch)) tags cnt (jT lines ch)), cu "state", lu "back", lu "last", gb "Dfa", gb "list", gb "pack_dfa", gb "dict", gb "range", gb "len", gb "_law_first_fit", gb "_law_parents", gb "PackedDfa", gb "unpack_dfa", gb "_law_walked"] H
  refine ⟨lines.length, rfl, by exact J3 5 xs1, I3, fun Z zz => zz, ?_, ?_⟩
  ·rintro s hs
   have hls := x.row _ (jp (L := lines) (d := ([] : List Int)) hs)
   have hl0 := x.row _ (jp (L := lines) (d := ([] : List Int)) xs0)
   refine ⟨_, by kd_in, ?_⟩
   exists jl (kG (jS (kq (α := Nat) (fun c => .int (fL lines s c)) (by wtm_at "hcap") (jM ?_))))
   refine kA Vw.refl (by exact J4 16) (by exact J8 21 xs0) (by exact J8 22) ?_
   have hl1 := pK (L := lines.getD (0 : Int).toNat []) (by rw [show (0 : Int).toNat = 0 from rfl]; exact J0 6 xc hl0)
   kd_p
   rw [aa, show (0 : Int).toNat = 0 from rfl, hl0]
   refine ⟨cnt, rfl, by exact J1 5 xc, _, av cnt, fun c => .int (c : Nat), by wtm_at "crho", rfl, by rw [aq, am]; exact J2 5 xc, fun c hc => ⟨_, by kd_in, ?_⟩, ?_⟩
   ·have hc2 := aM.mp hc
    kd_p
    refine n4 P hst.arr hst.pk (by exact J1 15) (by exact J0 23 hs) ?_
    rw [hst.eq _ _ (by exact J1 15) (by exact J0 23 hs) (by exact J0 0) (by exact J0 23 hc2)]
    exact ⟨rfl, rfl⟩
   ·kd_p
    refine kA Vw.refl (by exact J0 0) (by exact J0 1 hs) (by exact J4 18 xs1 hs) ?_
    rw [ag, show (av cnt).map (fun (c : Nat) => PV.int (fL lines s c)) = jn (lines.getD s []) by
     rw [← hls]; exact Dx hs]
    exists jR 1 (by decide) .refl .refl (by wtm_at "dat") (fun es => by simp) ?_
    exact jv.nx (by kd_all) (fun Z zz => zz)
  show lj _ _ _ _ _ _
  kd_p1
  kd_p1
  exists nv P (by kd_mem) ?_
  refine u7 P hst (by exact J8 23 xc) (by exact J0 15 xs1 xt) ?_
  rw [B5 x.row]
  kd_p
  exists jR 2 (by decide) .refl .refl (by wtm_at "dat") (fun es => by simp) ?_
  exists jR 2 (by decide) .refl .refl (by wtm_at "dat") (fun es => by simp) ?_
  refine n4 P hst.arr hst.pk (by exact J8 18) (by exact J8 19) ?_
  rw [oB]
  kd_p
  refine jA.neg (by exact J23 14) ?_
  wtm_at "w1"
  kd_p1
  kd_p1
  exists jl (kG (rp (jS (kq (α := Nat) (fun ld => sb (fL lines) tags (word.drop ld) ld 0 .none) (by wtm_at "hcap") (tb ?_)))))
  refine ⟨_, rfl, _, [0, 2], fun (i : Nat) => .int (i : Nat), by wtm_at "crho", rfl, by rw [am]; decide, fun c hc => ⟨_, by kd_in, ?_⟩, ?_⟩
  ·kd_p
   refine u6 P hst xs0 xt hw (by exact J23 15 hwl) ?_
   exact ⟨rfl, rfl⟩
  exists kq (α := Nat) (fun ld => sb (fL lines) tags (word.drop ld) ld 0 .none) (by wtm_at "hcap") (tb ?_)
  refine ⟨_, rfl, _, [0, 2], fun (i : Nat) => .int (i : Nat), by wtm_at "crho", rfl, by rw [am]; decide, fun c hc => ⟨_, by kd_in, ?_⟩, ?_⟩
  ·have hc2 : c ≤ 2 := by simp at hc; exact J23 16 hc
   exists nv P (by kd_mem) ?_
   refine xg P x hw (by exact J23 17 hwl) (by exact J23 18 hc2 hwl) ?_
   exact ⟨rfl, rfl⟩
  exists jR 4 (by decide) .refl .refl (kX fun _ => yA B2) (fun es => by simp) ?_
  exists tw P hst.arr ?_
  rw [aa]
  refine jA.neg (by exact J23 19) ?_
  kd_p1
  kd_p1
  kd_p1
  exists De P 1 ?_
  refine B4 P x hw ?_
  have hrn := qI hst (word := word) (s := 0) hw (by exact J1 23) (by exact J0 14 xs0)
  wtm_at "w1"
  wtm_at "mo"
  exists v7 P hst xs0 hw ?_
  refine jA.neg (by exact J9 0) ?_
  generalize hlast : sa (fL lines) word 0 = last at *
  wtm_at "mo"
  refine u5 P hst xs0 xt hw ?_
  rw [hlast]
  refine Ev.mono (Q := fun v H' => v = .tup (jn (v8 tags last)) ∧ H' = H) (qh (jS ?_)) ?_
  ·kd_p
   refine jA.dec (fun h2 => ?_) fun h2 => ?_
   ·kd_p
    refine rm Vw.refl (by exact J1 2 hrn h2) (by exact J1 13 hrn xt xs0) (by exact J4 17 xs1 hrn) ?_
    unfold v8
    rw [if_neg h2]
    exact ⟨rfl, rfl⟩
   ·kd_p
    unfold v8
    rw [if_pos (by exact J1 1 h2)]
    exact ⟨rfl, rfl⟩
  rintro _ _ ⟨rfl, rfl⟩
  refine jR 1 (by decide) .refl .refl (by wtm_at "dat") (fun es => by simp) ?_
  kd_p1
  kd_p1
  kd_p1
  kd_p1
  kd_p1
  exists jl (kG (jS (kq (α := Nat) (fun s => .lst (jn (mf (jT lines ch) s))) (by wtm_at "hcap") (jM ?_))))
  rw [aa]
  refine ⟨lines.length, rfl, by exact J3 5 xs1, _, av lines.length, fun c => .int (c : Nat), by wtm_at "crho", rfl, by rw [aq, am]; exact J1 6 xs1, fun s hs => ⟨_, by kd_in, ?_⟩, ?_⟩
  ·have hs2 := aM.mp hs
   kd_p
   refine w5 P hst.pk (by exact J23 20 xs1) (by exact J1 15) (by exact J0 23 hs2) ?_
   exact ⟨rfl, rfl⟩
  exists kq (α := Nat) (fun s => .lst (jn (mf (jT lines ch) s))) (by wtm_at "hcap") (jM ?_)
  rw [aa]
  refine ⟨lines.length, rfl, by exact J3 5 xs1, _, av lines.length, fun c => .int (c : Nat), by wtm_at "crho", rfl, by rw [aq, am]; exact J1 6 xs1, fun s hs => ⟨_, by kd_in, ?_⟩, ?_⟩
  ·have hs2 := aM.mp hs
   exists nv P (by kd_mem) ?_
   refine wo P hst.pk (by exact J23 21 xs1) hs2 ?_
   exact ⟨rfl, rfl⟩
  exists jR 2 (by decide) .refl .refl (by wtm_at "dat") (fun es => by simp) ?_
  exact jv.nx (by kd_all) (fun Z zz => zz)
 show lj _ _ _ _ _ _
 exists jl (jP (m5 ?_))
 refine qo 4 (by decide) .refl .refl (by wtm_at "dat") ?_
 exact h
structure B6 (B T C O : List Int) (many : Nat) (cols : Int) : Prop where
 b : B.length = many
 o : O.length = many
 t : T.length = C.length
 ow : ∀ r : Nat, r < many → 0 ≤ O.getD r 0 ∧ O.getD r 0 < many
 ck : ∀ c : Nat, c < C.length → 0 ≤ C.getD c 0 ∧ C.getD c 0 ≤ many
 m : many ≤ 10
 c : C.length ≤ 10
theorem B7 {B T C : List Int} {j : Int} : jw B T C j C.length = [] ↔ (C.any (· == j + 1)) = false := by
 rw [← iJ, bN]
 unfold jw
 rw [List.filterMap_eq_nil_iff]
 constructor
 ·rintro q ⟨v, hv, e⟩
  obtain ⟨i, hi, rfl⟩ := List.mem_iff_getElem.mp hv
  have := q i (aM.mpr hi)
  rw [kD hi, if_pos (by simpa using e)] at this
  cases this
 ·intro q i hi
  have hi2 := aM.mp hi
  rw [kD hi2, if_neg fun z => q ⟨_, bJ hi2, by simpa using z⟩]
theorem tB {O : List Int} {row : Nat} {o : Int} : (((((av (row + 1)).filter fun r => decide (O.getD r 0 = (r : Int))).map fun (r : Nat) => (r : Int)).any (· == o)) = true) ↔ (0 ≤ o ∧ o ≤ row ∧ O.getD o.toNat 0 = o) := by
 rw [bN]
 constructor
 ·rintro ⟨v, hv, e⟩
  obtain ⟨r, hr, rfl⟩ := az.mp hv
  obtain ⟨h1, h2⟩ := bz.mp hr
  have h1 := aM.mp h1
  have h2 := of_decide_eq_true h2
  have e : (r : Int) = o := by simpa using e
  subst e
  exact ⟨by exact J0 0, by exact J23 22 h1, by rw [ag]; exact h2⟩
 ·rintro ⟨h0, h1, h2⟩
  obtain ⟨r, rfl⟩ : ∃ r : Nat, o = (r : Int) := ⟨o.toNat, by exact J2 2 h0⟩
  rw [ag] at h2
  exact ⟨_, az.mpr ⟨r, bz.mpr ⟨aM.mpr (by exact J23 23 h1), decide_eq_true h2⟩, rfl⟩, by simp⟩
theorem xi (P : PW W) {B T C O : List Int} {many : Nat} {cols : Int} (x : B6 B T C O many cols) (h : ∀ b : Bool, (b = true ↔ ni B T C O many cols) → Q (.bool b) H) : jX W (n + 1) H (.ref 709) [.lst (jn B), .lst (jn T), .lst (jn C), .lst (jn O), .int cols] Q := by
 have xb := x.b
 have xo := x.o
 have xt := x.t
 have xm := x.m
 have xc := x.c
 wtm_at "def"
 exists jl (m7 (tt := true) (fun _ => rfl) (vE (by kd_mem) (qw P) (by decide +kernel) (by with_unfolding_all rfl) ?_ (by decide +kernel)))
 let I1 : IT jr := fun i Z => (∀ r : Nat, r < i → mK B O r ∧ (jw B T C (O.getD r 0) C.length = [] → B.getD r 0 = 0)) → Z [lc "bases" (.lst (jn B)), lc "table" (.lst (jn T)), lc "check" (.lst (jn C)), cc "owners" (.lst (jn O)), lc "columns" (.int cols), lu "row", lu "owner", lu "cell", lu "mark", gb "enumerate", gb "range"] H
 refine ⟨_, rfl, uI.T I1 (fun Z zz => zz (fun r hr => by lia)) ?_ ?_⟩
 ·rintro i p hp hs
  obtain ⟨v, hv, rfl⟩ := qU hp
  rw [ax] at hv
  obtain ⟨o, ho, rfl⟩ := bc.mp hv
  have hi := (aA.mp ho).1
  have hoe : O.getD i 0 = o := by rw [aL, ho]; rfl
  have how := x.ow i (by exact J0 12 xo hi)
  rw [hoe] at how
  have key : ni B T C O many cols → mK B O i ∧ (jw B T C (O.getD i 0) C.length = [] → B.getD i 0 = 0) := fun y => ⟨y.1.2.2 i (by exact J0 12 xo hi), y.2.2 i (by exact J0 12 xo hi)⟩
  unfold mK at key
  rw [hoe] at key
  refine mU (xs := ["row", "owner"]) (ps := [.int (i : Nat), .int o]) Vw.refl rfl (.cons (by kd_in) (.cons (by kd_in) .nil)) ?_
  refine jl (kG (Tv.mono (Q' := fun b H' => H' = H ∧ (b = true ↔ ¬ (0 ≤ o ∧ o ≤ i ∧ O.getD o.toNat 0 = o ∧ B.getD i 0 = B.getD o.toNat 0))) (rp (jS ?_)) ?_))
  ·kd_p
   exists lh (α := Nat) (fun r => decide (O.getD r 0 = (r : Int))) (fun r => .int (r : Nat)) (by wtm_at "hcap") (jM ?_)
   rw [show ((i : Nat) : Int) + 1 = ((i + 1 : Nat) : Int) by exact J2 0]
   refine ⟨i + 1, rfl, by exact J24 0 xm xo hi, _, av (i + 1), fun c => .int (c : Nat), by wtm_at "crho", rfl, by rw [aq, am]; exact J24 1 xm xo hi, fun r hr => ⟨_, by kd_in, ?_⟩, ?_⟩
   ·have hr2 := aM.mp hr
    kd_p
    refine j7 Vw.refl (by exact J0 0) (by exact J24 2 hi hr2) (by exact J0 15 xm xo) ?_
    rw [ag]
    kd_p
    intro _
    kd_p
    exact rfl
   refine A1 (ns := ((av (i + 1)).filter fun r => decide (O.getD r 0 = (r : Int))).map fun (r : Nat) => (r : Int)) (by rw [aW]; exact Vw.refl) ?_
   kd_p
   refine jA.by (fun h1 => ?_) fun h1 => ?_
   ·exact ⟨rfl, nN rfl fun z => by
     rw [tB.mpr ⟨z.1, z.2.1, z.2.2.1⟩] at h1; cases h1⟩
   ·have h1 := tB.mp (by simpa using h1)
    kd_p
    refine j7 Vw.refl (by exact J0 0) (by exact J9 1 xo xb hi) (by exact J0 15 xm xb) ?_
    rw [ag]
    kd_p
    exists j7 Vw.refl (by exact J24 3 how) (by exact J24 4 h1 xb xo hi) (by exact J0 15 xm xb) ?_
    refine jA.dec (fun h2 => ?_) fun h2 => ?_
    ·exact ⟨rfl, nN rfl fun z => h2 z.2.2.2⟩
    ·kd_p
     exact j0 rfl fun z => z ⟨h1.1, h1.2.1, h1.2.2, by simpa using h2⟩
  rintro b H' ⟨rfl, hb⟩
  refine jA.by (fun h1 => ?_) fun h1 => ?_
  ·kd_p
   exact h _ (j0 rfl fun y => hb.mp h1 (key y).1)
  have h1 : 0 ≤ o ∧ o ≤ i ∧ O.getD o.toNat 0 = o ∧ B.getD i 0 = B.getD o.toNat 0 := Decidable.of_not_not fun z => by rw [hb.mpr z] at h1; cases h1
  have nx : (jw B T C o C.length = [] → B.getD i 0 = 0) → ∀ r : Nat, r < i + 1 → mK B O r ∧ (jw B T C (O.getD r 0) C.length = [] → B.getD r 0 = 0) := fun z r hr => by
   by_cases e : r = i
   ·subst e
    unfold mK
    rw [hoe]
    exact ⟨h1, z⟩
   ·exact hs r (by exact J0 11 hr e)
  rw [B7] at key nx
  kd_p
  exists A1 (ns := C) Vw.refl ?_
  by_cases h2 : C.any (· == o + 1) = true
  ·rw [h2]
   exists jA.ff ?_
   exact jv.nx (by kd_all) (fun Z zz => zz (nx fun z => by rw [h2] at z; cases z))
  ·have h2 : C.any (· == o + 1) = false := (iJ _).mp h2
   rw [h2]
   exists jA.tt ?_
   refine j7 Vw.refl (by exact J0 0) (by exact J9 1 xo xb hi) (by exact J0 15 xm xb) ?_
   rw [ag]
   kd_p
   refine jA.dec (fun h3 => ?_) fun h3 => ?_
   ·kd_p
    exact h _ (j0 rfl fun y => h3 ((key y).2 h2))
   ·kd_p
    exact jv.nx (by kd_all) (fun Z zz => zz (nx fun _ => by simpa using h3))
 rintro hs
 have hs : ∀ r : Nat, r < many → mK B O r ∧ (jw B T C (O.getD r 0) C.length = [] → B.getD r 0 = 0) := fun r hr => hs r (by rw [mV, aa]; exact J0 4 xo hr)
 exists jl (m7 (tt := true) (fun _ => rfl) (vE (by kd_mem) (qw P) (by decide +kernel) (by with_unfolding_all rfl) ?_ (by decide +kernel)))
 let I2 : IT jr := fun i Z => (∀ c : Nat, c < i → kR B T C O cols c) → Z [lc "bases" (.lst (jn B)), lc "table" (.lst (jn T)), lc "check" (.lst (jn C)), cc "owners" (.lst (jn O)), lc "columns" (.int cols), lu "row", lu "owner", lu "cell", lu "mark", gb "enumerate", gb "range"] H
 refine ⟨_, rfl, uI.T I2 (fun Z zz => zz (fun r hr => by lia)) ?_ ?_⟩
 ·rintro i p hp hc
  obtain ⟨v, hv, rfl⟩ := qU hp
  rw [ax] at hv
  obtain ⟨o, ho, rfl⟩ := bc.mp hv
  have hi := (aA.mp ho).1
  have hoe : C.getD i 0 = o := by rw [aL, ho]; rfl
  have hck := x.ck i hi
  have key : ni B T C O many cols → kR B T C O cols i := fun y => y.2.1.2.2 i hi
  unfold kR at key
  rw [hoe] at hck key
  have nx : (o = 0 → T.getD i 0 = 0) → (o ≠ 0 → O.getD (o - 1).toNat 0 = o - 1 ∧ 0 ≤ (i : Int) - B.getD (o - 1).toNat 0 ∧ (i : Int) - B.getD (o - 1).toNat 0 < cols) → ∀ c : Nat, c < i + 1 → kR B T C O cols c := fun q1 q2 c hcc => by
   by_cases e : c = i
   ·subst e; unfold kR; rw [hoe]; exact ⟨hck.1, by exact J24 5 hck xo, q1, q2⟩
   ·exact hc c (by exact J0 11 hcc e)
  exists mU (xs := ["cell", "mark"]) (ps := [.int (i : Nat), .int o]) Vw.refl rfl (.cons (by kd_in) (.cons (by kd_in) .nil)) ?_
  refine jA.dec (fun h1 => ?_) fun h1 => ?_
  ·kd_p
   refine j7 Vw.refl (by exact J0 0) (by exact J0 2 xt hi) (by exact J0 15 xc xt) ?_
   rw [ag]
   kd_p
   refine jA.dec (fun h2 => ?_) fun h2 => ?_
   ·kd_p
    exact h _ (j0 rfl fun y => h2 ((key y).2.2.1 h1))
   ·kd_p
    exists jA.neg (by exact J24 6 h1) ?_
    exact jv.nx (by kd_all) (fun Z zz => zz (nx (fun _ => by simpa using h2) fun z => absurd h1 z))
  ·kd_p
   exists jA.pos h1 ?_
   exists j7 Vw.refl (by exact J9 2 hck h1) (by exact J9 3 hck xo h1) (by exact J0 15 xm xo) ?_
   refine jA.dec (fun h2 => ?_) fun h2 => ?_
   ·kd_p
    exact h _ (j0 rfl fun y => h2 ((key y).2.2.2 h1).1)
   kd_p
   exists j7 Vw.refl (by exact J9 2 hck h1) (by exact J9 3 hck xb h1) (by exact J0 15 xm xb) ?_
   exists EF ?_
   by_cases h3 : 0 ≤ (i : Int) - B.getD (o - 1).toNat 0 ∧ (i : Int) - B.getD (o - 1).toNat 0 < cols
   ·rw [decide_eq_true h3.1, decide_eq_true h3.2]
    exists jA.ff ?_
    exact jv.nx (by kd_all) (fun Z zz => zz (nx (fun z => absurd z h1) fun z => ⟨by simpa using h2, h3⟩))
   ·rw [show (decide (0 ≤ (i : Int) - B.getD (o - 1).toNat 0) && decide ((i : Int) - B.getD (o - 1).toNat 0 < cols)) = false by rw [← iW]; exact decide_eq_false h3]
    exists jA.tt ?_
    exact h _ (j0 rfl fun y => h3 ((key y).2.2.2 h1).2)
 rintro hc
 have hc : ∀ c : Nat, c < C.length → kR B T C O cols c := fun r hr => hc r (by rw [mV, aa]; exact J5 14 hr)
 have hsR : tm B O many := ⟨xb, xo, fun r hr => (hs r hr).1⟩
 exists jl (jP (kP (Bn (m5 ?_))))
 intro ae
 kd_p
 refine CU Vw.refl (.lst (.head _)) ?_
 rw [show (jn C).isEmpty = decide (C = []) by cases C <;> simp]
 refine ⟨_, rfl, jA.dec (fun h1 => ?_) fun h1 => ?_⟩
 ·refine ⟨_, _, .one, h _ (nN rfl ⟨hsR, ⟨xt, .inl h1, hc⟩, fun r hr => (hs r hr).2⟩)⟩
 ·have hpos := bI.mpr h1
  kd_p
  refine nW (x := .int (mQ C)) Vw.refl (by decide) (by rw [aa]; exact J3 22 hpos) (by rw [show (jn C).length = C.length by simp]; exact pB (uZ h1)) (by decide) ?_
  kd_p
  refine ⟨_, _, .one, h _ ?_⟩
  rw [decide_eq_true_iff]
  exact ⟨fun z => ⟨hsR, ⟨xt, .inr z, hc⟩, fun r hr => (hs r hr).2⟩, fun y => y.2.1.2.1.resolve_left h1⟩
theorem wq {B T C : List Int} {j : Int} {n : Nat} {x : Int × Int} : x ∈ jw B T C j n ↔ ∃ c : Nat, c < n ∧ C.getD c 0 = j + 1 ∧ x = ((c : Int) - B.getD j.toNat 0, T.getD c 0) := by
 unfold jw
 rw [fq]
 constructor
 ·rintro ⟨c, hc, e⟩
  split at e
  ·rename_i h; exact ⟨c, aM.mp hc, h, (bD e).symm⟩
  ·cases e
 ·rintro ⟨c, hc, h, rfl⟩
  exact ⟨c, aM.mpr hc, by rw [if_pos h]⟩
theorem B8 {B T C : List Int} {j b : Int} (hb : b = B.getD j.toNat 0) (ht : T.length = C.length) {col : Int} : lG b T C j col = jz (jw B T C j C.length) col := by
 have key : ∀ v, jz (jw B T C j C.length) col = some v ↔ ∃ c : Nat, c < C.length ∧ C.getD c 0 = j + 1 ∧ (col, v) = ((c : Int) - B.getD j.toNat 0, T.getD c 0) := fun v => by
  rw [← wq]
  exact ⟨fun h => ls h, fun h => mJ.get h⟩
 have hnone : (∀ v, ¬ ∃ c : Nat, c < C.length ∧ C.getD c 0 = j + 1 ∧ (col, v) = ((c : Int) - B.getD j.toNat 0, T.getD c 0)) → jz (jw B T C j C.length) col = none := fun h => by
  cases e : jz (jw B T C j C.length) col with
  | none => rfl
  | some v => exact absurd ((key v).mp e) (h v)
 rw [← hb] at key hnone
 unfold lG
 by_cases h1 : b + col < 0
 ·rw [if_pos h1, hnone]
  rintro v ⟨c, h2, h3, h4⟩
  have := (iP h4).1; lia
 rw [if_neg h1]
 have hbc : (((b + col).toNat : Nat) : Int) = b + col := bP (by exact J3 2 h1)
 by_cases h2 : (b + col).toNat < C.length
 ·rw [jK (d := (0 : Int)) h2, jK (L := T) (d := (0 : Int)) (by exact J24 7 ht h2)]
  simp only
  split
  ·rename_i h3
   exact ((key _).mpr ⟨_, h2, h3, by rw [hbc]; congr 1; exact J24 8⟩).symm
  ·rename_i h3
   rw [hnone]
   rintro v ⟨c, h4, h5, h6⟩
   have := (iP h6).1
   rw [show (b + col).toNat = c by lia] at h3
   exact h3 h5
 ·rw [a9 (by exact J8 3 h2), hnone]
  rintro v ⟨c, h4, h5, h6⟩
  have := (iP h6).1; lia
theorem B9 {B T C O : List Int} {r : Nat} (h : r < O.length) : (lV B T C O).getD r [] = jw B T C (O.getD r 0) C.length := by
 unfold lV
 rw [kD (by simpa using h), kD h, bk]
theorem rh.keys {B T C O : List Int} {cols : Int} (y : rh B T C O cols) {o : Int} (h0 : 0 ≤ o) : ∀ p ∈ jw B T C o C.length, 0 ≤ p.1 ∧ p.1 < cols := fun p hp => by
 obtain ⟨c, h1, h2, rfl⟩ := wq.mp hp
 have := ((y.2.2 c h1).2.2.2 (by exact J24 9 h0 h2)).2
 rw [h2, show o + 1 - 1 = o by exact J24 10] at this
 exact this
theorem ni.rows {B T C O : List Int} {many : Nat} {cols : Int} (y : ni B T C O many cols) (hm : many < 64) (hc : C.length < 64) (hcol : cols ≤ 64) : jZ (lV B T C O) where
 row := fun d hd => by
  obtain ⟨o, ho, rfl⟩ := az.mp hd
  have h0 : 0 ≤ o := ((ni.arr y.1 y.2.1 hm (by exact J0 13 hc)).own o ho).1
  have hk := y.2.1.keys h0
  exact ⟨mJ, fun p hp => (hk p hp).1, fun p hp => by have := (hk p hp).2; exact J24 11 hcol this, bH nC hc⟩
 len := by unfold lV; rw [aa, y.1.2.1]; exact hm
theorem Ca (P : PW W) {K : HO → HH} {p : Addr} (U : ∀ o o', kO p o o' (K o) (K o')) {ns : List Int} {sp gr : Int} (hz : ns.length ≤ 64) (h0 : 0 ≤ sp) (h1 : sp ≤ 500000) (hg : 0 ≤ gr)
  (hq : ∀ (sp' gr' : Int), 0 ≤ sp' → sp' ≤ sp + 1000 → 0 ≤ gr' → Q (.bool true) (K (ko ns sp' gr'))) : jX W (n + 9) (K (ko ns sp gr)) (.ref 714) [.ref p] Q := by
 wtm_at "def"
 exists jl (k5 (xs := ["many", "columns"]) rfl (by decide) (.inr rfl) ?_)
 exists kc P U hz h0 (by exact J3 0 h1) hg (by decide) (by decide) fun d1 sp1 gr1 a0 a1 s0 s1 g1 => ?_
 exists kc P U hz s0 (by exact J4 14 s1 h1) g1 (by decide) (by decide) fun d2 sp2 gr2 b0 b1 s2 s3 g2 => ?_
 refine ⟨_, _, rfl, .cons (by kd_in) (.cons (by kd_in) .nil), ?_⟩
 obtain ⟨many, rfl⟩ : ∃ many : Nat, d1 = (many : Int) - 1 := ⟨(d1 + 1).toNat, by exact J24 12 a0⟩
 rw [show (1 : Int) + ((many : Int) - 1) = (many : Nat) by exact J24 13]
 generalize hcol : (1 : Int) + d2 = cols
 wtm_at "mo"
 refine nv P (by kd_mem) ?_
 wtm_at "mo"
 refine kc P U hz s2 (by exact J24 14 s3 s1 h1) g2 (by decide) (by decide) fun size sp3 gr3 c0 c1 s4 s5 g3 => ?_
 obtain ⟨size, rfl⟩ : ∃ s : Nat, size = (s : Int) := ⟨size.toNat, by exact J2 2 c0⟩
 kd_p1
 exists jl (p8 (α := Nat) (by wtm_at "hcap") (jM ?_))
 let I1 : IT (List PV) := fun i Z => ∀ (l : List Int) (sp' gr' : Int), 0 ≤ sp' → sp' ≤ sp3 + i → 0 ≤ gr' → Z (jn l) (K (ko ns sp' gr'))
 refine ⟨many, rfl, by exact J4 23 a1, _, av many, fun c => .int (c : Nat), I1, by wtm_at "crho", rfl, by rw [aq, am]; exact J9 4 a1, fun Z zz => zz [] sp3 gr3 s4 (by exact J0 18) g3, ?_, ?_⟩
 ·rintro j c hc l sp5 gr5 s8 s9 g5 hyl
  refine ⟨_, by kd_in, kP (nv P (by kd_mem) ?_)⟩
  have hj := (aA.mp hc).1
  rw [aq] at hj
  kd_p
  intro a4
  kd_p
  refine oC (K := fun o => (a4, .lst (jn [0, 0, 1, 0 - 1])) :: K o) P (fun o o' => .tail (U o o')) (fun o => .lst (.head _)) (by decide) (by decide) hz s8 (by exact J24 15 s5 s3 s1 s9 h1 a1 hj) g5 fun x hx sp6 gr6 s10 s11 g6 => ?_
  obtain ⟨v, hv, rfl⟩ := az.mp hx
  refine ⟨_, _, .one, ?_⟩
  exact Of.eq (by simp) (fun Z zz => zz (l ++ [v]) sp6 gr6 s10 (by exact J0 19 s11 s9) g6)
 rintro B sp4 gr4 s6 s7 g4 hyl
 rw [aa, aq] at hyl
 rw [aq] at s7
 kd_p1
 exists jl (p8 (α := Nat) (by wtm_at "hcap") (jM ?_))
 let I2 : IT (List PV) := fun i Z => ∀ (l : List Int) (sp' gr' : Int), (∀ v ∈ l, 0 ≤ v ∧ v < many) → 0 ≤ sp' → sp' ≤ sp4 + i → 0 ≤ gr' → Z (jn l) (K (ko ns sp' gr'))
 refine ⟨many, rfl, by exact J4 23 a1, _, av many, fun c => .int (c : Nat), I2, by wtm_at "crho", rfl, by rw [aq, am]; exact J9 4 a1, fun Z zz => zz [] sp4 gr4 (by simp) s6 (by exact J0 18) g4, ?_, ?_⟩
 ·rintro j c hc l sp5 gr5 hl s8 s9 g5 hyl
  have hj2 := aM.mp (aS hc)
  have hj := (aA.mp hc).1
  rw [aq] at hj
  exists ⟨_, by kd_in, kP (nv P (by kd_mem) ?_)⟩
  intro a4
  kd_p
  refine oC (K := fun o => (a4, .lst (jn [(c : Int), (c : Int), 0, (many : Int) - 1])) :: K o) P (fun o o' => .tail (U o o')) (fun o => .lst (.head _)) (by simp) (by simp) hz s8 (by exact J24 16 s3 s5 s1 s7 s9 h1 a1 hj) g5 fun x hx sp6 gr6 s10 s11 g6 => ?_
  obtain ⟨v, hv, rfl⟩ := az.mp hx
  refine ⟨_, _, .one, ?_⟩
  refine Of.eq (by simp) (fun Z zz => zz (l ++ [v]) sp6 gr6 (fun z hzz => ?_) s10 (by exact J0 19 s11 s9) g6)
  rcases aQ.mp hzz with hzz | hzz
  ·exact hl z hzz
  ·simp only [au, bw, or_false] at hzz hv
   subst hzz
   rcases hv with rfl | rfl | rfl | rfl <;> lia
 rintro O sp5 gr5 hO s8 s9 g5 hyO
 rw [aa, aq] at hyO
 rw [aq] at s9
 kd_p1
 exists jl (p8 (α := Nat) (by wtm_at "hcap") (jM ?_))
 let I3 : IT (List PV) := fun i Z => ∀ (l : List Int) (sp' gr' : Int), (∀ v ∈ l, 0 ≤ v ∧ v ≤ many) → 0 ≤ sp' → sp' ≤ sp5 + i → 0 ≤ gr' → Z (jn l) (K (ko ns sp' gr'))
 refine ⟨size, rfl, by exact J9 5 c1, _, av size, fun c => .int (c : Nat), I3, by wtm_at "crho", rfl, by rw [aq, am]; exact J9 6 c1, fun Z zz => zz [] sp5 gr5 (by simp) s8 (by exact J0 18) g5, ?_, ?_⟩
 ·rintro j c hc l sp6 gr6 hl s10 s11 g6 hyl
  have hj := (aA.mp hc).1
  rw [aq] at hj
  exists ⟨_, by kd_in, nv P (by kd_mem) ?_⟩
  refine kc P U hz s10 (by exact J24 17 s1 s5 s3 s7 s11 s9 h1 c1 a1 hj) g6 (by exact J4 15) (by exact J24 18 a1) fun d sp7 gr7 e0 e1 s12 s13 g7 => ?_
  refine Of.eq (by simp) (fun Z zz => zz (l ++ [d]) sp7 gr7 (fun z hzz => ?_) s12 (by exact J0 19 s13 s11) g7)
  rcases aQ.mp hzz with hzz | hzz
  ·exact hl z hzz
  ·simp only [au, bw, or_false] at hzz
   subst hzz; exact J24 19 e0 e1
 rintro C sp6 gr6 hC s10 s11 g6 hyC
 rw [aa, aq] at hyC
 rw [aq] at s11
 kd_p1
 exists jl (p8 (α := Int) (by wtm_at "hcap") (jN ?_))
 let I4 : IT (List PV) := fun i Z => ∀ (l : List Int) (sp' gr' : Int), 0 ≤ sp' → sp' ≤ sp6 + 2 * i → 0 ≤ gr' → Z (jn l) (K (ko ns sp' gr'))
 refine ⟨_, rfl, _, C, PV.int, I4, by wtm_at "crho", rfl, by rw [am]; exact J24 20 hyC c1, fun Z zz => zz [] sp6 gr6 s10 (by exact J5 0) g6, ?_, ?_⟩
 ·rintro j c hc l sp7 gr7 s12 s13 g7 hyl
  have hj := (aA.mp hc).1
  refine ⟨_, by kd_in, qh (Tv.mono (Q' := fun b H' => ∃ sp' gr' : Int, H' = K (ko ns sp' gr') ∧ 0 ≤ sp' ∧ sp' ≤ sp7 + 1 ∧ 0 ≤ gr') (rp (jS ?_)) ?_)⟩
  ·kd_p
   refine jA.dec (fun h2 => ?_) fun h2 => ?_
   ·exact ⟨sp7, gr7, rfl, s12, by exact J2 23, g7⟩
   ·kd_p
    exists kc P U hz s12 (by exact J24 21 s1 s5 s3 s7 s11 s9 s13 h1 hyC c1 a1 hj) g7 (by decide) (by decide) fun d sp8 gr8 e0 e1 s14 s15 g8 => ?_
    refine jA.by (fun _ => ?_) fun _ => ?_
    ·exact ⟨sp8, gr8, rfl, s14, s15, g8⟩
    ·kd_p
     exact ⟨sp8, gr8, rfl, s14, s15, g8⟩
  rintro b _ ⟨sp8, gr8, rfl, s14, s15, g8⟩
  refine jA.by (fun _ => ?_) fun _ => ?_
  ·kd_p
   exists kc P U hz s14 (by exact J24 22 s3 s15 s1 s5 s7 s11 s9 s13 h1 hyC c1 a1 hj) g8 (by decide) (by decide) fun d sp9 gr9 e0 e1 s16 s17 g9 => ?_
   exact Of.eq (by simp) (fun Z zz => zz (l ++ [d]) sp9 gr9 s16 (by exact J2 6 s17 s15 s13) g9)
  ·kd_p
   exact Of.eq (by simp) (fun Z zz => zz (l ++ [0]) sp8 gr8 s14 (by exact J3 6 s15 s13) g8)
 rintro T sp7 gr7 s12 s13 g7 hyT
 rw [aa] at hyT
 have hq' : Q (.bool true) (K (ko ns sp7 gr7)) := hq sp7 gr7 s12 (by exact J24 23 s3 s1 s5 s7 s11 s9 s13 hyC c1 a1) g7
 clear s0 s1 g1 s2 s3 g2 s4 s5 g3 s6 s7 g4 s8 s9 g5 s10 s11 g6 hq
 have xD : B6 B T C O many cols := ⟨hyl, hyO, by exact J9 7 hyT, fun r hr => hO _ (jp (by exact J0 4 hyO hr)), fun c hc => hC _ (jp hc), by exact J25 0 a1, by exact J25 1 hyC c1⟩
 generalize K (ko ns sp7 gr7) = H at *
 have hTs := pK (L := T) (by exact J2 7 hyT hyC c1)
 kd_p
 exists nh P ?_
 exists u0 P (by exact J0 20 hyl a1) (by exact J0 20 hyO a1) (by exact J2 8 a1) (by exact J2 7 hyT hyC c1) (by exact J1 8 hyC c1) fun t1 ht1 => ?_
 exists xP ?_
 refine xi P xD fun b hb => ?_
 rw [show (t1 == "") = b by rw [eN, ht1, hb]]
 wtm_at "w1"
 refine jR (t := .bool b) 0 (by decide) .refl .refl trivial (fun es => by simp) ?_
 wtm_at "w1"
 wtm_at "mo"
 rw [show (many : Int) + 1 = ((many + 1 : Nat) : Int) by exact J2 0]
 exists u0 P (by exact J0 20 hyl a1) (by exact J0 20 hyO a1) (by exact J25 2 a1) (by exact J2 7 hyT hyC c1) (by exact J1 8 hyC c1) fun t2 ht2 => ?_
 refine xP ?_
 rw [show (t2 == "") = false from d8.mpr fun z => by have := (ht2.mp z).1.1; exact J25 3 hyl this]
 wtm_at "mo"
 refine uQ P (by kd_mem) ?_
 kd_p1
 kd_p1
 exists jy (kP (lg (kN ?_)))
 intro e1
 kd_p
 refine uN Vw.refl (.lst (.head _)) (by rw [aa, am]; simp; exact J25 4 hyT hyC c1) fun e2 => ⟨e2, _, _, rfl, rfl, _, _, .one, ?_⟩
 rw [show jn T ++ [PV.int 0] = jn (T ++ [0]) by simp]
 kd_p
 exists nh P ?_
 refine u0 P (by exact J0 20 hyl a1) (by exact J0 20 hyO a1) (by exact J2 8 a1) (by simp; exact J25 5 hyT hyC c1) (by exact J1 8 hyC c1) fun t3 ht3 => ?_
 kd_p
 refine xP ?_
 rw [show (t3 == "") = false from d8.mpr fun z => by have := (ht3.mp z).2.1.1; simp at this; exact J25 6 hyT this]
 kd_p
 exists u0 P (by exact J0 20 hyl a1) (by exact J0 20 hyO a1) (by exact J2 8 a1) (by exact J2 7 hyT hyC c1) (by exact J1 8 hyC c1) fun t4 ht4 => ?_
 exists A2 ?_
 by_cases hA : ni B T C O many cols
 rotate_left
 ·rw [show (t4 == "") = false from d8.mpr fun z => hA (ht4.mp z)]
  exists jA.tt ?_
  exact hq'
 rw [ht4.mpr hA]
 exists jA.ff ?_
 have hAr := ni.arr hA.1 hA.2.1 (by exact J2 8 a1) (by exact J1 8 hyC c1)
 have hRo := hA.rows (by exact J2 8 a1) (by exact J25 7 hyC c1) (by exact J25 8 b1 hcol)
 have hbk : (lV B T C O).length = many := by unfold lV; rw [aa, hyO]
 exists ox P hAr ?_
 exists jG ?_
 let I5 : IT jr := fun i Z => Z [cc "pen" (.ref p), cc "many" (.int (many : Nat)), cc "columns" (.int cols), lc "size" (.int (size : Nat)), cu "row", lc "bases" (.lst (jn B)), lc "owners" (.lst (jn O)), lc "check" (.lst (jn C)), lc "table" (.lst (jn T)), cc "held" (wz B T C O), cc "back" (jW (lV B T C O)), gb "_law_draw", gb "range", gb "PackedRows", gb "_law_is_sound", gb "packed_rows"] H
 refine ⟨many, rfl, by exact J4 23 a1, I5, fun Z zz => zz, ?_, ?_⟩
 ·rintro i hi
  have hsr := hA.1.2.2 i hi
  have hkeys := hA.2.1.keys hsr.1
  have hat := B9 (B := B) (T := T) (C := C) (r := i) (O := O) (by exact J0 4 hyO hi)
  have hrl := nC (B := B) (T := T) (C := C) (j := O.getD i 0) (c := C.length)
  refine ⟨_, by kd_in, ?_⟩
  exists jl (kG (o9 (jS (lh (α := Int) (fun k => !(decide (0 ≤ k) && decide (k < cols))) PV.int (by wtm_at "hcap") (wO (f := PV.int) ?_)))))
  refine pf Vw.refl (by exact J0 0) (by exact J0 2 hbk hi) (by exact J9 8 a1 hi) ?_
  rw [ag, hat]
  refine ⟨_, rfl, _, (jw B T C (O.getD i 0) C.length).map ai, PV.int, by wtm_at "crho", by rw [aW]; rfl, by rw [aa, am]; exact J25 9 hrl hyC c1, fun k hk => ⟨_, by kd_in, ?_⟩, ?_⟩
  ·kd_p
   obtain ⟨q, hq, rfl⟩ := az.mp hk
   have hk2 := hkeys q hq
   exists jA.pos hk2.1 ?_
   rw [decide_eq_true hk2.1, decide_eq_true hk2.2]
   exact ⟨rfl, rfl, fun z => by cases z⟩
  ·rw [show ((jw B T C (O.getD i 0) C.length).map ai).filter (fun k => !(decide (0 ≤ k) && decide (k < cols))) = [] by
    rw [cw]
    intro k hk
    obtain ⟨q, hq, rfl⟩ := az.mp hk
    have hk2 := hkeys q hq
    rw [decide_eq_true hk2.1, decide_eq_true hk2.2]; decide]
   kd_p
   intro e3
   kd_p
   exists nB (xs := []) Vw.refl (.lst (.head _)) ?_
   refine ⟨_, _, .one, ?_⟩
   show jA false _ _
   refine jA.ff ?_
   kd_p1
   exists jl (kG (jS (kq (α := Int) (fun col => vV (jz (jw B T C (O.getD i 0) C.length) col)) (by wtm_at "hcap") (ta ?_))))
   refine ⟨-4, 8, rfl, by decide, _, tN (-4) 8, PV.int, by wtm_at "crho", rfl, by rw [k6, am]; decide, fun col hcol2 => ⟨_, by kd_in, ?_⟩, ?_⟩
   ·exists x_meth ?_
    refine ti P (by exact J0 4 hyl hi) (by exact J0 20 hyl a1) (by exact J0 4 hyO hi) (by exact J0 20 hyO a1) (by exact J25 10 hyT) (by exact J2 7 hyT hyC c1) ?_
    rw [B8 hsr.2.2.2 (by exact J9 7 hyT)]
    exact ⟨rfl, rfl⟩
   exists kq (α := Int) (fun col => vV (jz (jw B T C (O.getD i 0) C.length) col)) (by wtm_at "hcap") (ta ?_)
   refine ⟨-4, 8, rfl, by decide, _, tN (-4) 8, PV.int, by wtm_at "crho", rfl, by rw [k6, am]; decide, fun col hcol2 => ⟨_, by kd_in, ?_⟩, ?_⟩
   ·exists x_get ?_
    refine pf Vw.refl (by exact J0 0) (by exact J0 2 hbk hi) (by exact J9 8 a1 hi) ?_
    rw [ag, hat]
    kd_p
    refine ul (f := PV.int) (v := vV (jz (jw B T C (O.getD i 0) C.length) col)) Vw.refl (by cases jz (jw B T C (O.getD i 0) C.length) col <;> rfl) ?_
    exact ⟨rfl, rfl⟩
   exists jR 1 (by decide) .refl .refl (kX fun _ => B3) (fun es => by simp) ?_
   exact jv.nx (by kd_all) (fun Z zz => zz)
 ·show lj _ _ _ _ _ _
  refine jl (jP (m5 ?_))
  exists x_meth (nv P (by kd_mem) ?_)
  exists kx P hRo ?_
  refine ox P (B1 hRo) ?_
  rw [u8 hRo]
  kd_p
  refine qo (t := jW (lV B T C O)) 1 (by decide) .refl .refl (kX fun _ => qK) ?_
  exact hq'
noncomputable def Ek (low high : Int) : Prop := ¬ (-128 ≤ low ∧ high < 128) ∧ ¬ (low = 0 ∧ high < 256)
noncomputable def Dy (low high : Int) : Prop := ¬ (-32768 ≤ low ∧ high < 32768) ∧ ¬ (low = 0 ∧ high < 65536)
theorem Dz {low high : Int} (h1 : -128 ≤ low) (h2 : high < 128) : kindOf low high = (("int8" : Str), 1) := by
 unfold kindOf lQ
 rw [cG (by simp [jO]; exact J25 11 h1 h2)]
theorem DA {low high : Int} (h0 : ¬ (-128 ≤ low ∧ high < 128)) (h1 : low = 0) (h2 : high < 256) : kindOf low high = (("uint8" : Str), 1) := by
 unfold kindOf lQ
 rw [ba (by simp [jO]; exact J25 12 h0), cG (by simp [jO]; exact J25 13 h2 h1)]
theorem Cb {low high : Int} (hl : low ≤ 0) (h : Ek low high) (h1 : -32768 ≤ low) (h2 : high < 32768) : kindOf low high = (("int16" : Str), 2) := by
 unfold Ek at h
 unfold kindOf lQ
 rw [ba (by simp [jO]; exact J9 9 h), ba (by simp [jO]; exact J25 14 hl h), cG (by simp [jO]; exact J25 15 h1 h2)]
theorem Cc {low high : Int} (h : Ek low high) (h0 : ¬ (-32768 ≤ low ∧ high < 32768)) (h1 : low = 0) (h2 : high < 65536) : kindOf low high = (("uint16" : Str), 2) := by
 unfold Ek at h
 unfold kindOf lQ
 rw [ba (by simp [jO]; exact J9 9 h), ba (by simp [jO]; exact J25 16 h h1), ba (by simp [jO]; exact J25 17 h0), cG (by simp [jO]; exact J25 18 h2 h1)]
theorem DB {low high : Int} (hl : low ≤ 0) (h : Ek low high) (h0 : Dy low high) : kindOf low high = (("int32" : Str), 4) := by
 unfold Ek at h
 unfold Dy at h0
 unfold kindOf lQ
 rw [ba (by simp [jO]; exact J25 19 h0), ba (by simp [jO]; exact J25 20 h0), ba (by simp [jO]; exact J25 21 h0), ba (by simp [jO]; exact J25 22 hl h0), List.find?_nil]
theorem Aa {L : List (Int × Int)} (h : L ≠ []) : (nz L)[0]? = some (oN L) := by
 unfold oN
 have hp := ki L
 cases e : nz L with
 | nil => rw [e] at hp; exact absurd hp.symm.eq_nil h
 | cons d M => rfl
theorem DC (P : PW W) {L : List Int} (hz : L.length < 64) (h : Q (.int (kg L)) H) : jX W (n + 1) H (.ref 629) [.lst (jn L)] Q := by
 wtm_at "def"
 exists jl (jB rfl (lg (lr P (by kd_mem) (jy (kq (α := Int) (fun g => kW (oy L g)) (by wtm_at "hcap") (jN ?_))))))
 refine ⟨_, rfl, _, L, PV.int, by wtm_at "crho", rfl, by rw [am]; exact J0 5 hz, fun g hg => ⟨_, by kd_in, ?_⟩, ?_⟩
 ·kd_p
  exists ub Vw.refl ?_
  rw [gp]
  exact rfl
 rw [show L.map (fun g => kW (oy L g)) = (L.map (oy L)).map kW by rw [aW]; rfl]
 refine mh (q9 Vw.refl (by rw [aa]; exact hz) fun a => ⟨a, _, _, rfl, rfl, ?_⟩)
 kd_p1
 exists jl (jP (qh (o9 (jS ?_))))
 intro ae
 kd_p
 exists nB Vw.refl (.lst (.head _)) ?_
 refine ⟨_, _, .one, ?_⟩
 have hlen : (nz (L.map (oy L))).length = L.length := by rw [(ki _).length_eq, aa]
 unfold kg at h
 by_cases hL : L = []
 ·rw [if_pos hL] at h
  rw [show (!((nz (L.map (oy L))).map kW).isEmpty) = false by subst hL; rw [cX, (ki []).eq_nil]; rfl]
  exists jA.ff ?_
  exact h
 ·rw [if_neg hL] at h
  have hne : L.map (oy L) ≠ [] := fun z => hL (eP.mp z)
  have hat := Aa hne
  rw [show (!((nz (L.map (oy L))).map kW).isEmpty) = true by
   cases e : nz (L.map (oy L)) with
   | nil => rw [e] at hat; cases hat
   | cons => rfl]
  exists jA.tt ?_
  refine jx (x := kW (oN (L.map (oy L)))) Vw.refl (by decide) (by rw [ax, show (0 : Int).toNat = 0 from rfl, hat]; rfl) (by decide) ?_
  kd_p
  exact kH (x := .int (oN (L.map (oy L))).2) Vw.refl (by decide) rfl (by decide) h
theorem yB (P : PW W) {L : List Int} (hz : L.length ≤ 5000) (hlo : sS (L ++ [0]) ≤ 0) (hhi : 0 ≤ om (L ++ [0])) (h : Q (.tup [.str (kz L).1, .int (kz L).2]) H) : jX W (n + 1) H (.ref 658) [.lst (jn L)] Q := by
 have hne : L ++ [0] ≠ [] := by simp
 wtm_at "def"
 refine jl (k5 (xs := ["low", "high"]) rfl (by decide) (.inr rfl) ?_)
 kd_p1
 exists jy (kP (vQ P (by kd_mem) ?_))
 intro a
 wtm_at "w1"
 refine uN (.refl) (.lst (.head _)) (by rw [aa, am]; simp; exact J2 18 hz) fun b => ?_
 kd_p
 refine uL (ns := L ++ [0]) (.lst (by rw [aJ]; exact .head _)) hne ?_
 refine ⟨_, _, .two, ?_⟩
 exists jy (kP (vP P (by kd_mem) ?_))
 intro a'
 wtm_at "w1"
 refine uN (.refl) (.lst (.head _)) (by rw [aa, am]; simp; exact J2 18 hz) fun b' => ?_
 kd_p
 refine sf (ns := L ++ [0]) (.lst (by rw [aJ]; exact .head _)) hne ?_
 refine ⟨_, _, .two, ?_⟩
 unfold kz at h
 generalize sS (L ++ [0]) = low at *
 generalize om (L ++ [0]) = high at *
 kd_p
 refine ⟨_, _, rfl, .cons (by kd_in) (.cons (by kd_in) .nil), ?_⟩
 exists jl (qH (α := Int) ?_)
 let I1 : IT jr := fun i Z => (1 ≤ i → Ek low high) → (2 ≤ i → Dy low high) → Z [lc "numbers" (.lst (jn L)), lc "low" (.int low), lc "high" (.int high), lu "size", lu "half", gb "min", gb "max", gb "str"] H
 refine ⟨[1, 2], PV.int, rfl, I1, fun Z zz => zz (by lia) (by lia), ?_, ?_⟩
 ·rintro i a ha i1 i2
  obtain ⟨hf, n1, n2, e0, e1, e2, e3, k1, k2, nx⟩ : ∃ (hf : Int) (n1 n2 : Str), (0 ≤ a ∧ a ≤ 2 ∧ 0 ≤ hf ∧ hf ≤ 40000 ∧ (eS (toString (8 * a))).length ≤ 5) ∧ ((256 : Int) ^ a.toNat).fdiv 2 = hf ∧ ("int" : Str) ++ eS (toString (8 * a)) = n1 ∧ ("uint" : Str) ++ eS (toString (8 * a)) = n2 ∧
    (-hf ≤ low → high < hf → kindOf low high = (n1, a)) ∧ (¬ (-hf ≤ low ∧ high < hf) → low = 0 → high < 2 * hf → kindOf low high = (n2, a)) ∧ (¬ (-hf ≤ low ∧ high < hf) → ¬ (low = 0 ∧ high < 2 * hf) → (1 ≤ i + 1 → Ek low high) ∧ (2 ≤ i + 1 → Dy low high)) := by
   match i, ha with
   | 0, ha =>
    obtain rfl : (1 : Int) = a := by simpa using ha
    exact ⟨128, "int8", "uint8", by decide +kernel, by decide, by decide +kernel, by decide +kernel, fun h1 h2 => Dz (by exact J25 23 h1) (by exact J26 0 h2), fun h1 h2 h3 => DA (by exact J9 10 h1) h2 (by exact J26 1 h3), fun h1 h2 => ⟨fun _ => ⟨by exact J9 10 h1, by exact J26 2 h2⟩, by lia⟩⟩
   | 1, ha =>
    obtain rfl : (2 : Int) = a := by simpa using ha
    have := i1 (by exact J26 3)
    exact ⟨32768, "int16", "uint16", by decide +kernel, by decide, by decide +kernel, by decide +kernel, fun h1 h2 => Cb hlo this (by exact J26 4 h1) (by exact J26 5 h2), fun h1 h2 h3 => Cc this (by exact J9 11 h1) h2 (by exact J26 6 h3), fun h1 h2 => ⟨fun _ => this, fun _ => ⟨by exact J9 11 h1, by exact J26 7 h2⟩⟩⟩
   | n + 2, ha => simp at ha
  refine ⟨_, by kd_in, ?_⟩
  wtm_at "mo"
  refine qP e0.1 (by exact J26 8 e0) (by decide) ?_
  wtm_at "mo"
  refine uB (by decide) (by decide) ?_
  rw [e1]
  kd_p1
  refine jl (kG (Tv.mono (Q' := fun b H' => H' = H ∧ (b = true ↔ -hf ≤ low ∧ high < hf)) (nH (jS ?_)) ?_))
  ·kd_p
   rw [gp]
   refine jA.dec (fun h1 => ?_) fun h1 => ?_
   ·kd_p
    refine jA.dec (fun h2 => ?_) fun h2 => ?_
    ·kd_p
     exact nN rfl ⟨h1, h2⟩
    ·exact ⟨rfl, j0 rfl fun z => h2 z.2⟩
   ·exact ⟨rfl, j0 rfl fun z => h1 z.1⟩
  rintro b H ⟨rfl, hb⟩
  refine jA.by (fun h1 => ?_) fun h1 => ?_
  ·have h1 := hb.mp h1
   kd_p
   exists ly (nl (by decide)) ?_
   refine xK (bH (iK _) (by exact J9 12 e0)) ?_
   wtm_at "w1"
   refine A6 (by rw [am]; have : ("int" : Str).length = 3 := rfl; exact J26 9 e0 this) ?_
   rw [e2]
   kd_p
   rw [k1 h1.1 h1.2] at h
   exact h
  have h1 : ¬ (-hf ≤ low ∧ high < hf) := fun z => by rw [hb.mpr z] at h1; cases h1
  have nx2 := nx h1
  kd_p1
  refine jl (kG (Tv.mono (Q' := fun b H' => H' = H ∧ (b = true ↔ low = 0 ∧ high < 2 * hf)) (nH (jS ?_)) ?_))
  ·kd_p
   refine jA.dec (fun h1 => ?_) fun h1 => ?_
   ·kd_p
    exists ly (nl (by decide)) ?_
    refine jA.dec (fun h2 => ?_) fun h2 => ?_
    ·kd_p
     exact nN rfl ⟨h1, h2⟩
    ·exact ⟨rfl, j0 rfl fun z => h2 z.2⟩
   ·exact ⟨rfl, j0 rfl fun z => h1 z.1⟩
  rintro b H ⟨rfl, hb2⟩
  refine jA.by (fun h2 => ?_) fun h2 => ?_
  ·have h2 := hb2.mp h2
   kd_p
   exists ly (nl (by decide)) ?_
   refine xK (bH (iK _) (by exact J9 12 e0)) ?_
   wtm_at "w1"
   refine A6 (by rw [am]; have : ("uint" : Str).length = 4 := rfl; exact J26 10 e0 this) ?_
   rw [e3]
   kd_p
   rw [k2 h1 h2.1 h2.2] at h
   exact h
  have h2 : ¬ (low = 0 ∧ high < 2 * hf) := fun z => by rw [hb2.mpr z] at h2; cases h2
  kd_p1
  kd_p1
  exact jv.nx (by kd_all) fun Z zz => zz (nx2 h2).1 (nx2 h2).2
 ·rintro i1 i2
  kd_p
  rw [DB hlo (i1 (by decide)) (i2 (by decide))] at h
  exact h
structure mR (d : jL) (j : Nat) : Prop where
 b : nP d j
 v : ∀ p ∈ d, p.2 ≠ 0
theorem mR.nil {j} : mR [] j := ⟨.nil, by simp⟩
theorem mR.up {d j} (x : mR d j) : mR d (j + 1) := ⟨x.b.up (by exact J3 13), x.v⟩
theorem mR.snoc {d j} (x : mR d j) {v : Int} (h : v ≠ 0) : mR (d ++ [((j : Int), v)]) (j + 1) := ⟨x.b.snoc, fun p hp => by
 rcases aQ.mp hp with hp | hp
 ·exact x.v p hp
 ·simp at hp; subst hp; exact h⟩
theorem DD (P : PW W) {K : HO → HH} {p : Addr} (U : ∀ o o', kO p o o' (K o) (K o')) {ns : List Int} {sp gr : Int} (hz : ns.length ≤ 64) (h0 : 0 ≤ sp) (h1 : sp ≤ 500000) (hg : 0 ≤ gr) {size count many : Nat} (hs0 : 0 < size) (hs : size ≤ 4) (hc : count ≤ 5) (hm0 : 2 ≤ many) (hm : many ≤ 4)
  (hq : ∀ (L : List jL) (sp' gr' : Int), L.length = size → (∀ d ∈ L, mR d count) → 0 ≤ sp' → sp' ≤ sp + 100 → 0 ≤ gr' → Q (jW L) (K (ko ns sp' gr'))) : jX W (n + 3) (K (ko ns sp gr)) (.ref 636) [.ref p, .int (size : Nat), .int (count : Nat), .int (many : Nat)] Q := by
 wtm_at "def"
 kd_p
 intro af
 kd_p
 exists jG ?_
 let I1 : IT jr := fun i Z => ∀ (R : List jL) (sp' gr' : Int), R.length = i → (∀ d ∈ R, mR d count) → 0 ≤ sp' → sp' ≤ sp + 10 * i → 0 ≤ gr' → Z [lc "pen" (.ref p), lc "size" (.int (size : Nat)), lc "count" (.int (count : Nat)), lc "many" (.int (many : Nat)), lc "lines" (.ref af), lu "state", lu "line", lu "terminal", lu "way", gb "range", gb "_law_draw", gb "_law_pick", gb "ACCEPT", gb "BARRED"] ((af, .lst (R.map jU)) :: K (ko ns sp' gr'))
 refine ⟨size, rfl, by exact J1 18 hs, I1, fun Z zz => zz [] sp gr rfl (by simp) h0 (by exact J3 1) hg, ?_, ?_⟩
 ·rintro i hi R sp2 gr2 hRl hR s2 s3 g2
  have hRs : (R.map jU).length ≤ sizeLine := by rw [aa, am]; exact J26 11 hs hRl hi
  exists ⟨_, by kd_in, ?_⟩
  intro ao
  kd_p
  exists jG ?_
  let I2 : IT jr := fun j Z => ∀ (d : jL) (sp3 gr3 : Int), mR d j → 0 ≤ sp3 → sp3 ≤ sp2 + 2 * j → 0 ≤ gr3 → Z [lc "pen" (.ref p), lc "size" (.int (size : Nat)), lc "count" (.int (count : Nat)), lc "many" (.int (many : Nat)), lc "lines" (.ref af), lc "state" (.int (i : Nat)), lc "line" (.ref ao), lu "terminal", lu "way", gb "range", gb "_law_draw", gb "_law_pick", gb "ACCEPT", gb "BARRED"] ((ao, .dct (Dk .int d)) :: (af, .lst (R.map jU)) :: K (ko ns sp3 gr3))
  refine ⟨count, rfl, by exact J2 4 hc, I2, fun Z zz => zz [] sp2 gr2 mR.nil s2 (by exact J5 0) g2, ?_, ?_⟩
  ·rintro j hj d sp3 gr3 hd s4 s5 g3
   have hU : ∀ o o', kO p o o' ((ao, .dct (Dk .int d)) :: (af, .lst (R.map jU)) :: K o) ((ao, .dct (Dk .int d)) :: (af, .lst (R.map jU)) :: K o') := fun o o' => .tail (.tail (U o o'))
   have hdz : d.length ≤ sizeLine := mc (by have := hd.b.len; exact J26 12 this hc hj)
   exists ⟨_, by kd_in, ?_⟩
   exists kc (K := fun o => (ao, .dct (Dk .int d)) :: (af, .lst (R.map jU)) :: K o) P hU hz s4 (by exact J26 13 s3 s5 h1 hs hc hi hj) g3 (by decide) (by decide) fun w sp4 gr4 w0 w1 s6 s7 g4 => ?_
   refine jA.dec (fun h2 => ?_) fun h2 => ?_
   ·exists jl (oe rfl (kP (nv P (by kd_mem) ?_)))
    intro al
    kd_p
    refine oC (K := fun o => (al, .lst (jn [1048576, -1048576])) :: (ao, .dct (Dk .int d)) :: (af, .lst (R.map jU)) :: K o) P (fun o o' => .tail (hU o o')) (fun o => .lst (.head _)) (by decide) (by decide) hz s6 (by exact J5 1 s7 s3 s5 h1 hs hc hi hj) g4 fun x hx sp5 gr5 s8 s9 g5 => ?_
    obtain ⟨v, hv, rfl⟩ := az.mp hx
    have hv0 : v ≠ 0 := by simp at hv; exact J26 14 hv
    exists ⟨_, _, .one, ?_⟩
    exists kI (f := PV.int) rfl (by wtm_at "updh") hdz ?_
    rw [hd.b.new]
    exact jv.nx (by kd_all) (fun Z zz => zz _ sp5 gr5 (hd.snoc hv0) s8 (by exact J2 6 s9 s7 s5) g5)
   kd_p
   refine jA.dec (fun h3 => ?_) fun h3 => ?_
   ·kd_p
    exists kc (K := fun o => (ao, .dct (Dk .int d)) :: (af, .lst (R.map jU)) :: K o) P hU hz s6 (by exact J5 1 s7 s3 s5 h1 hs hc hi hj) g4 (by exact J26 15 hm0) (by exact J9 13 hm) fun v sp5 gr5 v0 v1 s8 s9 g5 => ?_
    exists kI (f := PV.int) rfl (by wtm_at "updh") hdz ?_
    rw [hd.b.new]
    exact jv.nx (by kd_all) (fun Z zz => zz _ sp5 gr5 (hd.snoc (by exact J26 16 v0)) s8 (by exact J2 6 s9 s7 s5) g5)
   kd_p
   refine jA.dec (fun h4 => ?_) fun h4 => ?_
   rotate_left
   ·kd_p
    exact jv.nx (by kd_all) (fun Z zz => zz _ sp4 gr4 hd.up s6 (by exact J3 6 s7 s5) g4)
   kd_p
   refine jA.dec (fun h5 => ?_) fun h5 => ?_
   rotate_left
   ·kd_p
    exact jv.nx (by kd_all) (fun Z zz => zz _ sp4 gr4 hd.up s6 (by exact J3 6 s7 s5) g4)
   wtm_at "w1"
   exists jA.tt ?_
   exists kc (K := fun o => (ao, .dct (Dk .int d)) :: (af, .lst (R.map jU)) :: K o) P hU hz s6 (by exact J5 1 s7 s3 s5 h1 hs hc hi hj) g4 (by exact J26 17 h5) (by exact J9 13 hs) fun v sp5 gr5 v0 v1 s8 s9 g5 => ?_
   exists kI (f := PV.int) rfl (by wtm_at "updh") hdz ?_
   rw [hd.b.new]
   exact jv.nx (by kd_all) (fun Z zz => zz _ sp5 gr5 (hd.snoc (by exact J26 18 v0)) s8 (by exact J2 6 s9 s7 s5) g5)
  ·rintro d sp3 gr3 hd s4 s5 g3
   kd_p
   refine jv.fz .one (by kd_all) (.lst (ny.snoc (.dct (.head _) .refl)) mS.refl) (Of.eqH (by rw [aJ]; rfl) (fun Z zz => zz (R ++ [d]) sp3 gr3 (by simp [hRl]) (fun d' hd' => ?_) s4 (by exact J26 19 s3 s5 hc) g3))
   rcases aQ.mp hd' with hd' | hd'
   ·exact hR d' hd'
   ·simp at hd'; subst hd'; exact hd
 ·rintro R sp' gr' hRl hR q0 q1 q2
  exists jl (jP (lg ?_))
  exact ⟨af, _, _, rfl, rfl, hq R _ _ hRl hR q0 (by exact J26 20 q1 hs) q2⟩
noncomputable def xj (g : Int) : Int := if g > 0 then g else -1
structure nF (G : List (List Int)) (others size : Nat) : Prop where
 len : G.length = others
 row : ∀ g ∈ G, g.length = size
 ent : ∀ g ∈ G, ∀ v ∈ g, v = -1 ∨ (0 < v ∧ v < size)
noncomputable def qM (g : List Int) (u : Int) : jL := kj (fun s => !([-1, u].any (· == g.getD s 0))) (fun s => g.getD s 0) g.length
noncomputable def j6 (G : List (List Int)) (U : List Int) : List jL := (av G.length).map fun k => qM (G.getD k []) (U.getD k 0)
theorem DE (P : PW W) {K : HO → HH} {p : Addr} (U : ∀ o o', kO p o o' (K o) (K o')) {ns : List Int} {sp gr : Int} (hz : ns.length ≤ 64) (h0 : 0 ≤ sp) (h1 : sp ≤ 500000) (hg : 0 ≤ gr) {size others : Nat} (hs0 : 0 < size) (hs : size ≤ 4) (ho : others ≤ 3)
  (hq : ∀ (G : List (List Int)) (sp' gr' : Int), nF G others size → 0 ≤ sp' → sp' ≤ sp + 100 → 0 ≤ gr' → Q (j3 G) (K (ko ns sp' gr'))) : jX W (n + 3) (K (ko ns sp gr)) (.ref 641) [.ref p, .int (size : Nat), .int (others : Nat)] Q := by
 wtm_at "def"
 kd_p
 intro af
 kd_p
 exists jG ?_
 let I1 : IT jr := fun i Z => ∀ (R : List (List Int)) (sp' gr' : Int), R.length = i → (∀ d ∈ R, d.length = size ∧ ∀ v ∈ d, 0 ≤ v ∧ v < size) → 0 ≤ sp' → sp' ≤ sp + 10 * i → 0 ≤ gr' → Z [cc "pen" (.ref p), cc "size" (.int (size : Nat)), lc "others" (.int (others : Nat)), lc "found" (.ref af), lu "symbol", gb "range"] ((af, .lst (R.map fun l => .lst (jn l))) :: K (ko ns sp' gr'))
 refine ⟨others, rfl, by exact J1 5 ho, I1, fun Z zz => zz [] sp gr rfl (by simp) h0 (by exact J3 1) hg, ?_, ?_⟩
 ·rintro i hi R sp2 gr2 hRl hR s2 s3 g2
  have hRs : (R.map fun l => PV.lst (jn l)).length ≤ sizeLine := by rw [aa, am]; exact J26 21 ho hRl hi
  refine ⟨_, by kd_in, ?_⟩
  refine jl (lv rfl (k8 ?_))
  kd_p1
  kd_p1
  exists jy (xd (α := Nat) (by wtm_at "hcap") (jM ?_))
  let I2 : IT (List PV) := fun j Z => ∀ (l : List Int) (sp' gr' : Int), (∀ v ∈ l, 0 ≤ v ∧ v < (size : Int)) → 0 ≤ sp' → sp' ≤ sp2 + 2 * j → 0 ≤ gr' → Z (jn l) ((af, HO.lst (R.map fun l => PV.lst (jn l))) :: K (ko ns sp' gr'))
  refine ⟨size, rfl, by exact J1 18 hs, _, av size, fun c => .int (c : Nat), I2, by wtm_at "crho", rfl, by rw [aq, am]; exact J1 9 hs, fun Z zz => zz [] sp2 gr2 (by simp) s2 (by exact J5 0) g2, ?_, ?_⟩
  ·rintro j c hc l sp5 gr5 hl s8 s9 g5 hyl
   have hj := (aA.mp hc).1
   rw [aq] at hj
   exists ⟨_, by kd_in, qh (jS (nv P (by kd_mem) ?_))⟩
   exists kc (K := fun o => (af, HO.lst (R.map fun l => PV.lst (jn l))) :: K o) P (fun o o' => .tail (U o o')) hz s8 (by exact J26 22 s3 s9 h1 ho hs hj hi) g5 (by decide) (by decide) fun d sp6 gr6 hd0 hd1 s10 s11 g6 => ?_
   refine jA.dec (fun h2 => ?_) fun h2 => ?_
   ·kd_p
    exists kc (K := fun o => (af, HO.lst (R.map fun l => PV.lst (jn l))) :: K o) P (fun o o' => .tail (U o o')) hz s10 (by exact J26 23 s11 s3 s9 h1 ho hs hi hj) g6 (by exact J0 14 hs0) (by exact J9 14 hs) fun d2 sp7 gr7 hd2 hd3 s12 s13 g7 => ?_
    refine Of.eq (by simp) (fun Z zz => zz (l ++ [d2]) sp7 gr7 (fun v hv => ?_) s12 (by exact J2 6 s13 s11 s9) g7)
    rcases aQ.mp hv with hv | hv
    ·exact hl v hv
    ·simp at hv; exact J27 0 hd2 hd3 hv
   ·kd_p
    refine Of.eq (by simp) (fun Z zz => zz (l ++ [0]) sp6 gr6 (fun v hv => ?_) s10 (by exact J3 6 s11 s9) g6)
    rcases aQ.mp hv with hv | hv
    ·exact hl v hv
    ·simp at hv; exact J27 1 hs0 hv
  ·rintro l sp5 gr5 hl s8 s9 g5 hyl
   rw [aa, aq] at hyl
   rw [aq] at s9
   kd_p
   refine jv.nx (by kd_all) (Of.eqH (by rw [aJ]; rfl) (fun Z zz => zz (R ++ [l]) sp5 gr5 (by simp [hRl]) (fun d hd => ?_) s8 (by exact J27 2 s3 s9 hs) g5))
   rcases aQ.mp hd with hd | hd
   ·exact hR d hd
   ·simp at hd; subst hd; exact ⟨hyl, hl⟩
 ·rintro R sp3 gr3 hRl hR s4 s5 g3
  refine mG (my.frz (r' := [cc "pen" (.ref p), cc "size" (.int (size : Nat)), lc "others" (.int (others : Nat)), lc "found" (j3 R), lu "symbol", gb "range"]) .one (.same (.same (.same (.rfy (.lst (.head _) .refl) (by kd_all))))) mS.refl) ?_
  refine jl (jP ?_)
  exists kq (α := List Int) (fun l => .lst (jn (l.map xj))) (by wtm_at "hcap") (jN ?_)
  refine ⟨_, rfl, _, R, fun l => .lst (jn l), by wtm_at "crho", rfl, by rw [am]; exact J1 3 ho hRl, fun l hl => ⟨_, by kd_in, kq (α := Int) (fun v => .int (xj v)) (by wtm_at "hcap") (jN ?_)⟩, ?_⟩
  ·have hll := (hR l hl).1
   kd_p
   refine ⟨_, rfl, _, l, PV.int, by wtm_at "crho", rfl, by rw [am]; exact J2 9 hs hll, fun v hv => ⟨_, by kd_in, ?_⟩, ?_⟩
   ·kd_p
    unfold xj
    refine jA.dec (fun h2 => ?_) fun h2 => ?_
    ·kd_p
     rw [if_pos h2]
    ·kd_p
     rw [if_neg h2]
   ·exact ⟨rfl, by show PV.lst _ = PV.lst ((l.map xj).map PV.int); rw [aW]; rfl⟩
  rw [show R.map (fun l => PV.lst (jn (l.map xj))) = (R.map fun l => l.map xj).map fun l => PV.lst (jn l) by rw [aW]; rfl]
  refine hq _ sp3 gr3 ⟨by rw [aa]; exact hRl, fun g hg => ?_, fun g hg v hv => ?_⟩ s4 (by exact J27 3 s5 ho) g3
  ·obtain ⟨l, hl, rfl⟩ := az.mp hg
   rw [aa]; exact (hR l hl).1
  ·obtain ⟨l, hl, rfl⟩ := az.mp hg
   obtain ⟨z, hz2, rfl⟩ := az.mp hv
   have := (hR l hl).2 z hz2
   unfold xj
   split <;> lia
theorem yC (P : PW W) {G : List (List Int)} {us : List Int} {others size : Nat} (x : nF G others size) (hu : us.length = others) (hs : size ≤ 4) (ho : others ≤ 3) (h : Q (jW (j6 G us)) H) : jX W (n + 1) H (.ref 646) [j3 G, .lst (jn us)] Q := by
 have xl := x.len
 have hGs : (G.map fun l => PV.lst (jn l)).length ≤ sizeLine := by rw [aa, am]; exact J1 3 ho xl
 wtm_at "def"
 kd_p
 intro af
 kd_p
 exists jG ?_
 rw [aa, xl]
 let I3 : IT jr := fun i Z => Z [cc "goals" (j3 G), cc "usuals" (.lst (jn us)), lc "found" (.ref af), cu "at", lu "pairs", gb "range", gb "len", gb "dict"] ((af, .lst (((j6 G us).take i).map jU)) :: H)
 refine ⟨others, rfl, by exact J1 5 ho, I3, Of.eqH (by rw [ca]; rfl) (fun Z zz => zz), ?_, ?_⟩
 ·rintro i hi
  have hRs : (((j6 G us).take i).map jU).length ≤ sizeLine := by rw [aa, bg, am]; exact J27 4 ho hi
  have hgl := x.row _ (jp (d := ([] : List Int)) (show i < G.length by exact J0 4 xl hi))
  have hat : (j6 G us)[i]? = some (qM (G.getD i []) (us.getD i 0)) := by unfold j6; rw [ax, b8 (by exact J0 4 xl hi)]; rfl
  show lJ _ _ _ _
  generalize hg : G.getD i [] = g at *
  have hgz := pK (L := g) (by exact J0 16 hs hgl)
  have gg : ∀ {H : HH} {n : Nat} {Q : CV}, Q (.lst (jn g)) H → oM W n H (j3 G) (.int (i : Nat)) Q := fun hq => kA Vw.refl (by exact J0 0) (by exact J0 2 xl hi) (by exact J27 5 ho hi) (by rw [ag, hg]; exact hq)
  refine ⟨_, by kd_in, ?_⟩
  exists jl (lz (α := Nat) (fun (s : Nat) => kW ((s : Int), g.getD s 0)) (by wtm_at "hcap") (jM ?_))
  exists gg ?_
  rw [aa]
  refine ⟨g.length, rfl, by exact J27 6 hs hgl, _, av g.length, fun c => .int (c : Nat), by wtm_at "crho", rfl, by rw [aq, am]; exact J2 9 hs hgl, fun t ht => ⟨_, by kd_in, ?_⟩, ?_⟩
  ·have ht2 := aM.mp ht
   kd_p
   exists gg ?_
   refine j7 Vw.refl (by exact J0 0) (by exact J0 1 ht2) (by exact J0 16 hs hgl) ?_
   rw [ag]
   kd_p
   exact rfl
  rw [show (av g.length).map (fun (s : Nat) => kW ((s : Int), g.getD s 0)) = ((av g.length).map fun (s : Nat) => ((s : Int), g.getD s 0)).map kW by rw [aW]; rfl]
  refine ⟨_, by kd_in, ?_⟩
  refine jl (lv rfl (k8 ?_))
  kd_p1
  kd_p1
  exists jy (vR (sZ P (by kd_mem) (jy (lh (α := Int × Int) (fun pr => !([-1, us.getD i 0].any (· == pr.2))) kW (by wtm_at "hcap") (jN ?_)))))
  refine ⟨_, rfl, _, (av g.length).map fun (s : Nat) => ((s : Int), g.getD s 0), kW, by wtm_at "crho", rfl, by rw [aa, aq, am]; exact J2 9 hs hgl, fun pr hpr => ⟨_, by kd_in, ?_⟩, ?_⟩
  ·kd_p
   exists kH (x := .int pr.2) Vw.refl (by decide) rfl (by decide) ?_
   refine j7 Vw.refl (by exact J0 0) (by exact J0 2 hu hi) (by exact J0 6 ho hu) ?_
   rw [ag]
   kd_p
   exists wJ (ns := [-1, us.getD i 0]) Vw.refl ?_
   intro _
   kd_p
   exact rfl
  ·have e : ((av g.length).map fun (s : Nat) => ((s : Int), g.getD s 0)).filter (fun pr => !([-1, us.getD i 0].any (· == pr.2))) = qM g (us.getD i 0) := by
    rw [eM]; rfl
   rw [e]
   exists mh (uu Vw.refl (lZ).nodup (bj kJ (by exact J0 16 hs hgl)) fun a => ⟨a, _, _, rfl, rfl, ?_⟩)
   exact jv.nx (by kd_all) (Of.eqH (by rw [j9 hat, aJ]; rfl) (fun Z zz => zz))
 ·show lj _ _ _ _ _ _
  rw [show (j6 G us).take others = j6 G us from br (by simp [j6]; exact J4 19 xl)]
  exists jl (jP (lg ?_))
  exact ⟨af, _, _, rfl, rfl, h⟩
structure pG (a g : AR) (ms : List (List Nat)) (gds defs : List Int) (tc : Nat) (L : List jL) (G : List (List Int)) (others size : Nat) : Prop where
 aok : p5 a size
 gok : p5 g others
 lms : ms.length = others
 lgds : gds.length = others
 ldefs : defs.length = size
 inc : ∀ M ∈ ms, M.Pairwise (· < ·)
 exp : ∀ s t : Nat, s < size → t < tc → lX a s (t : Int) = (jz (L.getD s []) (t : Int)).getD 0
 goto : ∀ s k : Nat, s < size → k < others → n0 tc ms g gds s ((tc + k : Nat) : Int) = (G.getD k []).getD s 0
theorem Cd {tc : Nat} {ms : List (List Nat)} {g : AR} {gd : List Int} {s : Nat} {nt : Int} (h : nt < tc ∨ (tc : Int) + ms.length ≤ nt) : n0 tc ms g gd s nt = -1 := by
 unfold n0
 rw [if_pos (by exact J27 8 h)]
theorem GQ {t : Nat} : ([1, 2] : List Int).any (· == (t : Int)) = (t == 1 || t == 2) := by
 rw [eN, bN]
 simp only [au, bw, or_false, beq_iff_eq, cO, exists_eq_or_imp, exists_eq_left]
 lia
theorem GR {v : Int} : ([0, -1048576] : List Int).any (· == v) = (decide (v = 0) || decide (v = nO)) := by
 rw [eN, bN]
 simp only [au, bw, or_false, beq_iff_eq, cO, exists_eq_or_imp, exists_eq_left, decide_eq_true_eq]
 exact or_congr eq_comm eq_comm
theorem Ce {G : List (List Int)} {others size s : Nat} (hG : nF G others size) : (av others).map (fun k => PV.int ((G.getD k []).getD s 0)) = G.map fun l => PV.int (l.getD s 0) := by
 refine bO (by simp [hG.len]) fun j h1 h2 => ?_
 have h3 : j < G.length := by simpa using h2
 rw [bk, bk, bL, kD h3]
section
variable {nm lf ln bf nu : PV}
theorem yD (P : PW W) {a g : AR} {ms : List (List Nat)} {gds defs : List Int} {tc : Nat} {L : List jL} {G : List (List Int)} {others size : Nat} (x : pG a g ms gds defs tc L G others size) (hL : L.length = size) (hLb : ∀ d ∈ L, nP d tc) (hG : nF G others size) (hs : size ≤ 4) (ht0 : 0 < tc) (ht : tc ≤ 5) (ho : others ≤ 3) (h : Q (.bool true) H) :
  jX W (n + 6) H (.ref 651) [p6 nm tc lf ln bf (.lst (jn defs)) nu a g (.lst (jn gds)) (wA ms), jW L, j3 G, .lst (jn defs)] Q := by
 have xaok := x.aok
 have xgok := x.gok
 have xms := x.lms
 have xgds := x.lgds
 have xdefs := x.ldefs
 have xG := hG.len
 have hLs : (L.map jU).length ≤ sizeLine := by rw [aa, am]; exact J2 9 hs hL
 have hGs : (G.map fun l => PV.lst (jn l)).length ≤ sizeLine := by rw [aa, am]; exact J1 3 ho xG
 wtm_at "def"
 kd_p
 exists jG ?_
 rw [aa, hL]
 let I1 : IT jr := fun i Z => Z [cc "packed" (p6 nm tc lf ln bf (.lst (jn defs)) nu a g (.lst (jn gds)) (wA ms)), cc "lines" (jW L), lc "goals" (j3 G), lc "rules" (.lst (jn defs)), cc "count" (.int (tc : Nat)), cu "state", lu "terminal", cu "row", lu "due", lu "beyond", lu "awaited", gb "range", gb "len", gb "BARRED"] H
 refine ⟨size, rfl, by exact J1 18 hs, I1, fun Z zz => zz, ?_, ?_⟩
 ·rintro s hsz
  have hdr : (defs.getD s 0) = defs.getD s 0 := rfl
  refine ⟨_, by kd_in, ?_⟩
  exists jl (lz (α := Nat) (fun t => .int (lX a s (t : Int))) (by wtm_at "hcap") (jM ?_))
  refine ⟨tc, rfl, by exact J2 4 ht, _, av tc, fun c => .int (c : Nat), by wtm_at "crho", rfl, by rw [aq, am]; exact J4 13 ht, fun t ht2 => ⟨_, by kd_in, ?_⟩, ?_⟩
  ·have ht3 := aM.mp ht2
   exists x_get ?_
   refine pf Vw.refl (by exact J0 0) (by exact J0 2 hL hsz) (by exact J27 9 hs hsz) ?_
   rw [ag]
   kd_p
   refine oz (f := PV.int) (v := .int (lX a s (t : Int))) Vw.refl (by rw [x.exp s t hsz ht3]; cases jz (L.getD s []) (t : Int) <;> rfl) ?_
   exact ⟨rfl, rfl⟩
  generalize hRW : (av tc).map (fun (t : Nat) => lX a s (t : Int)) = RW
  have hRl : RW.length = tc := by rw [← hRW]; simp
  have hRe : ∀ t : Nat, t < tc → RW.getD t 0 = lX a s (t : Int) := fun t ht2 => by rw [← hRW]; exact lR ht2
  rw [show (av tc).map (fun (t : Nat) => PV.int (lX a s (t : Int))) = jn RW by rw [← hRW]; show _ = cT _ (cT _ _); rw [aW]; rfl]
  refine ⟨_, by kd_in, ?_⟩
  exists jl (jG ?_)
  let I2 : IT jr := fun i Z => Z [cc "packed" (p6 nm tc lf ln bf (.lst (jn defs)) nu a g (.lst (jn gds)) (wA ms)), cc "lines" (jW L), lc "goals" (j3 G), lc "rules" (.lst (jn defs)), cc "count" (.int (tc : Nat)), cc "state" (.int (s : Nat)), lu "terminal", cc "row" (.lst (jn RW)), lu "due", lu "beyond", lu "awaited", gb "range", gb "len", gb "BARRED"] H
  refine ⟨tc, rfl, by exact J2 4 ht, I2, fun Z zz => zz, ?_, ?_⟩
  ·rintro t ht2
   have hget : ∀ {H : HH} {n : Nat} {Q : CV}, Q (.int (lX a s (t : Int))) H → oM W n H (.lst (jn RW)) (.int (t : Nat)) Q := fun hq => j7 Vw.refl (by exact J0 0) (by exact J0 2 hRl ht2) (by exact J3 3 ht hRl) (by rw [ag, hRe t ht2]; exact hq)
   refine ⟨_, by kd_in, ?_⟩
   refine jl (jB rfl (Ev.mono (Q := fun v H' => v = .int (Dp a defs s (t : Int)) ∧ H' = H) (qh (jS ?_)) ?_))
   ·unfold Dp
    kd_p
    exists hget ?_
    refine jA.dec (fun h1 => ?_) fun h1 => ?_
    ·kd_p
     rw [if_pos (show lX a s (t : Int) = nO from h1)]
     exact ⟨rfl, rfl⟩
    ·rw [if_neg (show ¬ lX a s (t : Int) = nO from h1)]
     kd_p
     exists hget ?_
     refine jA.dec (fun h2 => ?_) fun h2 => ?_
     ·rw [if_neg h2]
      kd_p
      refine hget ?_
      exact ⟨rfl, rfl⟩
     ·rw [if_pos (by exact J1 11 h2)]
      kd_p
      refine j7 Vw.refl (by exact J0 0) (by exact J0 2 xdefs hsz) (by exact J0 16 hs xdefs) ?_
      rw [ag]
      kd_p
      rw [gp]
      exact ⟨rfl, rfl⟩
   rintro v H ⟨rfl, rfl⟩
   kd_p
   exists mn P xaok hsz ?_
   exists vY P xaok hsz xdefs ?_
   exists hget ?_
   exists jR 1 (by decide) .refl .refl (by wtm_at "dat") (fun es => by simp) ?_
   exact jv.nx (by kd_all) (fun Z zz => zz)
  show lj _ _ _ _ _ _
  exists jl (kG (jS (kq (α := Nat) (fun k => .int ((G.getD k []).getD s 0)) (by wtm_at "hcap") (jM ?_))))
  rw [aa, xG]
  refine ⟨others, rfl, by exact J1 5 ho, _, av others, fun c => .int (c : Nat), by wtm_at "crho", rfl, by rw [aq, am]; exact J2 5 ho, fun k hk => ⟨_, by kd_in, ?_⟩, ?_⟩
  ·have hk2 := aM.mp hk
   kd_p
   refine ri P xgok xms xgds x.inc ?_
   rw [show (tc : Int) + (k : Int) = ((tc + k : Nat) : Int) by exact J9 17, x.goto s k hsz hk2]
   exact ⟨rfl, rfl⟩
  rw [Ce hG]
  exists kq (α := List Int) (fun l => .int (l.getD s 0)) (by wtm_at "hcap") (jN ?_)
  refine ⟨_, rfl, _, G, fun l => .lst (jn l), by wtm_at "crho", rfl, by rw [am]; exact J1 3 ho xG, fun l hl => ⟨_, by kd_in, ?_⟩, ?_⟩
  ·have hll := hG.row l hl
   kd_p
   refine j7 Vw.refl (by exact J0 0) (by exact J0 2 hll hsz) (by exact J0 16 hs hll) ?_
   exact ⟨rfl, rfl⟩
  refine jR 1 (by decide) .refl .refl (kX fun _ => pQ) (fun es => by simp) ?_
  kd_p1
  kd_p1
  kd_p1
  exists jl (lz (α := Int) (fun _ => .int (-1)) (by wtm_at "hcap") (tb ?_))
  rw [aa, xG]
  refine ⟨_, rfl, _, [0, (tc : Int) - 1, (tc : Int) + (others : Nat), (tc : Int) + (others : Nat) + 2], PV.int, by wtm_at "crho", rfl, by rw [am]; simp, fun k hk => ⟨_, by kd_in, ?_⟩, ?_⟩
  ·kd_p
   refine ri P xgok xms xgds x.inc ?_
   rw [Cd (by simp at hk; exact J27 10 xms ht0 hk)]
   exact ⟨rfl, rfl⟩
  refine ⟨_, by kd_in, ?_⟩
  exists jl (kG (o9 (jS ?_)))
  intro a1
  kd_p
  exists jR (t := .lst (jn [-1, -1, -1, -1])) 1 (by decide) .refl (.lst (.head _) .refl) (by wtm_at "dat") (fun es => by simp) ?_
  refine ⟨_, _, .one, ?_⟩
  kd_p1
  kd_p1
  exists jl (C3 (α := Nat) (oH a s) (fun t => .int (t : Nat)) (by wtm_at "hcap") (jM ?_))
  refine ⟨tc, rfl, by exact J2 4 ht, _, av tc, fun c => .int (c : Nat), by wtm_at "crho", rfl, by rw [aq, am]; exact J4 13 ht, fun t ht2 => ⟨_, by kd_in, ?_⟩, ?_⟩
  ·have ht3 := aM.mp ht2
   have e3 : oH a s t = (!(t == 1 || t == 2) && !(decide (lX a s (t : Int) = 0) || decide (lX a s (t : Int) = nO))) := rfl
   kd_p
   refine wJ (ns := [1, 2]) Vw.refl ?_
   rw [GQ]
   kd_p
   refine jA.by (fun h1 => ?_) fun h1 => ?_
   ·rw [h1, je] at e3
    kd_p
    refine j7 Vw.refl (by exact J0 0) (by exact J0 2 hRl ht3) (by exact J3 3 ht hRl) ?_
    rw [ag, hRe t ht3]
    kd_p
    refine wJ (ns := [0, -1048576]) Vw.refl ?_
    rw [GR, ← e3]
    kd_p
    refine jA.by (fun h2 => ?_) fun h2 => ?_
    ·kd_p
     exists ⟨h2.symm, rfl, fun _ => ?_⟩
     exact rfl
    ·kd_p
     exact ⟨h2.symm, rfl, fun z => by cases z⟩
   ·rw [h1, dZ] at e3
    kd_p
    exact ⟨e3.symm, rfl, fun z => by cases z⟩
  exists ⟨_, by kd_in, ?_⟩
  exists oA P (by exact J0 4 xdefs hsz) (by exact J0 16 hs xdefs) ?_
  refine j7 Vw.refl (by exact J0 0) (by exact J0 2 xdefs hsz) (by exact J0 16 hs xdefs) ?_
  rw [ag]
  kd_p
  exists jA.neg (by exact J9 0) ?_
  exists tR P xaok hsz (by exact J27 11 ht) ?_
  exists jR 1 (by decide) .refl .refl (kX fun _ => pQ) (fun es => by simp) ?_
  exact jv.nx (by kd_all) (fun Z zz => zz)
 ·show lj _ _ _ _ _ _
  have hab := xaok.b
  exists jl (jP (m5 ?_))
  exists nj P (by exact J0 16 hs hab) ?_
  rw [aa, hL, hab, decide_eq_true rfl]
  exact h
end
theorem Cf : ∀ {L : List Int}, L ≠ [] → ∃ x ∈ L, ∀ a ∈ L, x ≤ a
 | [], h => absurd rfl h
 | [a], _ => ⟨a, .head _, fun b hb => by simp at hb; exact J27 12 hb⟩
 | a :: b :: L, _ => by
  obtain ⟨x, hx, h⟩ := Cf (L := b :: L) (by simp)
  by_cases q : a ≤ x
  ·exact ⟨a, .head _, fun c hc => by
    rcases au.mp hc with rfl | hc
    ·exact J9 18
    ·have := h c hc; exact J5 21 this q⟩
  ·exact ⟨x, .tail _ hx, fun c hc => by
    rcases au.mp hc with rfl | hc
    ·exact J9 19 q
    ·exact h c hc⟩
theorem Cg : ∀ {L : List Int}, L ≠ [] → ∃ x ∈ L, ∀ a ∈ L, a ≤ x
 | [], h => absurd rfl h
 | [a], _ => ⟨a, .head _, fun b hb => by simp at hb; exact J8 14 hb⟩
 | a :: b :: L, _ => by
  obtain ⟨x, hx, h⟩ := Cg (L := b :: L) (by simp)
  by_cases q : x ≤ a
  ·exact ⟨a, .head _, fun c hc => by
    rcases au.mp hc with rfl | hc
    ·exact J9 18
    ·have := h c hc; exact J27 13 this q⟩
  ·exact ⟨x, .tail _ hx, fun c hc => by
    rcases au.mp hc with rfl | hc
    ·exact J9 19 q
    ·exact h c hc⟩
theorem El {L : List Int} : sS (L ++ [0]) ≤ 0 := by
 obtain ⟨x, hx, h⟩ := Cf (L := L ++ [0]) (by simp)
 rw [yq hx h]; exact h 0 (by simp)
theorem Em {L : List Int} : 0 ≤ om (L ++ [0]) := by
 obtain ⟨x, hx, h⟩ := Cg (L := L ++ [0]) (by simp)
 rw [yp hx h]; exact h 0 (by simp)
section
variable {nm lf ln bf nu gm : PV} {tc : Nat}
theorem Ch (P : PW W) {a g : AR} {gds defs : List Int} (hA : ∀ L ∈ tH a, L.length ≤ 5000) (hG : ∀ L ∈ tH g, L.length ≤ 5000) (hd : defs.length ≤ 5000) (hg5 : gds.length ≤ 5000)
  {K : HO → HH} {p : Addr} (U : ∀ o o', kO p o o' (K o) (K o')) {ns : List Int} {sp gr : Int} (hz : ns.length ≤ 64) (h0 : 0 ≤ sp) (h1 : sp ≤ 500000) (hg : 0 ≤ gr)
  (hq : ∀ (sp' gr' : Int), 0 ≤ sp' → sp' ≤ sp + 100 → 0 ≤ gr' → Q (.bool true) (K (ko ns sp' gr'))) :
  jX W (n + 4) (K (ko ns sp gr)) (.ref 663) [.ref p, p6 nm tc lf ln bf (.lst (jn defs)) nu a g (.lst (jn gds)) gm] Q := by
 wtm_at "def"
 exists jl (jB rfl (lg ?_))
 intro a1
 refine ⟨a1, _, _, rfl, rfl, ?_⟩
 kd_p1
 exists jl (p8 (α := Nat) (by wtm_at "hcap") (jM ?_))
 refine kc P U hz h0 (by exact J3 0 h1) hg (by decide) (by decide) fun d sp1 gr1 hd0 hd1 s0 s1 g1 => ?_
 obtain ⟨d, rfl⟩ : ∃ k : Nat, d = (k : Int) := ⟨d.toNat, by exact J2 2 hd0⟩
 kd_p
 let I1 : IT (List PV) := fun i Z => ∀ (l : List Int) (sp' gr' : Int), 0 ≤ sp' → sp' ≤ sp1 + i → 0 ≤ gr' → Z (jn l) (K (ko ns sp' gr'))
 refine ⟨d, rfl, by exact J9 5 hd1, _, av d, fun c => .int (c : Nat), I1, by wtm_at "crho", rfl, by rw [aq, am]; exact J9 6 hd1, fun Z zz => zz [] sp1 gr1 s0 (by exact J0 18) g1, ?_, ?_⟩
 ·rintro j c hc l sp5 gr5 s8 s9 g5 hyl
  have hj := (aA.mp hc).1
  rw [aq] at hj
  exists ⟨_, by kd_in, nv P (by kd_mem) ?_⟩
  refine oC (xs := jn [-32769, -32768, -129, -128, -1, 0, 127, 128, 255, 256, 32767, 32768, 65535, 65536]) P U (fun o => Vw.refl) (by decide) (by decide) hz s8 (by exact J27 14 s1 s9 h1 hd1 hj) g5 fun x hx sp6 gr6 s10 s11 g6 => ?_
  obtain ⟨v, hv, rfl⟩ := az.mp hx
  exact Of.eq (by simp) (fun Z zz => zz (l ++ [v]) sp6 gr6 s10 (by exact J0 19 s11 s9) g6)
 rintro some sp2 gr2 s2 s3 g2 hyl
 rw [aa, aq] at hyl
 rw [aq] at s3
 have hq' : Q (.bool true) (K (ko ns sp2 gr2)) := hq sp2 gr2 s2 (by exact J27 15 s1 s3 hd1) g2
 generalize K (ko ns sp2 gr2) = H at *
 exists ⟨_, by kd_in, ?_⟩
 exists pc P (by exact J1 8 hyl hd1) ?_
 refine yB P (by exact J1 8 hyl hd1) El Em ?_
 wtm_at "w1"
 refine jR 1 (by decide) .refl .refl (by wtm_at "dat") (fun es => by simp) ?_
 wtm_at "w1"
 kd_p1
 kd_p1
 exists jl (jB rfl (lg ?_))
 intro a2
 refine ⟨a2, _, _, rfl, rfl, ?_⟩
 kd_p1
 exists jl (jB rfl (kP (lg (kN ?_))))
 intro a3
 kd_p
 refine uN Vw.refl (.lst (.head _)) (by rw [am]; simp) fun a4 => ⟨a4, _, _, rfl, rfl, _, _, .one, ?_⟩
 kd_p1
 refine jl (jP (m5 ?_))
 exists nv P (by kd_mem) ?_
 refine BN P hA hG hd hg5 ?_
 exists Bk P (by kd_mem) (jy (kq (α := List Int) (fun l => .int (BM l)) (by wtm_at "hcap") (jN ?_)))
 refine ⟨_, rfl, _, [a.B, a.T, a.C, a.O, defs, g.B, g.T, g.C, g.O, gds], fun l => .lst (jn l), by wtm_at "crho", rfl, by rw [am]; simp, fun l hl => ⟨_, by kd_in, ?_⟩, ?_⟩
 ·have hl5 : l.length ≤ 5000 := by
   simp only [au, bw, or_false] at hl
   rcases hl with rfl | rfl | rfl | rfl | rfl | rfl | rfl | rfl | rfl | rfl
   ·exact hA _ (by simp)
   ·exact hA _ (by simp)
   ·exact hA _ (by simp)
   ·exact hA _ (by simp)
   ·exact hd
   ·exact hG _ (by simp)
   ·exact hG _ (by simp)
   ·exact hG _ (by simp)
   ·exact hG _ (by simp)
   ·exact hg5
  have hl6 := pK hl5
  kd_p
  exists yB P hl5 El Em ?_
  exists kH (x := .int (kz l).2) Vw.refl (by decide) rfl (by decide) ?_
  rw [aa]
  refine ly (nl (by exact J4 3 hl5)) ?_
  exact ⟨rfl, rfl⟩
 rw [show ([a.B, a.T, a.C, a.O, defs, g.B, g.T, g.C, g.O, gds] : List (List Int)).map (fun l => PV.int (BM l)) = jn ([a.B, a.T, a.C, a.O, defs, g.B, g.T, g.C, g.O, gds].map BM) by rfl]
 exists mh (uM Vw.refl ?_)
 rw [decide_eq_true (by simp only [r9, aJ, aC, cX, ef, gw, jf, List.sum_nil]; exact J27 16)]
 exact hq'
end
noncomputable def lH (g : List Int) : List Nat := (av g.length).filter fun s => !decide (g.getD s 0 = -1)
noncomputable def qa (g : List Int) : jL := kj (fun s => !decide (g.getD s 0 = -1)) (fun s => g.getD s 0) g.length
noncomputable def yE (G : List (List Int)) : List Int := G.map fun g => kg (g.filter fun v => !decide (v = -1))
theorem tC {α β : Type} {f : α → β} {L : List α} {i : Nat} {d : β} {e : α} (h : i < L.length) : (L.map f).getD i d = f (L.getD i e) := by
 rw [kD (by simpa using h), kD h, bk]
theorem tD {α : Type} {L : List α} {d : α} : (av L.length).map (fun i => L.getD i d) = L := by
 refine bO (by simp) fun i h1 h2 => ?_
 rw [bk, bL, kD h2]
theorem tE {α β : Type} {f : α → β} {L : List α} {d : α} : (av L.length).map (fun i => f (L.getD i d)) = L.map f := by
 have := congrArg (cT f) (tD (L := L) (d := d))
 rw [aW] at this
 exact this
theorem wt {g : List Int} : (lH g).Pairwise (· < ·) := List.Pairwise.filter _ List.pairwise_lt_range
theorem wu {g : List Int} {s : Nat} : s ∈ lH g ↔ s < g.length ∧ g.getD s 0 ≠ -1 := by
 unfold lH
 rw [bz, aM]
 simp
theorem vh {L : List jL} {tc size : Nat} (h : ∀ d ∈ L, mR d tc) (hl : L.length = size) (ht : tc < 64) (hs : size < 64) : jZ L := ⟨fun d hd => (h d hd).b.ok ht, by exact J2 16 hl hs⟩
theorem Ci {g : List Int} {u : Int} (h : g.length < 64) : o7 (qM g u) := qF h
theorem nF.rests {G : List (List Int)} {others size : Nat} (x : nF G others size) (hs : size < 64) (ho : others < 64) (us : List Int) : jZ (j6 G us) := ⟨fun d hd => by
 obtain ⟨k, hk, rfl⟩ := az.mp hd
 have := x.row _ (jp (d := ([] : List Int)) (aM.mp hk))
 exact Ci (by exact J2 16 this hs), by unfold j6; rw [aa, aq, x.len]; exact ho⟩
theorem Ab {G : List (List Int)} {us : List Int} {k : Nat} (h : k < G.length) : (j6 G us).getD k [] = qM (G.getD k []) (us.getD k 0) := lR h
theorem Ac {g : List Int} {u : Int} {s : Nat} (h : s < g.length) (hn : g.getD s 0 ≠ -1) : (jz (qM g u) (s : Int)).getD u = g.getD s 0 := by
 unfold qM
 rw [rj h]
 show (if (!([-1, u].any (· == g.getD s 0))) = true then some (g.getD s 0) else none).getD u = _
 generalize g.getD s 0 = v at *
 by_cases q : v = u
 ·subst q; simp
 ·rw [if_pos (by simp; exact ⟨fun z => hn z.symm, fun z => q z.symm⟩)]; rfl
theorem yF {L : List jL} {G : List (List Int)} {us defs : List Int} {tc others size : Nat} (hL : ∀ d ∈ L, mR d tc) (hl : L.length = size) (hG : nF G others size) (hu : us.length = others) (hd : defs.length = size) (ht : tc < 64) (hs : size < 64) (ho : others < 64) :
  pG (kQ L) (kQ (j6 G us)) (G.map lH) us defs tc L G others size where
 aok := by have := u3 (vh hL hl ht hs); rwa [hl] at this
 gok := by
  have := u3 (hG.rests hs ho us)
  rwa [show (j6 G us).length = others by simp [j6, hG.len]] at this
 lms := by rw [aa, hG.len]
 lgds := hu
 ldefs := hd
 inc := fun M hM => by obtain ⟨g, hg, rfl⟩ := az.mp hM; exact wt
 exp := fun s t h1 h2 => by
  unfold lX
  show (lG ((kk L).getD s 0) (lP L) (jQ L) ((oI (km L)).getD s 0) t).getD 0 = _
  rw [sm (vh hL hl ht hs) (by exact J0 4 hl h1)]
 goto := fun s k h1 h2 => by
  have hk : k < G.length := by rw [hG.len]; exact h2
  have hgl := hG.row _ (jp (d := ([] : List Int)) hk)
  unfold n0
  rw [show ((tc + k : Nat) : Int) - tc = (k : Nat) by exact J6 20, if_neg (by rw [aa]; exact J27 17 hk), ag, tC (e := ([] : List Int)) hk]
  by_cases q : (G.getD k []).getD s 0 = -1
  ·rw [if_pos (fun z => (wu.mp z).2 q), q]
  ·rw [if_neg (fun z => z (wu.mpr ⟨by exact J0 4 hgl h1, q⟩))]
   show (lG ((kk (j6 G us)).getD k 0) (lP (j6 G us)) (jQ (j6 G us)) ((oI (km (j6 G us))).getD k 0) s).getD _ = _
   rw [sm (hG.rests hs ho us) (by simp [j6]; exact hk), Ab hk]
   exact Ac (by exact J0 4 hgl h1) q
theorem xk {d : jL} {n : Nat} (h : mR d n) : kj (fun t => !decide ((jz d (t : Int)).getD 0 = 0)) (fun t => (jz d (t : Int)).getD 0) n = d := by
 refine yu lZ h.b.srt fun x => ⟨fun hx => ?_, fun hx => ?_⟩
 ·obtain ⟨t, h1, h2, rfl⟩ := lY hx
  cases e : jz d (t : Int) with
  | none => rw [e] at h2; simp at h2
  | some v => simp only [cK]; exact ls e
 ·obtain ⟨k, v⟩ := x
  have hr := h.b.rng _ hx
  have hv := h.v _ hx
  have hg := h.b.srt.get hx
  obtain ⟨t, rfl⟩ : ∃ t : Nat, k = (t : Int) := ⟨k.toNat, by simp at hr; exact J4 21 hr⟩
  simp only at hg hv hr
  unfold kj
  refine az.mpr ⟨t, bz.mpr ⟨aM.mpr (by exact J4 22 hr), ?_⟩, by show ((t : Int), (jz d (t : Int)).getD 0) = _; rw [hg]; rfl⟩
  rw [hg]; simpa using hv
theorem rR {p p' : Nat → Bool} {f f' : Nat → Int} {n : Nat} (h : ∀ t, t < n → p t = p' t ∧ f t = f' t) : kj p f n = kj p' f' n := by
 unfold kj
 rw [iy (q := p') fun t ht => (h t (aM.mp ht)).1]
 exact bQ fun t ht => by rw [(h t (aM.mp (bz.mp ht).1)).2]
theorem Cj {L : List jL} {g : AR} {ms : List (List Nat)} {gds defs : List Int} {G : List (List Int)} {tc others size : Nat} {a : AR} (x : pG a g ms gds defs tc L G others size) (hL : ∀ d ∈ L, mR d tc) (hl : L.length = size) : rL a tc size = L := by
 unfold rL
 refine bO (by simp [hl]) fun s h1 h2 => ?_
 rw [bk, bL]
 have e := kD (d := ([] : jL)) h2
 rw [← xk (hL _ (bJ h2))]
 unfold rZ
 refine rR fun t ht => ?_
 rw [x.exp s t (by exact J0 12 hl h2) ht, e]
 exact ⟨rfl, rfl⟩
theorem Ck {L : List jL} {g : AR} {ms : List (List Nat)} {gds defs : List Int} {G : List (List Int)} {tc others size : Nat} {a : AR} (x : pG a g ms gds defs tc L G others size) (hG : nF G others size) : qG tc ms g gds others size = G.map qa := by
 unfold qG
 refine bO (by simp [hG.len]) fun k h1 h2 => ?_
 have h3 : k < G.length := by simpa using h2
 have hgl := hG.row _ (bJ h3)
 rw [bk, bL, bk]
 unfold r8 qa
 rw [hgl]
 refine rR fun s hs => ?_
 rw [x.goto s k hs (by rw [← hG.len]; exact h3), kD h3]
 exact ⟨rfl, rfl⟩
theorem wv {g : List Int} : (qa g).map bB = g.filter fun v => !decide (v = -1) := by
 unfold qa kj
 rw [aW]
 have := congrArg (List.filter fun v : Int => !decide (v = -1)) (tD (L := g) (d := (0 : Int)))
 rw [eM] at this
 exact this
theorem Cl {g : List Int} : np (qa g) = lH g := by
 unfold np qa kj lH
 rw [aW]
 exact (bQ fun t _ => by simp).trans (List.map_id _)
theorem Cm {g : List Int} {u : Int} : kr u (qa g) = qM g u := by
 unfold kr qa qM kj
 rw [eM, List.filter_filter]
 congr 1
 refine iy fun t _ => ?_
 simp only [cI, ja, List.any_nil, jb]
 rw [eN]
 simp
 constructor
 ·rintro ⟨h1, h2⟩; exact ⟨fun z => h2 z.symm, fun z => h1 z.symm⟩
 ·rintro ⟨h1, h2⟩; exact ⟨fun z => h2 z.symm, fun z => h1 z.symm⟩
theorem Ad {G : List (List Int)} : usuals (G.map qa) = yE G := by
 unfold usuals yE
 rw [aW]
 exact bQ fun g _ => by show kg ((qa g).map bB) = _; rw [wv]
theorem Cn {G : List (List Int)} : rests (G.map qa) = j6 G (yE G) := by
 unfold rests j6
 rw [aW]
 refine bO (by simp) fun k h1 h2 => ?_
 have h3 : k < G.length := by simpa using h1
 rw [bk, bk, bL]
 show kr (kg ((qa G[k]).map bB)) (qa G[k]) = _
 rw [Cm, wv, kD h3]
 unfold yE
 rw [tC (e := ([] : List Int)) h3, kD h3]
theorem DF {G : List (List Int)} : (G.map qa).map np = G.map lH := by
 rw [aW]
 exact bQ fun g _ => Cl
theorem Fm {M : List Nat} : (M.map fun t => (2 : Int) ^ t).sum = ((pw 0 M : Nat) : Int) := by
 induction M with
 | nil => rfl
 | cons x M ih =>
  rw [oq, aC, jf, ih, Nat.sub_zero]
  push_cast
  rfl
noncomputable def Ae (count others : Nat) : List Str := (["$end", "error", "$undefined", "a", "b"] : List Str).take count ++ (["$accept", "s", "t"] : List Str).take others
theorem DG {count others : Nat} (h : count ≤ 5) (h2 : others ≤ 3) : (Ae count others).length = count + others := by
 unfold Ae; rw [ce, bg, bg]; simp; exact J27 18 h2 h
theorem Af {count others : Nat} : (Ae count others).Nodup := by
 have : ((["$end", "error", "$undefined", "a", "b"] : List Str) ++ (["$accept", "s", "t"] : List Str)).Nodup := by decide +kernel
 exact this.sublist (List.Sublist.append (eb _ _) (eb _ _))
theorem oE {a : AR} {rows : Nat} (x : p5 a rows) : ∀ X ∈ tH a, X.length ≤ 5000 := fun X hX => by
 have h1 := x.b
 have h2 := x.o
 have h3 := x.ct
 have h4 := x.t
 have h5 := x.r
 simp only [au, bw, or_false] at hX
 rcases hX with rfl | rfl | rfl | rfl <;> lia
theorem tV (P : PW W) {K : HO → HH} {p : Addr} (U : ∀ o o', kO p o o' (K o) (K o')) {ns : List Int} {sp gr : Int} (hz : ns.length ≤ 64) (h0 : 0 ≤ sp) (h1 : sp ≤ 400000) (hg : 0 ≤ gr)
  (hq : ∀ (sp' gr' : Int), 0 ≤ sp' → sp' ≤ sp + 1000 → 0 ≤ gr' → Q (.bool true) (K (ko ns sp' gr'))) : jX W (n + 10) (K (ko ns sp gr)) (.ref 668) [.ref p] Q := by
 wtm_at "def"
 exists jl (k5 (xs := ["size", "count", "others", "many"]) rfl (by decide) (.inr rfl) ?_)
 exists kc P U hz h0 (by exact J27 19 h1) hg (by decide) (by decide) fun d1 sp1 gr1 a0 a1 s0 s1 g1 => ?_
 exists kc P U hz s0 (by exact J27 20 s1 h1) g1 (by decide) (by decide) fun d2 sp2 gr2 b0 b1 s2 s3 g2 => ?_
 exists kc P U hz s2 (by exact J27 21 s3 s1 h1) g2 (by decide) (by decide) fun d3 sp3 gr3 c0 c1 s4 s5 g3 => ?_
 exists kc P U hz s4 (by exact J27 22 s5 s1 s3 h1) g3 (by decide) (by decide) fun d4 sp4 gr4 e0 e1 s6 s7 g4 => ?_
 refine ⟨_, _, rfl, .cons (by kd_in) (.cons (by kd_in) (.cons (by kd_in) (.cons (by kd_in) .nil))), ?_⟩
 obtain ⟨size, hsize⟩ : ∃ k : Nat, 1 + d1 = (k : Int) := ⟨(1 + d1).toNat, by exact J9 20 a0⟩
 obtain ⟨count, hcount⟩ : ∃ k : Nat, 4 + d2 = (k : Int) := ⟨(4 + d2).toNat, by exact J27 23 b0⟩
 obtain ⟨others, hothers⟩ : ∃ k : Nat, 1 + d3 = (k : Int) := ⟨(1 + d3).toNat, by exact J9 20 c0⟩
 obtain ⟨many, hmany⟩ : ∃ k : Nat, 2 + d4 = (k : Int) := ⟨(2 + d4).toNat, by exact J28 0 e0⟩
 rw [hsize, hcount, hothers, hmany]
 have z1 : 0 < size := by exact J28 1 a0 hsize
 have z2 : size ≤ 4 := by exact J28 2 a1 hsize
 have z3 : 4 ≤ count := by exact J28 3 b0 hcount
 have z4 : count ≤ 5 := by exact J28 4 b1 hcount
 have z5 : 1 ≤ others := by exact J28 5 c0 hothers
 have z6 : others ≤ 3 := by exact J28 6 c1 hothers
 have z7 : 2 ≤ many := by exact J28 7 e0 hmany
 have z8 : many ≤ 4 := by exact J28 8 e1 hmany
 have hsp : sp4 ≤ sp + 4 := by exact J28 9 s7 s1 s3 s5
 clear hsize hcount hothers hmany a0 a1 b0 b1 c0 c1 e0 e1 s0 s1 s2 s3 s4 s5 s7 g1 g2 g3
 refine jl (k5 (xs := ["lines", "goals"]) rfl (by decide) (.inr rfl) ?_)
 kd_p1
 exists jy (nv P (by kd_mem) ?_)
 refine DD P U hz s6 (by exact J28 10 hsp h1) g4 z1 z2 z4 z7 z8 fun L sp5 gr5 hLl hL s8 s9 g5 => ?_
 exists jy (nv P (by kd_mem) ?_)
 exists DE P U hz s8 (by exact J28 11 s9 hsp h1) g5 z1 z2 z6 fun G sp6 gr6 hG s10 s11 g6 => ?_
 refine ⟨_, _, rfl, .cons (by kd_in) (.cons (by kd_in) .nil), ?_⟩
 exists jl (p8 (α := Nat) (by wtm_at "hcap") (jM ?_))
 let I1 : IT (List PV) := fun i Z => ∀ (l : List Int) (sp' gr' : Int), 0 ≤ sp' → sp' ≤ sp6 + i → 0 ≤ gr' → Z (jn l) (K (ko ns sp' gr'))
 refine ⟨size, rfl, by exact J1 18 z2, _, av size, fun c => .int (c : Nat), I1, by wtm_at "crho", rfl, by rw [aq, am]; exact J1 9 z2, fun Z zz => zz [] sp6 gr6 s10 (by exact J0 18) g6, ?_, ?_⟩
 ·rintro j c hc l sp7 gr7 s12 s13 g7 hyl
  have hj := (aA.mp hc).1
  rw [aq] at hj
  exists ⟨_, by kd_in, nv P (by kd_mem) ?_⟩
  refine kc P U hz s12 (by exact J28 12 s11 s9 hsp s13 h1 z2 hj) g7 (by exact J28 13 z7) (by exact J9 14 z8) fun d sp8 gr8 e0 e1 s14 s15 g8 => ?_
  exact Of.eq (by simp) (fun Z zz => zz (l ++ [d]) sp8 gr8 s14 (by exact J0 19 s15 s13) g8)
 rintro defs sp7 gr7 s12 s13 g7 hyl
 rw [aa, aq] at hyl
 rw [aq] at s13
 have xGl := hG.len
 have hGz : G.length ≤ sizeLine := by rw [am]; exact J1 3 z6 xGl
 refine ⟨_, by kd_in, ?_⟩
 exists jl (lz (α := List Int) (fun g => .int (om g)) (by wtm_at "hcap") (jN ?_))
 refine ⟨_, rfl, _, G, fun l => .lst (jn l), by wtm_at "crho", rfl, hGz, fun g hg => ⟨_, by kd_in, ?_⟩, ?_⟩
 ·have hgl := hG.row g hg
  exists vP P (by kd_mem) ?_
  refine sf (ns := g) Vw.refl (fun z => by rw [z] at hgl; simp at hgl; exact J28 14 hgl z1) ?_
  exact ⟨rfl, rfl⟩
 rw [show G.map (fun g => PV.int (om g)) = jn (G.map om) by show _ = cT _ (cT _ _); rw [aW]; rfl]
 refine ⟨_, by kd_in, ?_⟩
 exists jl (lz (α := List Int) (fun g => .int (pw 0 (lH g) : Nat)) (by wtm_at "hcap") (jN ?_))
 refine ⟨_, rfl, _, G, fun l => .lst (jn l), by wtm_at "crho", rfl, hGz, fun g hg => ⟨_, by kd_in, ?_⟩, ?_⟩
 ·have hgl := hG.row g hg
  exists Bk P (by kd_mem) (jy (lh (α := Nat) (fun s => !decide (g.getD s 0 = -1)) (fun s => .int ((2 : Int) ^ s)) (by wtm_at "hcap") (jM ?_)))
  refine ⟨size, rfl, by exact J1 18 z2, _, av size, fun c => .int (c : Nat), by wtm_at "crho", rfl, by rw [aq, am]; exact J1 9 z2, fun s hs => ⟨_, by kd_in, ?_⟩, ?_⟩
  ·have hs2 := aM.mp hs
   kd_p
   refine j7 Vw.refl (by exact J0 0) (by exact J0 2 hgl hs2) (by exact J0 16 z2 hgl) ?_
   rw [ag]
   kd_p
   exists ⟨by simp, rfl, fun _ => ?_⟩
   refine qP (by exact J0 0) (by exact J28 15 z2 hs2) (by decide) ?_
   rw [ag]
   exact ⟨rfl, rfl⟩
  ·rw [show ((av size).filter fun s => !decide (g.getD s 0 = -1)).map (fun s => PV.int ((2 : Int) ^ s)) = jn ((lH g).map fun s => (2 : Int) ^ s) by unfold lH; rw [hgl]; show _ = cT _ (cT _ _); rw [aW]; rfl]
   refine mh (uM Vw.refl ?_)
   rw [Fm]
   exact ⟨rfl, rfl⟩
 rw [show G.map (fun g => PV.int (pw 0 (lH g) : Nat)) = (G.map lH).map fun M => PV.int (pw 0 M : Nat) by rw [aW]; rfl]
 refine ⟨_, by kd_in, ?_⟩
 exists jl (jB rfl (kP (lg (kN (ty ?_)))))
 intro b1
 kd_p
 refine ⟨_, _, .lst (.head _), rfl, by rw [am]; decide, fun b2 => ?_⟩
 exists ty ?_
 intro b3
 kd_p
 refine ⟨_, _, .lst (.head _), rfl, by rw [am]; decide, fun b4 => ?_⟩
 refine uN (.lst (.tail _ (.tail _ (.head _)))) (.lst (.head _)) (by rw [bg, bg, am]; exact J28 16 z6 z4) fun b5 => ⟨b5, _, _, rfl, rfl, _, _, .four, ?_⟩
 rw [show iB count [PV.str "$end", PV.str "error", PV.str "$undefined", PV.str "a", PV.str "b"] ++ iB others [PV.str "$accept", PV.str "s", PV.str "t"] = um (Ae count others) by unfold Ae; show _ = cT _ _; rw [aJ, eE, eE]; rfl]
 have hnl := DG z4 z6
 have hnd := Af (count := count) (others := others)
 generalize Ae count others = names at *
 refine ⟨_, by kd_in, ?_⟩
 refine jl (jB rfl ?_)
 kd_p1
 kd_p1
 kd_p1
 kd_p1
 kd_p1
 exists jy (kP (lg (kN ?_)))
 intro c1
 kd_p
 refine yW (.lst (.head _)) (by exact J0 0) (by exact J5 2 z8) (by simp; exact J1 9 z8) fun c2 => ⟨c2, _, _, rfl, rfl, _, _, .one, ?_⟩
 rw [show (bd ((many : Int)).toNat [PV.int (count : Nat)]).flatten = jn (bd many (count : Nat)) by rw [ag]; simp]
 exists jy (kP (lg (kN ?_)))
 intro c3
 kd_p
 intro c4
 kd_p
 refine yW (.lst (.head _)) (by exact J28 17 z7) (by exact J28 18 z8) (by simp; exact J28 19 z8) fun c5 => ?_
 wtm_at "w1"
 refine uN (.lst (.tail _ (.tail _ (.head _)))) (.lst (.head _)) (by rw [am]; simp; exact J28 20 z8) fun c6 => ⟨c6, _, _, rfl, rfl, _, _, .three, ?_⟩
 generalize ([PV.int 2] ++ (bd ((many : Int) - 1).toNat [PV.int 1]).flatten : List PV) = lens
 exists jy (kP (lg (kN ?_)))
 intro c7
 kd_p
 refine yW (.lst (.head _)) (by exact J0 0) (by exact J5 2 z8) (by simp; exact J1 9 z8) fun c8 => ⟨c8, _, _, rfl, rfl, _, _, .one, ?_⟩
 generalize ((bd ((many : Int)).toNat [PV.int 0]).flatten : List PV) = befs
 kd_p
 have hRL := vh hL hLl (by exact J2 3 z4) (by exact J1 19 z2)
 have hC1 : pG (kQ L) (kQ (j6 G (G.map om))) (G.map lH) (G.map om) defs count L G others size := yF hL hLl hG (by rw [aa, xGl]) hyl (by exact J2 3 z4) (by exact J1 19 z2) (by exact J1 7 z6)
 have hC2 : pG (kQ L) (kQ (j6 G (yE G))) (G.map lH) (yE G) defs count L G others size := yF hL hLl hG (by unfold yE; rw [aa, xGl]) hyl (by exact J2 3 z4) (by exact J1 19 z2) (by exact J1 7 z6)
 have hR1 := hG.rests (by exact J1 19 z2) (by exact J1 7 z6) (G.map om)
 have hR2 := hG.rests (by exact J1 19 z2) (by exact J1 7 z6) (yE G)
 have hgc := Ck hC1 hG
 have har := Cj hC1 hL hLl
 exists kx P hRL ?_
 exists yC P hG (by rw [aa, xGl]) z2 z6 ?_
 exists kx P hR1 ?_
 exists BK P (a := kQ L) (g := kQ (j6 G (G.map om))) hnd (by exact J9 21 hnl) (by exact J9 22 z6 z4 hnl) ?_
 refine Fh P hC1.gok hC1.aok hC1.lms hC1.lgds hC1.inc (by exact J1 19 z2) (by exact J9 21 hnl) (by exact J2 3 z4) (by exact J28 21 z6 z4 hnl) hnd hyl (G.map qa) (by rw [show names.length - count = others by exact J28 22 hnl]; exact hgc) ?_
 rw [har, Cn, Ad, DF]
 kd_p
 exists yD P hC1 hLl (fun d hd => (hL d hd).b) hG z2 (by exact J9 23 z3) z4 z6 ?_
 show jA false _ _
 exists jA.ff ?_
 exists yD P hC2 hLl (fun d hd => (hL d hd).b) hG z2 (by exact J9 23 z3) z4 z6 ?_
 show jA false _ _
 refine jA.ff ?_
 wtm_at "w1"
 kd_p1
 kd_p1
 exists jl (lz (α := List Int) (fun g => .int (kg (g.filter fun v => !decide (v = -1)))) (by wtm_at "hcap") (jN ?_))
 refine ⟨_, rfl, _, G, fun l => .lst (jn l), by wtm_at "crho", rfl, hGz, fun g hg => ⟨_, by kd_in, ?_⟩, ?_⟩
 ·have hgl := hG.row g hg
  exists nv P (by kd_mem) (jy (lh (α := Int) (fun v => !decide (v = -1)) PV.int (by wtm_at "hcap") (jN ?_)))
  refine ⟨_, rfl, _, g, PV.int, by wtm_at "crho", rfl, by rw [am]; exact J2 9 z2 hgl, fun v hv => ⟨_, by kd_in, ?_⟩, ?_⟩
  ·kd_p
   exists ⟨by simp, rfl, fun _ => ?_⟩
   exact rfl
  ·refine mh (DC P (bH (bm _ _) (by exact J28 23 z2 hgl)) ?_)
   exact ⟨rfl, rfl⟩
 rw [show G.map (fun g => PV.int (kg (g.filter fun v => !decide (v = -1)))) = jn (yE G) by unfold yE; show _ = cT _ (cT _ _); rw [aW]; rfl]
 refine ⟨_, by kd_in, ?_⟩
 exists jl (kG (jS ?_))
 exists lx (w := count) P hRL ⟨fun d hd => (hL d hd).b.len, bH (ft (show L.length ≤ 4 by exact J29 0 z2 hLl) z4) (by decide)⟩ ?_
 refine jR (t := GN L) 2 (by decide) (by rw [xh]; exact .refl) .refl (by wtm_at "dat") (fun es => by simp) ?_
 kd_p1
 kd_p1
 kd_p1
 exists jl (jB rfl (nv P (by kd_mem) ?_))
 refine yC P hG (by unfold yE; rw [aa, xGl]) z2 z6 ?_
 refine ⟨_, by kd_in, ?_⟩
 exists jl (kG (jS ?_))
 exists lx (w := size) P hR2 ⟨fun d hd => by
   obtain ⟨k, hk, rfl⟩ := az.mp hd
   have := hG.row _ (jp (d := ([] : List Int)) (aM.mp hk))
   exact bj kJ (by exact J4 19 this), bH (ft (show (j6 G (yE G)).length ≤ 3 by simp [j6]; exact J29 1 z6 xGl) z2) (by decide)⟩ ?_
 refine jR (t := GN (j6 G (yE G))) 2 (by decide) (by rw [xh]; exact .refl) .refl (by wtm_at "dat") (fun es => by simp) ?_
 kd_p1
 kd_p1
 kd_p1
 exists jl (lz (α := List Int) (fun g => .lst (oY (lH g))) (by wtm_at "hcap") (jN ?_))
 refine ⟨_, rfl, _, G, fun l => .lst (jn l), by wtm_at "crho", rfl, hGz, fun g hg => ⟨_, by kd_in, lh (α := Nat) (fun s => !decide (g.getD s 0 = -1)) (fun s => .int (s : Nat)) (by wtm_at "hcap") (jM ?_)⟩, ?_⟩
 ·have hgl := hG.row g hg
  kd_p
  refine ⟨size, rfl, by exact J1 18 z2, _, av size, fun c => .int (c : Nat), by wtm_at "crho", rfl, by rw [aq, am]; exact J1 9 z2, fun s hs => ⟨_, by kd_in, ?_⟩, ?_⟩
  ·have hs2 := aM.mp hs
   kd_p
   refine j7 Vw.refl (by exact J0 0) (by exact J0 2 hgl hs2) (by exact J0 16 z2 hgl) ?_
   rw [ag]
   kd_p
   exists ⟨by simp, rfl, fun _ => ?_⟩
   exact rfl
  ·unfold lH
   rw [hgl]
   exact ⟨rfl, rfl⟩
 refine ⟨_, by kd_in, ?_⟩
 exists jl (kG (rp (jS (kq (α := Nat) (fun k => .lst (oY (lH (G.getD k [])))) (by wtm_at "hcap") (jM ?_)))))
 refine ⟨others, rfl, by exact J1 5 z6, _, av others, fun c => .int (c : Nat), by wtm_at "crho", rfl, by rw [aq, am]; exact J2 5 z6, fun k hk => ⟨_, by kd_in, ?_⟩, ?_⟩
 ·have hk2 := aM.mp hk
  exists nv P (by kd_mem) ?_
  rw [show (count : Int) + (k : Int) = ((count + k : Nat) : Int) by exact J9 17]
  refine tT P (fun M hM => ?_) (by rw [aa]; exact J0 6 z6 xGl) (by rw [aa]; exact J0 4 xGl hk2) ?_
  ·obtain ⟨g, hg, rfl⟩ := az.mp hM
   have hgl := hG.row g hg
   exact ⟨wt, bj (bm _ _) (by rw [aq]; exact J29 2 z2 hgl)⟩
  ·rw [tC (e := ([] : List Int)) (by exact J0 4 xGl hk2)]
   exact ⟨rfl, rfl⟩
 rw [show (av others).map (fun k => PV.lst (oY (lH (G.getD k [])))) = G.map fun g => PV.lst (oY (lH g)) by rw [← xGl]; exact tE (f := fun g => PV.lst (oY (lH g)))]
 kd_p
 exists jR 2 (by decide) .refl .refl (kX fun _ => yx) (fun es => by simp) ?_
 refine Ch P (oE hC2.aok) (oE hC2.gok) (by exact J0 16 z2 hyl) (by rw [hC2.lgds]; exact J8 23 z6) U hz s12 (by exact J29 3 s11 s9 hsp s13 h1 z2) g7 fun sp8 gr8 s14 s15 g8 => ?_
 have hq' : Q (.bool true) (K (ko ns sp8 gr8)) := hq sp8 gr8 s14 (by exact J29 4 s15 s9 s11 hsp s13 z2) g8
 generalize K (ko ns sp8 gr8) = H at *
 kd_p
 show jA false _ _
 refine jA.ff ?_
 have hT1 := pK (L := (kQ L).T) (oE hC2.aok _ (.tail _ (.head _)))
 have hT2 := pK (L := (kQ (j6 G (yE G))).T) (oE hC2.gok _ (.tail _ (.head _)))
 kd_p
 exists jR 1 (by decide) .refl .refl u9 (fun es => by simp) ?_
 exists jR 1 (by decide) .refl .refl (kX fun _ => pQ) (fun es => by simp) ?_
 exists tu P (oE hC2.aok _ (.tail _ (.head _))) (oE hC2.gok _ (.tail _ (.head _))) ?_
 rw [aa, aa]
 refine jA.neg (by exact J29 5) ?_
 wtm_at "w1"
 kd_p1
 kd_p1
 refine jl (jP (uU (m5 ?_)))
 exists nv P (by kd_mem) ?_
 have hsn : (um names).length ≤ sizeLine := by rw [aa, am]; exact J29 6 z6 z4 hnl
 exists Dr P (names := names) (oE hC1.aok _ (.head _)) (by exact J9 22 z6 z4 hnl) (oE hC2.aok _ (.tail _ (.head _))) (oE hC2.gok _ (.tail _ (.head _))) ?_
 rw [aa]
 exists ly (nl (by exact J29 7 z2)) ?_
 rw [hC1.aok.b, decide_eq_true rfl]
 refine ⟨_, rfl, jA.tt ?_⟩
 refine Bo (m5 ?_)
 kd_p1
 kd_p1
 kd_p1
 kd_p1
 kd_p1
 kd_p1
 kd_p1
 kd_p1
 kd_p1
 kd_p1
 kd_p1
 kd_p1
 kd_p1
 kd_p1
 exists jy (kP (lg (kN ?_)))
 intro c9
 kd_p
 refine yW (.lst (.head _)) (by exact J0 0) (by exact J5 2 z8) (by simp; exact J1 9 z8) fun c10 => ⟨c10, _, _, rfl, rfl, _, _, .one, ?_⟩
 rw [show (bd ((many : Int)).toNat [PV.int (count : Nat)]).flatten = jn (bd many (count : Nat)) by rw [ag]; simp]
 kd_p
 refine qo 2 (by decide) .refl .refl (sn (pj (kX fun _ => Ei) (pj u9 ve))) ?_
 exact hq'
theorem GS (P : PW W) {ns : List Int} (hz : ns.length ≤ 64) (hq : ∀ H', Q (.bool true) H') : jX W (n + 11) H (.ref 719) [.lst (jn ns)] Q := by
 have hz' : (ns.take 40).length ≤ 64 := by rw [bg]; exact J29 8
 wtm_at "def"
 exists jl (jB rfl (nv P (by kd_mem) ?_))
 refine GM P hz fun p => ?_
 have U : ∀ o o', kO p o o' ((p, o) :: H) ((p, o') :: H) := fun _ _ => .head
 refine ⟨_, by kd_in, ?_⟩
 exists jl (kG (oQ (n9 (nv P (by kd_mem) (jy (nv P (by kd_mem) ?_))))))
 refine BX (K := fun o => (p, o) :: H) P U hz' (by decide) (by decide) (by decide) fun R sp1 gr1 r0 r1 hR s0 s1 g1 => ?_
 exists mh (wj P (by exact J29 9 r0) r1 hR ?_)
 show jA false _ _
 refine jA.ff ?_
 kd_p1
 exists jl (oh rfl rfl (nv P (by kd_mem) ?_))
 refine wn (K := fun o => (p, o) :: H) P U hz' s0 (by exact J29 10 s1) g1 fun lines tags cnt sp2 gr2 hA s2 s3 g2 => ?_
 refine mU (xs := ["lines", "marks"]) (ps := [j3 lines, n3 tags]) Vw.refl rfl (.cons (by kd_in) (.cons (by kd_in) .nil)) ?_
 exists jl (p8 (α := Nat) (by wtm_at "hcap") (jM ?_))
 have xs0 := hA.s0
 have xs1 := hA.s1
 have xc0 := hA.c0
 have xc1 := hA.c1
 have hl0 : (lines.getD 0 []).length = cnt := hA.row _ (jp xs0)
 have hsl : ((jn (lines.getD 0 [])).length) ≤ sizeLine := by rw [aa, am]; exact J1 3 xc1 hl0
 let I1 : IT (List PV) := fun i Z => ∀ (l : List Int) (sp' gr' : Int), (∀ c ∈ l, 0 ≤ c ∧ c < cnt) → 0 ≤ sp' → sp' ≤ sp2 + i → 0 ≤ gr' → Z (jn l) ((p, ko (ns.take 40) sp' gr') :: H)
 refine ⟨5, rfl, by decide, _, av 5, fun c => .int (c : Nat), I1, by wtm_at "crho", rfl, by rw [aq, am]; decide, fun Z zz => zz [] sp2 gr2 (by simp) s2 (by exact J0 18) g2, ?_, ?_⟩
 ·rintro j c hc l sp3 gr3 hl s4 s5 g3 hyl
  have hj := (aA.mp hc).1
  rw [aq] at hj
  exists ⟨_, by kd_in, nv P (by kd_mem) ?_⟩
  refine kA Vw.refl (by decide) xs0 (by decide) ?_
  rw [show (0 : Int).toNat = 0 from rfl]
  kd_p
  rw [aa, hl0]
  refine kc (K := fun o => (p, o) :: H) P U hz' s4 (by exact J29 11 s3 s5 s1 hj) g3 (by exact J0 14 xc0) (by exact J8 11 xc1) fun d sp4 gr4 e0 e1 s6 s7 g4 => ?_
  refine Of.eq (by simp) (fun Z zz => zz (l ++ [d]) sp4 gr4 (fun c hc => ?_) s6 (by exact J0 19 s7 s5) g4)
  rcases aQ.mp hc with hc | hc
  ·exact hl c hc
  ·simp at hc; subst hc; exact ⟨e0, e1⟩
 rintro word sp3 gr3 hw s4 s5 g3 hyl
 rw [aa, aq] at hyl
 rw [aq] at s5
 refine ⟨_, by kd_in, ?_⟩
 exists jl (kG (rp (oQ (n9 (nv P (by kd_mem) ?_)))))
 exists qL P hA hw hyl ?_
 show jA false _ _
 exists jA.ff ?_
 exists tV (K := fun o => (p, o) :: H) P U hz' s4 (by exact J29 12 s3 s5 s1) g3 fun sp4 gr4 s6 s7 g4 => ?_
 show jA false _ _
 refine jA.ff ?_
 kd_p1
 refine jA.ff ?_
 kd_p1
 exists jl (jG ?_)
 let I2 : IT jr := fun i Z => ∀ (sp' gr' : Int), 0 ≤ sp' → sp' ≤ sp4 + 1000 * i → 0 ≤ gr' → Z [lc "script" (.lst (jn ns)), cc "pen" (.ref p), cc "lines" (j3 lines), lc "marks" (n3 tags), lu "turn", lc "word" (.lst (jn word)), gb "_law_pen", gb "_law_rows_hold", gb "_law_sparse", gb "_law_automaton", gb "range", gb "_law_automaton_holds", gb "_law_tables_hold", gb "_law_arrays_hold"] ((p, ko (ns.take 40) sp' gr') :: H)
 refine ⟨3, rfl, by decide, I2, fun Z zz => zz sp4 gr4 s6 (by exact J29 13) g4, ?_, ?_⟩
 ·rintro i hi sp5 gr5 s8 s9 g5
  refine ⟨_, by kd_in, ?_⟩
  exists jl (kG (oQ (n9 (nv P (by kd_mem) ?_))))
  exists Ca (K := fun o => (p, o) :: H) P U hz' s8 (by exact J29 14 s7 s3 s5 s9 s1 hi) g5 fun sp6 gr6 s10 s11 g6 => ?_
  show jA false _ _
  exists jA.ff ?_
  exact jv.nx (by kd_all) (fun Z zz => zz sp6 gr6 s10 (by exact J29 15 s11 s9) g6)
 ·rintro sp5 gr5 s8 s9 g5
  kd_p
  exact hq _
theorem ww {P : Params} {h : Heap} : ∀ {vs : List Value} {ns : List Int}, WellAll P h vs (ofPys (ns.map PyData.int)) → IntsAre vs ns
 | _, [], w => by cases w; exact .nil
 | _, n :: ns, w => by
  cases w with
  | cons a b => cases a with | int i t => exact .cons _ _ (ww b)
theorem GT {h : Heap} {K : Frag} (hK : K.In h) {m : Str → Option Value} (hn : h.Ns mainGlobals m) (e : (K.lookup 3).any (fun o => match o with | ⟨_, _, .dict _ _, _⟩ => true | _ => false) = true) (x : Str) : m x = tP K x := by
 obtain ⟨o, es, ep, h1, h2, _, h4⟩ := hn
 unfold tP
 cases q : K.lookup 3 with
 | none => rw [q] at e; cases e
 | some o' =>
  have : o' = o := bD ((hK 3 o' q).symm.trans h1)
  subst this
  obtain ⟨c, dd, dt, sl⟩ := o'
  subst h2
  rw [← h4 x]
  unfold nsFind findBy
  obtain ⟨l⟩ := es
  show i4 _ (Array.find? _ l.toArray) = i4 _ (List.find? _ l)
  rw [List.find?_toArray]
noncomputable def GI (s : Shared) : Gh := ⟨fun b => s.heap.get? b, fun _ => none⟩
theorem xn {W : Wd} {s : Shared} (h0 : W.B0 = s.heap) (h1 : W.os0 = s.os) (hg : s.gens = #[]) : HR W (GI s) [] s where
 bas := fun b o e => by rw [h0] at e; exact e
 bown := fun b i e => by cases e
 imm := fun b o e => ⟨e, rfl⟩
 nodup := .nil
 slot := fun a o h => by cases h
 os := h1.symm
 gens := hg
theorem IB {W : Wd} (P : PW W) {s : Shared} (h0 : W.B0 = s.heap) (h1 : W.os0 = s.os) (hg : s.gens = #[]) {a : Addr} {ns : List Int} {Pm : Params} (hw : Well Pm s.heap (.ref a) (ofPy (.list (ns.map PyData.int)))) (hz : ns.length ≤ 63) :
  wpAny (model W.prog W.w) callerA (PySem.call (.ref 719) [.ref a]) (fun v s' => v = .bool true ∧ (∀ b o, s.heap.get? b = some o → s'.heap.get? b = some o) ∧ s'.os = s.os ∧ s'.gens = #[]) mL s := by
 have hr := xn h0 h1 hg
 have L := GS (n := 0) (H := []) (Q := fun p _ => p = .bool true) P (ns := ns) (by exact J13 22 hz) fun _ => rfl
 cases hw with
 | list e wa =>
  refine ay (L.toN callerA (GI s) s _ ⟨rfl, by decide, by decide⟩ hr ⟨.ref a, _, rfl, ⟨a, _, _, rfl, e, xL (ww wa)⟩, rfl⟩) (fun v s' h => ?_) fun _ _ x => x
  obtain ⟨G', p, H', e1, r1, v1, rfl⟩ := h
  exact ⟨by exact v1, fun b o hb => e1.keep b o hb rfl (by simp), r1.os.trans h1, r1.gens⟩
theorem J : PySem.Challenge.rw_nn0384_01.Holds := head (by
 intro w s₀ s₁ mg mb G Y fa o pm cd doc dV kV ho hd hcd hD hmg hg args vals as hpre hlay hrd hwl hlo
 have inK : (KF w.params).In s₁.heap := kIn_of Y
 have mgx := GT inK G.T.g (by kernel_rfl)
 have hfa : fa = 719 := by
  have h1 : mg "law" = some (.ref fa) := hmg
  rw [mgx, show tP (KF w.params) "law" = some (.ref 719) by kernel_rfl] at h1
  exact (Value.ref.inj (bD h1)).symm
 subst hfa
 let W : Wd := ⟨Challenge.rw_nn0384_01.row.prog, w, s₁.heap, s₁.os, mg, mb, G.T.g, G.T.b, G.T.nolimit, G.T.builtins, KF w.params, inK, by
  obtain ⟨mm, ⟨o, _, _, h, _⟩, _⟩ := (G.T.seer (by decide +kernel)).mods
  exact ⟨o, h⟩⟩
 have P : PW W := ⟨rfl, mgx⟩
 wrow_args hpre hlay hrd hwl hlo
 rename_i w1 _ _ _ hz _
 refine ay (IB P rfl rfl hg w1 (by exact J13 23 hz)) (fun v s' h => ?_) fun _ _ x => x.elim
 obtain ⟨rfl, h2, h3, h4⟩ := h
 refine GoodW.toG ⟨.inl ⟨.bool true, .bool true, [], rfl, fun _ => rfl, ReadsW.bool _, (by first | wrow_post | kernel_rfl), fun _ => ⟨.nil, fun _ h => by cases h⟩⟩, h2, h3, h4⟩)
end Mine.Internal
end
theorem PySem.Challenge.cw_nn0384_01_holds : PySem.Challenge.rw_nn0384_01.Holds := by
 exact Mine.Internal.J
