import PyProof.Rows.All
import Wide.All
import OpenK.AllK
import Wide.FinOn
import Lean
import PySem.Challenge.RW_nn0384_01
open List renaming length_map → aa, length_range → aq, mem_cons → au, range → av, getElem?_map → ax, mem_map → az, getElem?_eq_some_iff → aA, map_cons → aC, getElem?_eq_getElem → aG, size_toArray → aH, map_append → aJ, getD_eq_getElem?_getD → aL, mem_range → aM, mem_map_of_mem → aO, mem_singleton → aP, mem_append → aQ, mem_of_getElem? → aS, all_eq_true → aV, map_map → aX, nodup_cons → aY, take_length → aZ, take_add_one → a7, getElem?_eq_none → a8, find?_cons_of_neg → ba, replicate → bd, length_take → bg, getElem_map → bk, append_nil → bl, length_filter_le → bm, take_of_length_le → br, mem_append_left → bu, not_mem_nil → bw, mem_filter → bz, range_succ → bA, pairwise_append → bG, length_pos_iff → bI, getElem_mem → bJ, getElem_range → bL, any_eq_true → bN, ext_getElem → bO, map_congr_left → bQ, take_append_drop → bS, pairwise_map → bU, idxOf_lt_length_of_mem → bW, getElem_cons_drop → bY, toList_toArray → b7, getElem?_range → b8, take_zero → cb, length_append → cf, pairwise_cons → cm, filter_eq_nil_iff → cx, mem_append_right → cz, eq_nil_or_concat → cB, concat_eq_append → cC, filter_append → cF, find?_cons_of_pos → cI, map → cV, map_nil → cZ, zip_cons_cons → dg, getElem?_set_self → dl, find?_cons → dm, nodup_append → dy, ext_getElem? → dA, getElem?_set_ne → dD, mem_of_mem_take → dE, mem_flatMap → dF, length_cons → dG, lookup_cons → dH, isEmpty_iff → dI, find?_eq_none → dR, reverse_cons → dY, append_assoc → d6, find?_append → ed, take_sublist → ef, contains_iff_mem → eg, cons_append → eu, map_take → eH, length → eI, getLastD_concat → eK, forIn_cons → eL, nil_append → eM, length_set → eP, filter_map → eQ, filterMap_cons → eS, map_eq_nil_iff → eT, getElem_of_mem → eU, toArray → eZ, mem_filterMap → fy, getElem?_zip_eq_some → fE, pairwise_iff_getElem → fF, mem_of_find?_eq_some → fH, drop_eq_getElem_cons → fJ, length_filterMap_le → fW, getElem?_cons_succ → fY, pairwise_mergeSort → f8, length_eq_zero_iff → ge, filter_cons → gf, Nodup → gk, drop_eq_nil_of_le → gs, zip_append → gy, find?_some → gA, map_const' → gB, perm_append_comm → gC, forIn_nil → gH, range_eq_range' → gO, replicate_succ → gX, mergeSort_perm → gY, reverse_append → gZ, mem_cons_self → hV, getElem_idxOf → ie, any_eq_false → ik, flatten_cons → io, idxOf_append → ix, all_eq_false → iy, reverse_perm → iz, filter_congr → iB, drop → iD, take → iE, any_toArray → iF, foldl_cons → iU, nodup_nil → i5, filterMap → i6, all_cons → jc, any_cons → jd, sum_cons → jh, cons → ji
open Int renaming toNat_natCast → ag, toNat_of_nonneg → bP, fdiv_eq_ediv_of_nonneg → dC, ofNat_lt → eV, le_trans → eY, mul_nonneg → fj, natCast_nonneg → fk, zero_add → gi, zero_sub → gt, add_zero → ig, le_of_lt → iA, max_eq_right → iI, mul_add → iO, le_refl → iR, max_eq_left → iV, le_antisymm → iW, mul_le_mul → jb
open Prod renaming fst → ai, snd → bB, ext → ga
open PySem renaming wpAny_bind → aj, sizeLine_eq → am, wpAny_mono → ay, wpAny_pure → aB, wpAny_holding → bv, wpAny_ite_false → bM, strKind → ce, wpAny_standAt → cJ, wpAny_truthy_bool → cR, wpAny_call_entry → cT, wpAny_seqItems → cU, intKind_is → dB, plainId_quiet → dM, codeAny_builtin → dO, wpAny_assign_Name → dZ, wpAny_tryCatch → d8, isSubtype_tuple_tuple → et, wpAny_isInstance → eC, wpAny_forIn_list → eD, wpAny_specialOf → eO, wpAny_richCompare_same_room → fh, wpAny_Subscript_list_slice → fq, wpAny_rule → ft, wpAny_tupleItemsOf → fu, wpAny_newObj_type → fK, slot_list_getitem → fM, wpAny_pyIter_list → fO, wpAny_assignInOrder_none → fS, wpAny_assignInOrder_more → fU, codeAny_mono → gj, wpAny_execs_nil → gv, wpAny_updateSeq → gz, wpAny_ite_true → gK, wpAny_letGo → gL, wpAny_loadName_cell → gU, wpAny_setItem_pairs → gV, call_meets → hW, wpAny_field → iQ, numAt_eq → i9, Fin → jj, stored → jl
open Nat renaming le_refl → aU, le_trans → bj, zero_le → bF, lt_of_le_of_lt → bH, ne_of_lt → bK, lt_of_lt_of_le → cg, le_succ → cY, not_lt_zero → dp, lt_irrefl → dq, le_of_ble_eq_true → du, le_of_lt_succ → dz, not_lt → dP, lt_trans → d7, lt_succ_of_lt → d9, le_of_eq → eX, mul_le_mul → fA, lt_succ_self → f0, lt_asymm → gp, sub_lt_sub_right → gI, le_sub_one_of_lt → gJ, not_succ_le_zero → gN, blt → gP, succ → ij, ne_of_gt → ip, pow_succ → iw, succ_ne_self → iG, min_le_right → iH, log2_le_self → iN, two_pow_pos → iY
open PySem.Heap renaming get?_push_size → aW, get?_push_of_some → be, lt_size → bq, get?_update_ne → cy, get?_update_self → cA, size_push → cN, get?_update_other → di, SameBut → dX
open Bool renaming and_eq_true → a9, or_eq_false_iff → bX, and_eq_false_iff → ca, false_eq_true → cj, and_eq_true_iff → cq, false_ne_true → cD, or_eq_true → cQ, false_and → d5, eq_false_iff → ec, and_self → eG, eq_iff_iff → eR, noConfusion → fX, true_and → hJ, not_eq_true' → iq, not_eq_true → iM, decide_and → iZ, and_false → i8, or_false → je, not_true → jf
open Option renaming map_eq_some_iff → bc, toList_some → cn, getD_some → cM, isNone_iff_eq_none → cP, isSome_iff_exists → fR, map_some → gx, isSome_some → ia, getD_none → iL, map → i7
open PySem.W.Fast renaming te14364793385576792824 → bh, te10110043849684766642 → bn, te12563942051412417395 → bp, sEq_iff → cG, sEq → cH
open PySem.Builtin.Tuple renaming tupleHashOf → bC
open Option.some renaming inj → bD, injEq → im
open PySem.PyData renaming keyHash → bE
open Array renaming length_toList → bR, perm_iff_toList_perm → cO, getElem?_eq_getElem → dJ, getD_eq_getD_getElem? → fe, forIn_toList → fw, mk → ir, toList_inj → iJ, toList_map → iK, getD → ja
open PySem.Obj renaming mapSeq → bZ, putName → gG
open PySem.NameKind renaming free → cw, cell → fQ, globalImplicit → fZ
open Function renaming comp → cK
open PySem.F renaming plain_min_loop → cL, slot_tuple_hash → cW, slot_tuple_eq → dw, slot_list_getattribute → dN, slot_range_contains → fg, entry_min_loop → gc, slot_dict_get → gw, slot_tuple_lt → gD, plainAttrs_list → iu, entry_dict_get → iC
open PySem.Around renaming under_plainId → cS
open PySem.Builtin renaming bitNot → cX, bitOr → eF, bitAnd → fm
open PySem.Builtin.Range renaming rangePlace? → dK, rangeFields → fG, small → gW
open PySem.SeqAt.EqAt renaming int_int → dQ
open PySem.Calls renaming callWith_function → dT, callWith_builtin → gl, Name_function_global → gE
open PySem.W renaming piece_app → dU, segRun_of → dW, boot_heap → eE, plainGet_of → iP, kas_rev → i4
open PySem.Value renaming none → eA, isStr → eJ, isInt_shape → fN, int → gQ, ref → gR, type → ic, builtin → jg
open PyProof.Rows renaming unpackItems_tuple → eB, callWith_type → fo, Assign_Tuple → fC
open List.cons renaming injEq → eN, inj → fV
open PySem.Str renaming ofString → eW
open PySem.Builtin.Builtins renaming bindParams → fi
open Classical renaming byContradiction → fB
open Decidable renaming byContradiction → fD
open Ne renaming symm → fP
open PySem.Builtin.Dict renaming updateFrom → gh, pairItems → gu
open PySem.Code renaming builtin → gn
open List.Perm renaming append_right → gq, cons → gM
open PySem.P renaming lt_int → gF
open PySem.Walks renaming list → hY
open PyProof.Rows.SortSt renaming mk' → ib
open Nat.succ renaming inj → ii
open Prod.mk renaming inj → iS
open ForInStep renaming yield → iT
open Array.Perm renaming refl → iX
open PySem.Heap.IsSliceOf renaming new → jm
open PySem PySem.W PySem.Calls PyProof.Rows
set_option Elab.async false
set_option maxRecDepth 100000
set_option linter.unusedVariables false
set_option maxHeartbeats 0
set_option genSizeOfSpec false
set_option genSizeOf false
set_option bootstrap.genMatcherCode false
set_option backward.match.sparseCases false
noncomputable section
namespace Mine.Internal
section
set_option compiler.extract_closed false
open Lean
def zN (k : Name) (a : List Syntax) : Syntax := .node .none k a.toArray
def zL (a : List Syntax) : Syntax := zN nullKind a
def zA (s : String) : Syntax := .atom .none s
def zT (s : String) (a : List Syntax) : Syntax := zN (.str `Lean.Parser.Tactic s) a
def zE (s : String) (a : List Syntax) : Syntax := zN (.str `Lean.Parser.Term s) a
def zS (l : List Syntax) : Syntax := zT "tacticSeq" [zT "tacticSeq1Indented" [zL l]]
def zW (s : String) : Syntax := zN `PySem.W.tacticWtm_at_ [zA "wtm_at", Syntax.mkStrLit s]
def zP (l : List Syntax) : Syntax := zT "paren" [zA "(", zS l, zA ")"]
def zO (t : Syntax) : Syntax := zN groupKind [zA "|", zS [t]]
def zF (l : List Syntax) : Syntax := zT "first" [zA "first", zL l]
def zH (x : Syntax) : Syntax := zE "syntheticHole" [zA "?", x]
def zQ : Syntax := zT "assumption" [zA "assumption"]
def zB : Syntax := zE "byTactic" [zA "by", zS [zQ]]
def zC (i t : Syntax) : Syntax := zT "case" [zA "case", zL [zT "caseArg" [zN `Lean.binderIdent [i], zL []]], zA "=>", zS [t]]
def zG : List (String × String) := [
 ("wr", "^!E7 !E9 !Fa !GJ !Fb/rf !Dm/rf !Fc !Do !Dp !BH !Dl"),
 ("m1", "^jn uA F9/mem Ga/mem Ax xA xB Ay kP m7 GH vt qk sB/rf uC/rf vy jA ml jU CE oT nJ uz rx AB oh xE Tv_const jD/rf kI jR xF xH lx/rf oi/rf sw/rf AD/mem Bt Br uW AI xI AJ AK DV DX DY DZ D0 D1 D3 DW sC/updh/sizeq sS sT CU CW A1 A2 sD/vw/sizeq AH/vw/sizeq AL/dec vr HG CD Iv/rf Bv GD/vw/mem/attr lb x4 :xm AP/updh/updf/attr/ble Bu/updh/appf/krf/attr/ble GE/vw/krf/ismeth !vQ/mem !uU/mem !Ed/mem !Ec/mem !vR/mem GF/vw GG/vw And.intro/size And.intro/rfr EG.mk/rfr FX.mk/rfr/rfr2 jC.tt jC.ff"),
 ("memc", "^=hV .EX/memc"),
 ("updh", "^=kQ.head .kQ.tail/updh"),
 ("updf", "^=sI.head .sI.tail/updf"),
 ("rhow", "^=mH.nil .mH.same/rhow .mH.drop/rhow"),
 ("vw", "^=Vw.refl .Vw.lst/mem .Vw.dct/mem .Vw.ins/mem"),
 ("appf", "^=vU.nil .vU.cons/appf"),
 ("dat", "^=pU =B6 =Em =B7 =vf =yA =wl =qO .k4/idat .sr/dat .yz/dat =vg .pq/dat1/dat2"),
 ("rv", "=rfl =Ey =rvS"),
 ("pdr", "=u6.none =u6.int =u6.bool"),
 ("nod", ".tZ/krf"),
 ("mem", ".jF/rf :memc"),
 ("size", ":asm .szL/ble"),
 ("attr", ".!Iw/rf"),
 ("ismeth", ".!Ix/rf"),
 ("upd", ".ti/rf"),
 ("crho", ".Bx/rf"),
 ("hcap", ".Dj/rf"),
 ("w1", "jo.i vA.i :wr :m1"),
 ("def", "@F8/rfr1/rfr2/rfr3/rfr4/krf/nod/nod2/krf2/rfr5/rf"),
 ("full", "@Fo/rfr1/rfr2/rfr3/rfr4/rfr5/krf/nod/nod2/krf2/rfr6/dec/rf"),
 ("dflt", "@Fp/rfr1/rfr2/rfr3/rfr4/rfr5/krf/nod/nod2/krf2/rfr6/pdr/rf"),
 ("rf", "*=rfl"),
 ("rfr", "=rfl"),
 ("ble", "*.Nat.le_of_ble_eq_true/rfr"),
 ("dec", "=dcl"),
 ("ms", "%w1"),
 ("mo", "%m1"), ("asm", "-"), ("krf", "#"), ("idat", "\\dat"), ("xm", "?x_meth")]
def zI (m : MacroScope) (c : String) : Syntax := mkIdent (addMacroScope `x (.mkSimple c) m)
def zK (m : MacroScope) : List String → List Syntax
 | [] => []
 | c :: r =>
  let q := zC (zI m c)
  zA ";" :: (if c == "sizeq" then zF [zO (zP [q (zW "size")]), zO (zT "rotateLeft" [zA "rotate_left", zL []])] else q (zW (String.ofList (c.toList.filter Char.isAlpha)))) :: zK m r
def zY (k s : String) (l : List Char) : Syntax := zT k [zA s, zS [zW (String.ofList l)]]
def zZ (f : String) : Syntax := mkIdent f.toName
def zV (f : Syntax) (a : List Syntax) : Syntax := zE "app" [f, zL a]
def zJ (m : MacroScope) (dot : Bool) (f : String) (b : List Syntax) (cs : List String) : Syntax :=
 let a := b ++ cs.map fun c => zH (zI m c)
 let h := zV (zZ f)
 match cs with
 | [] => zT "refine" [zA "refine", h (a ++ [zH (zA "_")])]
 | _ :: _ => zP (zT "refine'" [zA "refine'", h (bif dot then a else a ++ [zH (zI m "k0")])] :: zK m cs)
def zR (m : MacroScope) (dot : Bool) : List String → Syntax
 | [] => .missing
 | h :: cs => match h.toList with
  | '=' :: l => zT "exact" [zA "exact", zZ (String.ofList l)]
  | ':' :: l => zW (String.ofList l)
  | '!' :: l => zJ m dot (String.ofList l) [zB] cs
  | '@' :: l => zJ m dot (String.ofList l) [zV (zZ "PW.K") [zB]] cs
  | _ => zJ m dot h [] cs
def zM (m : MacroScope) (k : String) : Syntax :=
 let v := (zG.lookup k).getD k
 match v.toList with
 | '^' :: r => zY "withReducible" "with_reducible" r
 | '*' :: r => zY "withUnfoldingAll" "with_unfolding_all" r
 | '%' :: r => zY "repeat'" "repeat'" r
 | '?' :: r => zP [zT "failIfSuccess" [zA "fail_if_success", zS [zW "x_get"]], zA ";", zW (String.ofList r)]
 | '\\' :: r => zP [zT "intro" [zA "intro", zL [zE "hole" [zA "_"]]], zA ";", zW (String.ofList r)]
 | ['#'] => zN `tacticKernel_rfl [zA "kernel_rfl"]
 | ['-'] => zQ
 | _ => match v.splitOn " " with
  | [t] => match t.toList with
   | '.' :: r => zR m true ((String.ofList r).splitOn "/")
   | _ => zR m false (t.splitOn "/")
  | ts => zF (ts.map fun t => zO (zW t))
end
namespace Ar
set_option genInjectivity false
set_option genSizeOfSpec false
set_option genSizeOf false
set_option bootstrap.genMatcherCode false
set_option genCtorIdx false
mutual
inductive NE
 | v (i : Nat) | c (k : Nat) | a (x y : NE) | s (x y : NE) | m (k : Nat) (x : NE) | t (z : ZE) | mi (x y : NE) | ma (x y : NE) | ab (z : ZE) | r (x : NE) (k : Nat) | w (b e : Nat)
inductive ZE
 | v (i : Nat) | c (k : Int) | a (x y : ZE) | s (x y : ZE) | m (k : Int) (x : ZE) | n (x : ZE) | k (x : NE) | r (x : ZE) (k : Int) | w (b : Int) (e : Nat)
end
inductive PF
 | L (x y : NE) | l (x y : NE) | e (x y : NE) | G (x y : ZE) | g (x y : ZE) | z (x y : ZE) | n (p : PF) | a (p q : PF) | o (p q : PF) | i (p q : PF) | f
set_option genCtorIdx true
mutual
noncomputable def NE.d (N : List Nat) (Z : List Int) : NE → Nat
 | .v i => N.getD i 0 | .c k => k | .a x y => x.d N Z + y.d N Z | .s x y => x.d N Z - y.d N Z | .m k x => k * x.d N Z | .t z => (z.d N Z).toNat | .mi x y => min (x.d N Z) (y.d N Z) | .ma x y => max (x.d N Z) (y.d N Z) | .ab z => (z.d N Z).natAbs | .r x k => x.d N Z * k | .w b e => b ^ e
noncomputable def ZE.d (N : List Nat) (Z : List Int) : ZE → Int
 | .v i => Z.getD i 0 | .c k => k | .a x y => x.d N Z + y.d N Z | .s x y => x.d N Z - y.d N Z | .m k x => k * x.d N Z | .n x => - x.d N Z | .k x => (x.d N Z : Int) | .r x k => x.d N Z * k | .w b e => b ^ e
end
noncomputable def PF.d (N : List Nat) (Z : List Int) : PF → Prop
 | .L x y => x.d N Z ≤ y.d N Z | .l x y => x.d N Z < y.d N Z | .e x y => x.d N Z = y.d N Z | .G x y => x.d N Z ≤ y.d N Z | .g x y => x.d N Z < y.d N Z | .z x y => x.d N Z = y.d N Z
 | .n p => ¬ p.d N Z | .a p q => p.d N Z ∧ q.d N Z | .o p q => p.d N Z ∨ q.d N Z | .i p q => p.d N Z → q.d N Z | .f => False
noncomputable abbrev Ln := List Int × Int
noncomputable def qe : List Int → List Int → Int
 | c :: cs, x :: xs => c * x + qe cs xs
 | _, _ => 0
noncomputable def Ln.ev (E : List Int) (l : Ln) : Int := qe l.1 E + l.2
noncomputable def An : List Int → List Int → List Int
 | [], l => l
 | l, [] => l
 | x :: xs, y :: ys => (x + y) :: An xs ys
noncomputable def Ln.add (p q : Ln) : Ln := (An p.1 q.1, p.2 + q.2)
noncomputable def Ln.mul (k : Int) (p : Ln) : Ln := (p.1.map (k * ·), k * p.2)
noncomputable def Ln.sub (p q : Ln) : Ln := p.add (q.mul (-1))
noncomputable def unit : Nat → List Int
 | 0 => [1]
 | n + 1 => 0 :: unit n
theorem oe {E} : qe [] E = 0 := by cases E <;> rfl
theorem Cu : ∀ {a b E : List Int}, qe (An a b) E = qe a E + qe b E := fun {a} => by
 induction a with
 | nil => intro b E; rw [oe, gi]; rfl
 | cons x xs ih =>
  intro b E
  cases b with
  | nil => rw [oe, ig]; rfl
  | cons y ys => cases E with
   | nil => rfl
   | cons z zs => show (x + y) * z + qe (An xs ys) zs = x * z + qe xs zs + (y * z + qe ys zs); rw [ih, Int.add_mul]; lia
theorem Cv {k : Int} : ∀ {a E : List Int}, qe (a.map (k * ·)) E = k * qe a E := fun {a} => by
 induction a with
 | nil => intro E; rw [cZ, oe, Int.mul_zero]
 | cons x xs ih => intro E; cases E with
  | nil => exact (Int.mul_zero k).symm
  | cons z zs => show k * x * z + qe (xs.map (k * ·)) zs = k * (x * z + qe xs zs); rw [ih, iO, Int.mul_assoc]
theorem Ao : ∀ {n : Nat} {E : List Int}, qe (unit n) E = E.getD n 0 := fun {n} => by
 induction n with
 | zero => intro E; cases E with
  | nil => rfl
  | cons x xs => show 1 * x + qe [] xs = x; rw [oe, ig, Int.one_mul]
 | succ n ih => intro E; cases E with
  | nil => rfl
  | cons x xs => show 0 * x + qe (unit n) xs = _; rw [ih, Int.zero_mul, gi]; rfl
theorem Ln.ev_add {E p q} : (Ln.add p q).ev E = p.ev E + q.ev E := by show qe (An p.1 q.1) E + (p.2 + q.2) = _; rw [Cu]; unfold Ln.ev; lia
theorem Ln.ev_mul {E k p} : (Ln.mul k p).ev E = k * p.ev E := by show qe (p.1.map (k * ·)) E + k * p.2 = _; rw [Cv]; unfold Ln.ev; rw [iO]
theorem Ln.ev_sub {E p q} : (Ln.sub p q).ev E = p.ev E - q.ev E := by unfold Ln.sub; rw [Ln.ev_add, Ln.ev_mul]; lia
noncomputable abbrev Cs := List Ln
noncomputable def nz (E : List Int) (c : Cs) : Prop := ∀ l ∈ c, 0 ≤ l.ev E
theorem nz.app {E c d} (h : nz E c) (h' : nz E d) : nz E (c ++ d) := fun l hl => (aQ.mp hl).elim (h l) (h' l)
theorem nz.one {E l} (h : 0 ≤ Ln.ev E l) : nz E [l] := fun l' hl => by cases aP.mp hl; exact h
noncomputable def cr {α β γ : Type} (f : α → β → List γ) (p : List α) (q : List β) : List γ := p.flatMap fun a => q.flatMap fun b => f a b
theorem wD {α β γ : Type} {f : α → β → List γ} {p : List α} {q : List β} {a b c} (ha : a ∈ p) (hb : b ∈ q) (hc : c ∈ f a b) : c ∈ cr f p q :=
 dF.mpr ⟨a, ha, dF.mpr ⟨b, hb, hc⟩⟩
noncomputable abbrev Al := List (Cs × Ln)
mutual
noncomputable def NE.al (n : Nat) : NE → Al
 | .v i => match gP i n with | true => [([], (unit i, 0))] | false => [([], ([], 0))]
 | .c k => [([], ([], k))]
 | .a x y => cr (fun p q => [(p.1 ++ q.1, p.2.add q.2)]) (x.al n) (y.al n)
 | .s x y => cr (fun p q => [(p.2.sub q.2 :: (p.1 ++ q.1), p.2.sub q.2), ((q.2.sub p.2) :: (p.1 ++ q.1), ([], 0))]) (x.al n) (y.al n)
 | .m k x => (x.al n).map fun p => (p.1, p.2.mul k)
 | .t z => (z.al n).flatMap fun p => [(p.2 :: p.1, p.2), (p.2.mul (-1) :: p.1, ([], 0))]
 | .mi x y => cr (fun p q => [(q.2.sub p.2 :: (p.1 ++ q.1), p.2), ((p.2.sub q.2) :: (p.1 ++ q.1), q.2)]) (x.al n) (y.al n)
 | .ma x y => cr (fun p q => [(q.2.sub p.2 :: (p.1 ++ q.1), q.2), ((p.2.sub q.2) :: (p.1 ++ q.1), p.2)]) (x.al n) (y.al n)
 | .ab z => (z.al n).flatMap fun p => [(p.2 :: p.1, p.2), (p.2.mul (-1) :: p.1, p.2.mul (-1))]
 | .r x k => (x.al n).map fun p => (p.1, p.2.mul k)
 | .w b e => [([], ([], ((b ^ e : Nat) : Int)))]
noncomputable def ZE.al (n : Nat) : ZE → Al
 | .v i => [([], (unit (n + i), 0))]
 | .c k => [([], ([], k))]
 | .a x y => cr (fun p q => [(p.1 ++ q.1, p.2.add q.2)]) (x.al n) (y.al n)
 | .s x y => cr (fun p q => [(p.1 ++ q.1, p.2.sub q.2)]) (x.al n) (y.al n)
 | .m k x => (x.al n).map fun p => (p.1, p.2.mul k)
 | .n x => (x.al n).map fun p => (p.1, p.2.mul (-1))
 | .k x => x.al n
 | .r x k => (x.al n).map fun p => (p.1, p.2.mul k)
 | .w b e => [([], ([], b ^ e))]
end
noncomputable def one (l : Ln) : Ln := (l.1, l.2 - 1)
noncomputable def Fz (x y : Al) : List Cs := cr (fun p q => [q.2.sub p.2 :: (p.1 ++ q.1)]) x y
noncomputable def Cw (x y : Al) : List Cs := cr (fun p q => [one (q.2.sub p.2) :: (p.1 ++ q.1)]) x y
noncomputable def Hc (x y : Al) : List Cs := cr (fun p q => [q.2.sub p.2 :: p.2.sub q.2 :: (p.1 ++ q.1)]) x y
noncomputable def PF.al (n : Nat) (b : Bool) : PF → List Cs
 | .L x y => match b with | true => Fz (x.al n) (y.al n) | false => Cw (y.al n) (x.al n)
 | .l x y => match b with | true => Cw (x.al n) (y.al n) | false => Fz (y.al n) (x.al n)
 | .e x y => match b with | true => Hc (x.al n) (y.al n) | false => Cw (x.al n) (y.al n) ++ Cw (y.al n) (x.al n)
 | .G x y => match b with | true => Fz (x.al n) (y.al n) | false => Cw (y.al n) (x.al n)
 | .g x y => match b with | true => Cw (x.al n) (y.al n) | false => Fz (y.al n) (x.al n)
 | .z x y => match b with | true => Hc (x.al n) (y.al n) | false => Cw (x.al n) (y.al n) ++ Cw (y.al n) (x.al n)
 | .n p => p.al n !b
 | .a p q => match b with | true => cr (fun c d => [c ++ d]) (p.al n true) (q.al n true) | false => p.al n false ++ q.al n false
 | .o p q => match b with | true => p.al n true ++ q.al n true | false => cr (fun c d => [c ++ d]) (p.al n false) (q.al n false)
 | .i p q => match b with | true => p.al n false ++ q.al n true | false => cr (fun c d => [c ++ d]) (p.al n true) (q.al n false)
 | .f => match b with | true => [] | false => [[]]
section
variable {N : List Nat} {Z : List Int}
noncomputable abbrev env (N : List Nat) (Z : List Int) : List Int := N.map Int.ofNat ++ Z
inductive jX (E : List Int) (x : Int) (l : Al) : Prop
 | mk (c : Cs) (f : Ln) (m : (c, f) ∈ l) (h : nz E c) (e : x = f.ev E)
inductive nI (E : List Int) (l : List Cs) : Prop
 | mk (c : Cs) (m : c ∈ l) (h : nz E c)
theorem nz.cons {E l c} (h : 0 ≤ Ln.ev E l) (h' : nz E c) : nz E (l :: c) := fun l' hl => (au.mp hl).elim (fun e => e ▸ h) (h' l')
theorem jX.two {E : List Int} {x y z : Int} {a b : Al} {f : Cs × Ln → Cs × Ln → Al} (hx : jX E x a) (hy : jX E y b) (h : ∀ c g d k, nz E (c ++ d) → x = g.ev E → y = k.ev E → jX E z (f (c, g) (d, k))) : jX E z (cr f a b) := by
 obtain ⟨c, g, m, hc, e⟩ := hx
 obtain ⟨d, k, m', hd, e'⟩ := hy
 obtain ⟨u, v, mm, hh, ee⟩ := h c g d k (hc.app hd) e e'
 exact ⟨u, v, wD m m' mm, hh, ee⟩
theorem jX.map1 {E : List Int} {x z : Int} {a : Al} {f : Ln → Ln} (hx : jX E x a) (h : ∀ g : Ln, x = g.ev E → z = (f g).ev E) : jX E z (a.map fun p => (p.1, f p.2)) := by
 obtain ⟨c, g, m, hc, e⟩ := hx
 exact ⟨c, f g, az.mpr ⟨_, m, rfl⟩, hc, h g e⟩
theorem jX.split {E : List Int} {x z : Int} {a : Al} {f : Cs × Ln → Al} (hx : jX E x a) (h : ∀ c g, nz E c → x = g.ev E → jX E z (f (c, g))) : jX E z (a.flatMap f) := by
 obtain ⟨c, g, m, hc, e⟩ := hx
 obtain ⟨u, v, mm, hh, ee⟩ := h c g hc e
 exact ⟨u, v, dF.mpr ⟨_, m, mm⟩, hh, ee⟩
theorem jX.one {E : List Int} {x : Int} {c : Cs} {f : Ln} {l : Al} (h : nz E c) (e : x = f.ev E) : jX E x ((c, f) :: l) := ⟨c, f, .head _, h, e⟩
theorem jX.nx {E : List Int} {x : Int} {c : Cs × Ln} {l : Al} (h : jX E x l) : jX E x (c :: l) := by
 obtain ⟨c, f, m, h, e⟩ := h; exact ⟨c, f, .tail _ m, h, e⟩
theorem Ap {E} {k : Int} : k = Ln.ev E ([], k) := by unfold Ln.ev; rw [oe, gi]
theorem DL : ∀ {N : List Nat} {i : Nat}, i < N.length → ((N.getD i 0 : Nat) : Int) = (env N Z).getD i 0 := fun {N} => by
 induction N with
 | nil => intro i h; cases h
 | cons x xs ih => intro i h; cases i with
  | zero => rfl
  | succ i => exact ih (Nat.lt_of_succ_lt_succ h)
theorem DM : ∀ {N : List Nat} {i : Nat}, Z.getD i 0 = (env N Z).getD (N.length + i) 0 := fun {N} => by
 induction N with
 | nil => intro i; rw [List.length_nil, Nat.zero_add]; rfl
 | cons x xs ih => intro i; rw [dG, Nat.add_right_comm]; exact ih
theorem sg {E : List Int} {i : Nat} {x : Int} (h : x = E.getD i 0) : x = Ln.ev E (unit i, 0) := by
 show x = qe (unit i) E + 0
 rw [Ao, ig]; exact h
theorem Aq : ∀ {N : List Nat} {i : Nat}, N.length ≤ i → N.getD i 0 = 0 := fun {N} => by
 induction N with
 | nil => intro i _; rfl
 | cons x xs ih => intro i h; cases i with
  | zero => cases h
  | succ i => exact ih (Nat.le_of_succ_le_succ h)
theorem Cx {E : List Int} {x y : Int} {a b : Al} (hx : jX E x a) (hy : jX E y b) : jX E (x + y) (cr (fun p q => [(p.1 ++ q.1, p.2.add q.2)]) a b) :=
 hx.two hy fun _ _ _ _ h e e' => .one h (by rw [Ln.ev_add, e, e'])
theorem qf {E : List Int} {p q : Ln} {c : Cs} (h : nz E c) (e : p.ev E ≤ q.ev E) : nz E (q.sub p :: c) := .cons (by rw [Ln.ev_sub]; lia) h
theorem FA (i : Nat) : jX (env N Z) (N.getD i 0 : Nat) (NE.al N.length (.v i)) := by
 cases q : gP i N.length with
 | true =>
  have : NE.al N.length (.v i) = [([], (unit i, 0))] := by show (match gP i N.length with | true => _ | false => _) = _; rw [q]
  rw [this]; exact .one (fun _ h => nomatch h) (sg (DL (du q)))
 | false =>
  have : NE.al N.length (.v i) = [([], ([], 0))] := by show (match gP i N.length with | true => _ | false => _) = _; rw [q]
  rw [this]
  refine .one (fun _ h => nomatch h) ?_
  have h : N.length ≤ i := dP.mp fun h => by rw [show gP i N.length = true from Nat.ble_eq_true_of_le h] at q; cases q
  rw [Aq h]; exact Ap
theorem FB {E : List Int} {x y : Nat} {a b : Al} (hx : jX E x a) (hy : jX E y b) : jX E ((x - y : Nat) : Int) (cr (fun p q => [(p.2.sub q.2 :: (p.1 ++ q.1), p.2.sub q.2), ((q.2.sub p.2) :: (p.1 ++ q.1), ([], 0))]) a b) := hx.two hy fun c g d k h e e' => by
 by_cases q : y ≤ x
 ·exact .one (qf (p := k) (q := g) h (by lia)) (by show _ = Ln.ev E (Ln.sub g k); rw [Ln.ev_sub]; lia)
 ·refine .nx (.one (qf (p := g) (q := k) h (by lia)) ?_)
  rw [Nat.sub_eq_zero_of_le (by lia)]; exact Ap
theorem DN {E : List Int} {x y : Nat} {a b : Al} (hx : jX E x a) (hy : jX E y b) : jX E ((min x y : Nat) : Int) (cr (fun p q => [(q.2.sub p.2 :: (p.1 ++ q.1), p.2), ((p.2.sub q.2) :: (p.1 ++ q.1), q.2)]) a b) := hx.two hy fun c g d k h e e' => by
 by_cases q : x ≤ y
 ·rw [Nat.min_eq_left q]; exact .one (qf (p := g) (q := k) h (by lia)) e
 ·rw [Nat.min_eq_right (by lia)]; exact .nx (.one (qf (p := k) (q := g) h (by lia)) e')
theorem DO {E : List Int} {x y : Nat} {a b : Al} (hx : jX E x a) (hy : jX E y b) : jX E ((max x y : Nat) : Int) (cr (fun p q => [(q.2.sub p.2 :: (p.1 ++ q.1), q.2), ((p.2.sub q.2) :: (p.1 ++ q.1), p.2)]) a b) := hx.two hy fun c g d k h e e' => by
 by_cases q : x ≤ y
 ·rw [Nat.max_eq_right q]; exact .one (qf (p := g) (q := k) h (by lia)) e'
 ·rw [Nat.max_eq_left (by lia)]; exact .nx (.one (qf (p := k) (q := g) h (by lia)) e)
theorem FC {E : List Int} {z : Int} {a : Al} (hz : jX E z a) : jX E (z.toNat : Int) (a.flatMap fun p => [(p.2 :: p.1, p.2), (p.2.mul (-1) :: p.1, ([], 0))]) := hz.split fun c g h e => by
 by_cases q : 0 ≤ z
 ·exact .one (.cons (l := g) (by lia) h) (by rw [bP q]; exact e)
 ·refine .nx (.one (.cons (l := g.mul (-1)) (by rw [Ln.ev_mul]; lia) h) ?_)
  rw [Int.toNat_of_nonpos (by lia)]; exact Ap
theorem DP {E : List Int} {z : Int} {a : Al} (hz : jX E z a) : jX E (z.natAbs : Int) (a.flatMap fun p => [(p.2 :: p.1, p.2), (p.2.mul (-1) :: p.1, p.2.mul (-1))]) := hz.split fun c g h e => by
 by_cases q : 0 ≤ z
 ·exact .one (.cons (l := g) (by lia) h) (by show _ = g.ev E; lia)
 ·exact .nx (.one (.cons (l := g.mul (-1)) (by rw [Ln.ev_mul]; lia) h) (by show _ = Ln.ev E (g.mul (-1)); rw [Ln.ev_mul]; lia))
theorem Es {E : List Int} {z : Int} {a : Al} {k : Int} (hz : jX E z a) : jX E (k * z) (a.map fun p => (p.1, p.2.mul k)) := hz.map1 fun g e => by rw [Ln.ev_mul, e]
theorem As {E : List Int} {x : Nat} {a : Al} {k : Nat} (hz : jX E x a) : jX E ((k * x : Nat) : Int) (a.map fun p => (p.1, p.2.mul k)) := hz.map1 fun g e => by rw [Ln.ev_mul, ← e]; exact Int.natCast_mul k x
theorem FD {E : List Int} {z : Int} {a : Al} {k : Int} (hz : jX E z a) : jX E (z * k) (a.map fun p => (p.1, p.2.mul k)) := Int.mul_comm k z ▸ Es hz
theorem DQ {E : List Int} {x : Nat} {a : Al} {k : Nat} (hz : jX E x a) : jX E ((x * k : Nat) : Int) (a.map fun p => (p.1, p.2.mul k)) := Nat.mul_comm k x ▸ As hz
theorem FE {E : List Int} {z : Int} {a : Al} (hz : jX E z a) : jX E (-z) (a.map fun p => (p.1, p.2.mul (-1))) := hz.map1 fun g e => by rw [Ln.ev_mul, e]; lia
theorem DR {E : List Int} {x y : Int} {a b : Al} (hx : jX E x a) (hy : jX E y b) : jX E (x - y) (cr (fun p q => [(p.1 ++ q.1, p.2.sub q.2)]) a b) := hx.two hy fun _ _ _ _ h e e' => .one h (by rw [Ln.ev_sub, e, e'])
theorem vm {E : List Int} {k : Int} : jX E k [([], ([], k))] := .one (fun _ h => nomatch h) Ap
theorem qg (x : NE) : jX (env N Z) (x.d N Z) (x.al N.length) :=
 NE.rec (motive_1 := fun x => jX (env N Z) (x.d N Z) (x.al N.length)) (motive_2 := fun z => jX (env N Z) (z.d N Z) (z.al N.length))
  FA (fun _ => vm) (fun _ _ => Cx) (fun _ _ => FB) (fun _ _ => As) (fun _ => FC) (fun _ _ => DN) (fun _ _ => DO) (fun _ => DP) (fun _ _ => DQ) (fun _ _ => vm)
  (fun i => .one (fun _ h => nomatch h) (sg DM)) (fun _ => vm) (fun _ _ => Cx) (fun _ _ => DR) (fun _ _ => Es) (fun _ => FE) (fun _ h => h) (fun _ _ => FD) (fun _ _ => vm) x
theorem qh (z : ZE) : jX (env N Z) (z.d N Z) (z.al N.length) :=
 ZE.rec (motive_1 := fun x => jX (env N Z) (x.d N Z) (x.al N.length)) (motive_2 := fun z => jX (env N Z) (z.d N Z) (z.al N.length))
  FA (fun _ => vm) (fun _ _ => Cx) (fun _ _ => FB) (fun _ _ => As) (fun _ => FC) (fun _ _ => DN) (fun _ _ => DO) (fun _ => DP) (fun _ _ => DQ) (fun _ _ => vm)
  (fun i => .one (fun _ h => nomatch h) (sg DM)) (fun _ => vm) (fun _ _ => Cx) (fun _ _ => DR) (fun _ _ => Es) (fun _ => FE) (fun _ h => h) (fun _ _ => FD) (fun _ _ => vm) z
theorem nI.two {E : List Int} {x y : Int} {a b : Al} {f : Cs × Ln → Cs × Ln → List Cs} (hx : jX E x a) (hy : jX E y b) (h : ∀ c g d k, nz E (c ++ d) → x = Ln.ev E g → y = Ln.ev E k → nI E (f (c, g) (d, k))) : nI E (cr f a b) := by
 obtain ⟨c, g, m, hc, e⟩ := hx
 obtain ⟨d, k, m', hd, e'⟩ := hy
 obtain ⟨u, mm, hh⟩ := h c g d k (hc.app hd) e e'
 exact ⟨u, wD m m' mm, hh⟩
theorem xx {E x y a b} (hx : jX E x a) (hy : jX E y b) (h : x ≤ y) : nI E (Fz a b) := nI.two hx hy fun c g d k hh e e' => ⟨_, .head _, qf (p := g) (q := k) hh (by lia)⟩
theorem rt {E x y a b} (hx : jX E x a) (hy : jX E y b) (h : x < y) : nI E (Cw a b) := nI.two hx hy fun c g d k hh e e' => ⟨_, .head _, .cons (by
 show 0 ≤ qe (Ln.sub k g).1 E + ((Ln.sub k g).2 - 1)
 have : Ln.ev E (Ln.sub k g) = _ := Ln.ev_sub
 unfold Ln.ev at this e e'; lia) hh⟩
theorem DS {E x y a b} (hx : jX E x a) (hy : jX E y b) (h : x = y) : nI E (Hc a b) := nI.two hx hy fun c g d k hh e e' => ⟨_, .head _, qf (p := g) (q := k) (qf (p := k) (q := g) hh (by lia)) (by lia)⟩
theorem nI.l {E a b} (h : nI E a) : nI E (a ++ b) := by obtain ⟨c, m, h⟩ := h; exact ⟨c, bu _ m, h⟩
theorem nI.r {E a b} (h : nI E b) : nI E (a ++ b) := by obtain ⟨c, m, h⟩ := h; exact ⟨c, cz _ m, h⟩
theorem nI.both {E a b} (h : nI E a) (h' : nI E b) : nI E (cr (fun c d => [c ++ d]) a b) := by
 obtain ⟨c, m, h⟩ := h; obtain ⟨d, m', h'⟩ := h'; exact ⟨c ++ d, wD m m' (.head _), h.app h'⟩
theorem He (p : PF) : (p.d N Z → nI (env N Z) (p.al N.length true)) ∧ (¬ p.d N Z → nI (env N Z) (p.al N.length false)) := by
 induction p with
 | L x y => exact ⟨fun h => xx (qg x) (qg y) (Int.ofNat_le.mpr h), fun h => rt (qg y) (qg x) (eV.mpr (Nat.not_le.mp h))⟩
 | l x y => exact ⟨fun h => rt (qg x) (qg y) (eV.mpr h), fun h => xx (qg y) (qg x) (Int.ofNat_le.mpr (dP.mp h))⟩
 | e x y => exact ⟨fun h => DS (qg x) (qg y) (congrArg Int.ofNat h), fun h => (Nat.lt_or_gt_of_ne h).elim (fun h => (rt (qg x) (qg y) (eV.mpr h)).l) fun h => (rt (qg y) (qg x) (eV.mpr h)).r⟩
 | G x y => exact ⟨fun h => xx (qh x) (qh y) h, fun h => rt (qh y) (qh x) (Int.not_le.mp h)⟩
 | g x y => exact ⟨fun h => rt (qh x) (qh y) h, fun h => xx (qh y) (qh x) (Int.not_lt.mp h)⟩
 | z x y => exact ⟨fun h => DS (qh x) (qh y) h, fun h => (Int.lt_or_gt_of_ne h).elim (fun h => (rt (qh x) (qh y) h).l) fun h => (rt (qh y) (qh x) h).r⟩
 | n p ih => exact ⟨fun h => ih.2 h, fun h => ih.1 (Classical.not_not.mp h)⟩
 | a p q i1 i2 => exact ⟨fun h => (i1.1 h.1).both (i2.1 h.2), fun h => (Classical.not_and_iff_not_or_not.mp h).elim (fun h => (i1.2 h).l) fun h => (i2.2 h).r⟩
 | o p q i1 i2 => exact ⟨fun h => h.elim (fun h => (i1.1 h).l) fun h => (i2.1 h).r, fun h => (i1.2 fun z => h (.inl z)).both (i2.2 fun z => h (.inr z))⟩
 | i p q i1 i2 => exact ⟨fun h => (Classical.em (PF.d N Z p)).elim (fun z => (i2.1 (h z)).r) fun z => (i1.2 z).l, fun h => (i1.1 (fB fun z => h fun y => absurd y z)).both (i2.2 fun z => h fun _ => z)⟩
 | f => exact ⟨fun h => h.elim, fun _ => ⟨[], .head _, fun _ h => nomatch h⟩⟩
end
noncomputable def hd : List Int → Int
 | [] => 0
 | x :: _ => x
noncomputable def Fs (l : Ln) : Ln := (l.1.tail, l.2)
noncomputable def isP (k : Int) : Bool := match k with
 | .ofNat n => match n with | 0 => false | _ + 1 => true
 | .negSucc _ => false
noncomputable def Hg (k : Int) : Bool := match k with
 | .ofNat _ => false
 | .negSucc _ => true
noncomputable def isZ (k : Int) : Bool := match k with
 | .ofNat n => match n with | 0 => true | _ + 1 => false
 | .negSucc _ => false
noncomputable def drp (c : Cs) : Cs :=
 let p := c.filter fun l => isP (hd l.1)
 let n := c.filter fun l => Hg (hd l.1)
 (c.filter fun l => isZ (hd l.1)).map Fs ++ cr (fun a b => [((Fs a).mul (- hd b.1)).add ((Fs b).mul (hd a.1))]) p n
noncomputable def Hh : Nat → Cs → Bool
 | 0, c => c.any fun l => match l.1 with | [] => Hg l.2 | _ :: _ => false
 | n + 1, c => Hh n (drp c)
theorem DT {x : Int} {E : List Int} {l : Ln} : Ln.ev (x :: E) l = hd l.1 * x + Ln.ev E (Fs l) := by
 obtain ⟨c, k⟩ := l
 cases c with
 | nil => show qe [] _ + k = 0 * x + (qe [] E + k); rw [oe, oe]; lia
 | cons y ys => show y * x + qe ys E + k = y * x + (qe ys E + k); lia
theorem Cy {k : Int} (h : isP k = true) : 0 < k := by
 cases k with
 | ofNat n => cases n with
  | zero => cases h
  | succ n => exact eV.mpr (Nat.succ_pos n)
 | negSucc n => cases h
theorem xy {k : Int} (h : Hg k = true) : k < 0 := by
 cases k with
 | ofNat n => cases h
 | negSucc n => exact Int.negSucc_lt_zero n
theorem Et {x : Int} {E : List Int} {c : Cs} (h : nz (x :: E) c) : nz E (drp c) := by
 refine nz.app (fun l hl => ?_) fun l hl => ?_
 ·obtain ⟨l', hm, e⟩ := az.mp hl
  obtain ⟨hm, hz⟩ := bz.mp hm
  have hh := h l' hm
  rw [DT] at hh
  have e0 : hd l'.1 = 0 := by
   generalize hd l'.1 = k at hz
   cases k with
   | ofNat n => cases n with
    | zero => rfl
    | succ n => cases hz
   | negSucc n => cases hz
  rw [e0, Int.zero_mul, gi] at hh
  exact e ▸ hh
 ·obtain ⟨a, ha, hl⟩ := dF.mp hl
  obtain ⟨b, hb, hl⟩ := dF.mp hl
  cases aP.mp hl
  obtain ⟨ha, pa⟩ := bz.mp ha
  obtain ⟨hb, pb⟩ := bz.mp hb
  have h1 := h a ha; have h2 := h b hb
  rw [DT] at h1 h2
  rw [Ln.ev_add, Ln.ev_mul, Ln.ev_mul]
  have q1 := Cy pa; have q2 := xy pb
  have m1 : 0 ≤ (- hd b.1) * (hd a.1 * x + Ln.ev E (Fs a)) := fj (by lia) h1
  have m2 : 0 ≤ hd a.1 * (hd b.1 * x + Ln.ev E (Fs b)) := fj (by lia) h2
  rw [iO] at m1 m2
  have : (- hd b.1) * (hd a.1 * x) + hd a.1 * (hd b.1 * x) = 0 := by rw [Int.neg_mul, Int.mul_left_comm]; lia
  lia
theorem Eu : ∀ {n : Nat} {c : Cs} {E : List Int}, E.length = n → Hh n c = true → nz E c → False := fun {n} => by
 induction n with
 | zero =>
  intro c E _ h hc
  obtain ⟨l, hm, hk⟩ := bN.mp h
  have := hc l hm
  obtain ⟨k, v⟩ := l
  cases k with
  | nil => have q := xy hk; rw [← Ap] at this; lia
  | cons _ _ => cases hk
 | succ n ih =>
  intro c E he h hc
  cases E with
  | nil => cases he
  | cons x E => exact ih (ii he) h (Et hc)
noncomputable def nn (n : Nat) : Cs := (av n).map fun i => (unit i, 0)
theorem FF {N : List Nat} {Z : List Int} : nz (env N Z) (nn N.length) := fun l hl => by
 obtain ⟨i, hi, e⟩ := az.mp hl
 cases e
 rw [← sg (DL (aM.mp hi))]
 exact fk _
noncomputable def PF.ok (p : PF) (n m : Nat) : Bool := (p.al n false).all fun c => Hh m (nn n ++ c)
theorem PF.la {p : PF} {N : List Nat} {Z : List Int} (h : p.ok N.length (N.length + Z.length) = true) : p.d N Z := fB fun z => by
 obtain ⟨c, m, hc⟩ := (He p).2 z
 exact Eu (by rw [cf, aa]) (aV.mp h c m) (FF.app hc)
noncomputable def qN : Nat → (List Nat → Prop) → Prop
 | 0, P => P []
 | n + 1, P => ∀ {x : Nat}, qN n fun l => P (x :: l)
noncomputable def qZ : Nat → (List Int → Prop) → Prop
 | 0, P => P []
 | n + 1, P => ∀ {x : Int}, qZ n fun l => P (x :: l)
theorem FG : ∀ {n : Nat} {P : List Nat → Prop}, (∀ l, l.length = n → P l) → qN n P := fun {n} => by
 induction n with
 | zero => exact fun h => h [] rfl
 | succ n ih => exact fun h => fun {x} => ih fun l e => h _ (congrArg ij e)
theorem FH : ∀ {n : Nat} {P : List Int → Prop}, (∀ l, l.length = n → P l) → qZ n P := fun {n} => by
 induction n with
 | zero => exact fun h => h [] rfl
 | succ n ih => exact fun h => fun {x} => ih fun l e => h _ (congrArg ij e)
noncomputable def ok1 (x : Nat × Nat × PF) : Bool := x.2.2.ok x.1 (x.1 + x.2.1)
noncomputable def Ew (L : List (Nat × Nat × PF)) (k : Nat) : Nat × Nat × PF := L.getD k (0, 0, .i .f .f)
noncomputable abbrev Th (L : List (Nat × Nat × PF)) : Prop := ∀ k : Nat, qN (Ew L k).1 fun N => qZ (Ew L k).2.1 fun Z => (Ew L k).2.2.d N Z
theorem all {L : List (Nat × Nat × PF)} (h : L.all ok1 = true) : Th L := fun k => FG fun N hN => FH fun Z hZ => by
 refine PF.la (Z := Z) ?_
 rw [hN, hZ]
 by_cases hk : k < L.length
 ·have e : Ew L k = L[k] := by unfold Ew; rw [aL, aG hk]; rfl
  rw [e]; exact aV.mp h _ (bJ hk)
 ·have e : Ew L k = (0, 0, .i .f .f) := by unfold Ew; rw [aL, a8 (dP.mp hk)]; rfl
  rw [e]; rfl
noncomputable abbrev NE.A := NE.v 0
noncomputable abbrev ZE.A := ZE.v 0
noncomputable abbrev NE.B := NE.v 1
noncomputable abbrev ZE.B := ZE.v 1
noncomputable abbrev NE.C := NE.v 2
noncomputable abbrev ZE.C := ZE.v 2
noncomputable abbrev NE.D := NE.v 3
noncomputable abbrev ZE.D := ZE.v 3
noncomputable abbrev NE.E := NE.v 4
noncomputable abbrev ZE.E := ZE.v 4
noncomputable abbrev NE.F := NE.v 5
noncomputable abbrev ZE.F := ZE.v 5
noncomputable abbrev NE.G := NE.v 6
noncomputable abbrev ZE.G := ZE.v 6
noncomputable abbrev NE.H := NE.v 7
noncomputable abbrev ZE.H := ZE.v 7
noncomputable abbrev NE.I := NE.v 8
noncomputable abbrev ZE.I := ZE.v 8
noncomputable abbrev NE.J := NE.v 9
noncomputable abbrev ZE.J := ZE.v 9
noncomputable abbrev NE.K := NE.v 10
noncomputable abbrev ZE.K := ZE.v 10
noncomputable abbrev NE.L := NE.v 11
noncomputable abbrev ZE.L := ZE.v 11
noncomputable abbrev NE.M := NE.v 12
noncomputable abbrev ZE.M := ZE.v 12
section
set_option compiler.extract_closed false
open Lean
def zD (s : String) : Syntax := zE "dotIdent" [zA ".", mkIdent (.mkSimple s)]
def zX (f : Syntax) (a : List Syntax) : Syntax := zE "app" [f, zL a]
def zq (n : Nat) : Syntax := Syntax.mkNumLit (toString n)
def zn : List Char → Nat → Nat × List Char
 | [], a => (a, [])
 | c :: r, a => if c.isDigit then zn r (a * 10 + (c.toNat - 48)) else (a, if c == '_' then r else c :: r)
def zf (c : Char) : String := match c with
 | 'y' => "L" | 'h' => "G" | 'u' => "mi" | 'v' => "ma" | 'b' => "ab" | c => toString c
def zr : Nat → List Char → Syntax × List Char
 | 0, l => (zD "f", l)
 | _, [] => (zD "f", [])
 | k + 1, c :: r =>
  let h := zD (zf c)
  if c.isUpper || c == 'f' then (h, r)
  else if c == 'c' then let (n, r) := zn r 0; (zX h [zq n], r)
  else if c == 'w' then let (n, r) := zn r 0; let (m, r) := zn r 0; (zX h [zq n, zq m], r)
  else if c == 'm' then let (n, r) := zn r 0; let (x, r) := zr k r; (zX h [zq n, x], r)
  else let (x, r) := zr k r
   if c == 'r' then let (n, r) := zn r 0; (zX h [x, zq n], r)
   else if c == 'n' || c == 't' || c == 'k' || c == 'b' then (zX h [x], r)
   else let (y, r) := zr k r; (zX h [x, y], r)
def zd (c : Char) : Syntax := zq (if c.isDigit then c.toNat - 48 else c.toNat - 55)
def zl : List String → Syntax
 | [] => mkIdent `List.nil
 | e :: r => match e.toList with
  | a :: b :: l => zX (mkIdent `List.cons) [zX (mkIdent `Prod.mk) [zd a, zX (mkIdent `Prod.mk) [zd b, (zr 200 l).1]], zl r]
  | _ => .missing
end
local macro_rules | `(tactic| wtm_at $s) => return zT "exact" [zA "exact", zl ((s.getString.drop 1).toString.splitOn ",")]
noncomputable def l0 : List (Nat × Nat × PF) := by wtm_at "#10hc0kA,20ilABltkAB,30ieABilCBltkCA,20iyAc5000ieBAyBc5000,30ieABilCBlCA,10ilAc64yAc16777216,20iyAc3ieBAyBc5000,10iyAc5000yAc5000,10iyAc5000yAc16777216,20iyaAc1ByAB,20ieABilBc64yAc5000,20ilAaBc1ineABlAB,30ieABilCAlCB,10ilAc64yAc5000,10ilc0Agc0kA,20iyAc10ieBAyBc5000,20iyAc4ieBAyBc5000,10iyAc5000lAw2_62,01hAaAkc0,13ihAaBc1ihBaCkAhAaCkaAc1,20ieABigskBc1c3yAc5000,20igkAkBlAB,10ilAc64lAw2_62,20ilABgkAkB"
noncomputable def l1 : List (Nat × Nat × PF) := by wtm_at "#20inlAByBA,01innzAnc1zAnc1,11iahnc1AgAkAinzAnc1hc0A,20iyAc3ieBAyBc16777216,20ilABilBc64gkAw2_63,10iyAc3lAw2_62,10iyAc10yAc16777216,10iyAc3lAc64,20ieABigkBc4yAc5000,10iyAc4yAc16777216,30iyABiyCAyCB,01innzAc0zAc0,21iahnc1AgAkAigkAkBgAkB,21iahnc1AgAkAieBAilc0AltAB,20ilABilBc64gkAc5000,10hnc1kA,01igc0AnzAc0,20iyaAc1BlAB,10iyAc4lAw2_62,10iyAc4lAc64,20izkAkBeAB,01ihnc1AinzAnc1zAktA,10nzkAnc1,00hnc1c0"
noncomputable def l2 : List (Nat × Nat × PF) := by wtm_at "#10zakAc1kaAc1,11igAkAilc0AltAA,01ihc0AzAktA,10iyAc5lAc64,10iyAc5lAw2_62,10iyAc3yAc16777216,14ihAaBc1ihBaCc1ihCaDm2kAhAaDm2kaAc1,30ieABieBCigkCc4yAc5000,10igskAc1c3lAc64,20iyAc4ieBAyBc16777216,02igABhAB,30iyaAaBc1CyaaAc1BC,20ilABineAsBc1lAsBc1,30iysaAc1aaBc1c1CysAaBc1C,20ilAByAB,20iyABineBAlAB,20ieABilBc64lAc64,02innzABzAB,10iyAc5000yAc16777215,10etakAc1aAc1,11iahnc1AgAkAytaAc1A,30ieAsBCigkCkBlsBaCc1A,20ilABilBc64yAc16777216,01hAaAc1"
noncomputable def l3 : List (Nat × Nat × PF) := by wtm_at "#01ihAc500000hAc1000000,01hAaAm10kc0,02ingaABc0hc0aAB,20iyAc5ieBAyBc5000,30iyAc5iyBm64AieCByCc5000,10iyAc10lAw2_62,13ihAaBc1ihBaCm2kAhAaCm2kaAc1,20iyABinlABeAB,30iyaAaBc1ClAC,30iyaAaBc1ClsAc1C,10iyc1AlsAc1A,20iyaAc1BlsBc1B,10yac0c1aAc1,10yAaAc1,20ilAByaAc1B,20yc0ssac0Ac1B,20ilaAc64BlaaAc1c2B,11iltAAgAkA,10hnw2_62kA,20innzkAkBeAB,30ilABinnzkCkBltkAC,01ingAc0hc0A,10ilc0AhnkAnc1,01inzsAc1nc1nzAc0"
noncomputable def l4 : List (Nat × Nat × PF) := by wtm_at "#30iyABilBCilCc64yAc16777216,20iyABilBc64lAc64,30iyABilBClAC,10iyAc5000lbkAw2_64,10igc0kAlc0A,30ieABigkCkBltkCA,30ieABigkCkBlCA,01igAc5000gAw2_63,11iyAc5000iahnc1AgAkAgAc5000,10iyAc64yAc5000,01ihc0Ahc0A,11ilAc64iltAAgAw2_63,12ihc0aABigaABkAltaABA,10iyAc5yAc16777216,02ihAaBc1ihBc500000hAc1000000,10gc0akAc1,00hc0c0,11iyAc10iahnc1AgAkAgAc5000,20iyAc10ilBAgkBc5000,20ieAByAB,10iyAc10lAc64,11iahc0AgAkAzAktA,20iahc0kAgkAkBlAB,10igskAc1c3lAw2_62"
noncomputable def l5 : List (Nat × Nat × PF) := by wtm_at "#01hAaAm2kc0,44ihAaBc1ihCaDm10kAihBaCm2kBihDc500000iyCc4iyDc5ilACilBDhAc1000000,10iyAc4gkAw2_62,20iyABiyBc5000yAc5000,20ilABlsaBc1aAc1saBc1A,20iyAsBc1ilc0BlAB,20ilAByAsBc1,30ilaaABc1ClAC,30ilaaABc1ClaaAc1BC,10iyAc60yaAc1c64,30ilaAaBc1ClaaABc1C,20ilAaBc1inlABeAB,30iysaAc1ac0c1BiysaAc1ac0c1CilBaAc1ilCaAc1eCB,20ysAaBc1sAc1,20ilABlAB,30iyABieCByAC,20iyaAc1Byc1B,10ineAc0lc0A,30ieABilCByCA,40ieABieaCaDc1BlCA,20ysABA,03ihABihCAhCB,02ihABihBAzBA,06iangABonzABngCDiangBEonzBEngDFangAEonzAEngCF"
noncomputable def l6 : List (Nat × Nat × PF) := by wtm_at "#04iangABonzABngCDiangBAonzBAngDCzAB,04iangABonzABngCDiangBAonzBAngDCzCD,30iesAaBc1aCc1esAaaBc1c1C,20iyAaBc1ineAaBc1yAB,20ieABilc0Blc0A,20ilaAc2BlAB,20ilaAc2BlaAc1B,20iyABieBc16777216gkAw2_63,20ilaAm2aBc1c900laaAc1m2Bc900,20iyAc5000innzkAkBlBw2_62,30iyAc5000innzkBkCinnzkAkCyBc5000,31ilABingkAAinnzkCkBltAC,30ilABilBClAC,30iyABilCAlCB,20lAaAaBc1,31inhkAsAkBizsAkBkClCA,51ieABieCBinhkCsAkDizsAkDkElEA,30iyABiyCc5000ilBCyAc16777216,30iyABiyCc5000ilBCyAc5000,20iyAc5000ilBAyBc16777216,20zskaABkAkB,20iyAm64BilBc64yAc5000,10iyAc60yAc5000,10nhc0snkAc1"
noncomputable def l7 : List (Nat × Nat × PF) := by wtm_at "#01ihnc1AiytaAc1c0zAnc1,21iytakAc1aBc1iahnc1AgAkAytaAc1B,21iahnc1AgAkAilABgAkB,21iahnc1AgAkAieBtakAc1ltaAc1B,11iahnc1AgAkAhnc1A,20iyAc5000ilBAyBc5000,20iyAc5000ilBAgkBc5000,10ysAc8A,30ilABilCsAsAc8lasAc8CB,20hc0kasAc8B,30ilABilCsAsAc8ltkasAc8CB,30ieABieCBeAC,21ilABiozAnc1ahc0AgAkAltAB,01ihAc1000igc0AlbAc1073741824,01ihc0Ahc0aAc1,01haAc1aAc1,01ihc0Ahc0am2Ac7207,20iyAByAB,10iyAc6yAc5000,11iyAc5000iltAAgAw2_63,10ingc0kAnlc0A,20inzkAkBneAB,13ihABizCsanAkAkc0hkAaCB,22izAsanBkAkaBc1zaAc1sanBkAkB"
noncomputable def l8 : List (Nat × Nat × PF) := by wtm_at "#20iyAm64BilBc64lAw2_62,20iyAm64BilBc64yAc16777216,01ihc0Anzc0aAc1,12inltaABAyAtaAB,02zsaABBA,10etanc1akAc1A,01ihc0Ahc0ac1A,01ihc0Alc0tac1A,01igAc3ytac1Ac3,10ioyAc4eAc10hakAc1c1000,10hc1akAc1,10iyAc3hkAc1000,20iyABhkAkB,20ineABnzkAkB,02izABhAB,10iyAc50yAc5000,11iyAc10igAkAgAc5000,21iahc0AgAkAieBAltAB,00hnc1nc1,10gnc1kA,20iyAc50ieBAyBc5000,10ilc0Altc0A,00gc0c5000,10iyAc3yAc5000"
noncomputable def l9 : List (Nat × Nat × PF) := by wtm_at "#01nnzAA,40ieABieCBilDAltkDC,11iahc0AhAkAinzAc0hc0sAc1,21iahc0AhAkAieBAinzAc0ltsAc1B,10igskAc1c3yAc16777216,10igkAc4lAw2_62,10igkAc4yAc16777216,20ieABeAB,20igskAc1c3ilBAgkBc5000,02ianahnc128AgBc128nazAc0gBc256ihnc128Agc127B,02inahnc128AgBc128nahnc128AgBc128,02inahnc32768AgBc32768nahnc32768AgBc32768,12iahc0AahAc2ahc0BahBc40000yAc5lbm8Ac1920,10iyAc4hskAc1c1000,10iyAc4hkAc1000,20iyAByAaBc1,20ilAc64yuBAc16777216,20zakAkBkaAB,01hAA,02inhABhBA,01ihc0Azac1Aktac1A,30ieAaBCyBA,30iyAc3iyBc5ieCaBAyCc5000,10iyc4Alc0A"
noncomputable def l10 : List (Nat × Nat × PF) := by wtm_at "#30iyAc5000iyBc5000iyCvAByCc5000,10iyAc4900yAc5000,24ihAanBkAihc0BiyAc4900iahc0aACgaACkvABietaaADc1BigDc64gaACw2_63,22iahc0aABgaABkvABgaABkvAB,22iyABiltaABAltaABB,30iyABieCAilBc64yCc16777216,20iyAaBc1yAaBc1,20iyAaBc1iyBc1000yAac16777216c1,10ilAc29lAc30,01ihnw2_62AigAw2_62ahnw2_63AgAw2_63,12inlAtsABytsABA,11zaArkA1aAkA,02ingABhBA,01ihc0AigAw2_62ahnw2_63AgAw2_63,10iyAc16777216nlc16777216A,20ilaAm2aBc1c900laAm2Bc900,20ilaaAm10aBc1c200c9900laaaAc1m10Bc200c9900,30iyABilaCm2Bc900laCm2Ac900,30iyABilaaCm10Bc200c9900laaCm10Ac200c9900,20ilaAm2Bc900lAc1000,20ilaaAm10Bc200c9900lAc9900,20ilaaAm10Bc200c9900laAc64c9900,30ilaAaBc1ClAC,30ilaAaBc1ClaaAc1BC"
noncomputable def l11 : List (Nat × Nat × PF) := by wtm_at "#30iyAc64ilaBc64ClaBAC,20yAaAaBc1,10yc1aAc1,30iyAaaBc1CyAaBaCc1,30ilAaBaCc1lAaaBc1C,40iayABlBCilDByAssaACc1D,30iayABlBClssaACc1BC,30iayABlBCyAssaACc1B,40iayABlBCilBDlssaACc1DC,40iayABlBCilBDinayADlDClssaACc1BD,40iayABlBCilDBinayADlDClDssaACc1B,40iyABiayCDlDAlssaCAc1DB,20iyaAc0ByAB,40iyaAaBc1CieDCyaAc1D,30iyaAaBc1CyAC,20iyaAc1ByaaAc1c1aBc1,30ilABilCAlCB,30ilABilCAlssac0Bc1Assac0Bc1C,30ilABlssac0Bc1CB,20iyAByaAsBAB,20iyABiyc1Ayc1B,30iyABiyCaAsBAyCB,20iyaAc1ByaaAc1sBaAc1B,10iyc1Ayac1sAc1A"
noncomputable def l12 : List (Nat × Nat × PF) := by wtm_at "#20ilABlAac1sBc1,10iyc1Alc0A,20ilABlsAc1B,10iyc1Ayc1A,20iyc1Alssac0Ac1BA,20iayc0AlABlssac0Bc1AB,20ilAaBc1inayc0AlABeAB,20ilABlssac0Bc1AB,10yc0sAc1,20ilABlsBc1B,10iyc1Ainlc1AeAc1,20ilABilBac1c1eAc0,20ilABilBac1c1eBc1,30iyABiysCAc0yCB,30ieaAaBc1ClAC,10ysAc0A,30ieaAaBc1CeaaAc1BC,20iyABesBsBAA,30ialAByBCyAsBc1,30ialAByBClsBc1C,10iyc1AevAc1A,20ilABeaAsBAB,40ieABilCAilDClDB,10ilAc64yAac16777216c1"
noncomputable def l13 : List (Nat × Nat × PF) := by wtm_at "#20ieABilAc2lBc2,20ieABinlAc2yc2B,20ieABinlAc2yc1B,02ohABhBA,04oangABonzABngCDangBAonzBAngDC,02igABngBA,03ingABingBCngAC,04iogABazABgCDangBAonzBAngDC,20iyc2AieBAlc0B,30iyaAc1BieCBiesBaAc1c0eaAc1C,30iesAaBc1c0ilCAyCB,40ieABiesBaCc1aDc1laCc1A,30iesAaBc1aCc1laBc1A,20ilaAc64BlaAc1B,10iyAc0eAc0,40ieaAac3BaCDeaaAc3BaCD,01ihc0Ahnw2_63A,01ihc0AngAc0,20ilaaAm10aBc1c200c9900laaaAc3m10Bc200c9900,10neAaAc1,10ieAc0yac1m3Ac4,30iyAc4ilaaBm10aCc1c200c9900laaaBAm10Cc200c9900,10iyAc63yAc64,10ingkc63kAyAc63"
noncomputable def l14 : List (Nat × Nat × PF) := by wtm_at "#10ilAw2_62gkAw2_62,01ihc0AigAc0f,11ihAkAigkAAf,11ingkAAhAkA,00lc0w2_62,20iyAc5000innzkAkByBc5000,01ihc0AigsAc1nc1f,11ihAkAihkAsAc1f,01ingsAc1nc1hc0A,11inhkAsAc1hAkA,01izsAc1nc1zAc0,01izsAc1nc1nhc0sAc1,14inzAc0izsAc1nc1azBsAc1ahc0skACgskACD,01ingsAc1nc1inzsAc1nc1hc0sAc1,11inhkAsAc1ingsAc1nc1inzsAc1nc1ltsAc1A,31ieABieCBinhkAsAc1ingsAc1nc1inzsAc1nc1ltsAc1C,02inzsAc1nc1izAc0zBc0,02innzAsBc1zAsBc1,21ihAkAilABgAkB,30iyABiyCaAc1yCaBc1,20iyABiyBc5000lAw2_62,30iyABiyBc5000ilCAgkCw2_63,30iyABiyBc5000ilCAyCc16777216,20iyABeBaAsBA"
noncomputable def l15 : List (Nat × Nat × PF) := by wtm_at "#20esaABAB,10ilAAf,20yaAc1aaAc1B,20eaaAc1BaAaBc1,20iyAc5000ieBAyBc16777216,11ingsAkAc0zsAkAktsAkA,21inhkAsAkBingsAkBc0nogsAkBc0hkAsAkB,41iyAc5000ieBAinhkBsAkCizsAkCkDgkDw2_63,00izkc1c0f,51ieABieCBinhkCsAkDizsAkDkEltkEA,10innzkAc1eAc1,10innzkAc2eAc2,10inzkAc1inzkAc2aneAc1neAc2,01innzAnc1048576zAnc1048576,20ilABilBc64gkAc64,20ilABizkAkBf,21ilABiogAc0hkBAizkAAf,20iayABlBw2_62gkAw2_62,20iayABlBw2_62gkBw2_62,30ilAtskBkClAsBC,20etskAkBsAB,30iyAc5000ilBsACyBc16777216,20iyAc5000ilBAgkBw2_63,00yc0c64"
noncomputable def l16 : List (Nat × Nat × PF) := by wtm_at "#10ilAc64yaAc1c64,02ihc0AigABltAtB,01igAc64ltAc64,20iyAc60lsABc64,30iyABiyCAilBc64yCc5000,02igABizABf,30ilABilBc64yuACc16777216,30ieABinlCByAC,20ilABesBAasBaAc1c1,20earA2m2Bm2aAB,10eac1m2Aam2Ac1,20ieAam2Bc1lBA,20iyaAaBc1c64yAc16777216,20ieAm2Bigc0kAlBA,10nlAc0,30ilABilBaCc1lAC,20ilAaBc1ysAc0B,30iyABilCBlaCArB2,01zsnsnAc1c1A,10ilAc64hkAc1000000,41iyAc5000iyBtaAc1ieaCDBigAkAyCc16777216,20ingkAkByBA,20igkAkBltkAB,01innzAnc1hnc1A"
noncomputable def l17 : List (Nat × Nat × PF) := by wtm_at "#01innzAnc1nnzAnc1,20iyAc5000ilBAlBw2_62,30ilAuBsCsCc8gkasCc8AkasCc8B,30iyAc5000ilBAilCsBsBc8gkasBc8Cc5000,34igkAAingBCizACangBkAnazBkAgDkasBc8C,35iangABnazABgCDigkAEizEBangAkAnazAkAgCkasBc8C,12ingkAAizABngkAB,33igAkasAc8BingkCBizBCangkCCnazkCCgaksAc8kBA,20ilAsBsBc8ahc0kasBc8AgkasBc8AkB,11inzAnc1iozAnc1ahc0AgAkAhc0A,21ilABilBc64iozAnc1ahc0AgAkAgAc5000,10yuc40Ac16777216,10ilc0AnzkAc0,11iahc0AgAkAltAA,01iahc0AgAc2147483629lbAw2_64,01ihAc1000000ihc0Albm20947Aw2_64,01iahc0AgAc2147483629hAc2147483629,01ihAc1000000ham2Ac7207c2007207,01ihAc1000000hm20947Ac20947000000,01ihAc1000000hAc1000000,01ihc0Ahc0m20947A,02ihAm20947000000c1000000ihBm2147483629c2007207ihc0Aihc0BlbaaBAc31w2_64,10iyAc1000yAc16777216,10iyAc1000hkAc1000"
noncomputable def l18 : List (Nat × Nat × PF) := by wtm_at "#11iyAc1000igAkAgAw2_63,21iyABiahc0AgAkAahc0AgAkB,11iahc0AgAkAizAkAf,11iahc0AgAkAahc0AgAkaAc1,10ahc0kAgkAkaAc1,11iahc0AgAkc0yAc0,12iahc0AgAkaAc1iahc0BgBkaAc1igBAahc0BgBkA,11igAkAilAc64gAc64,10zkac2Aac2kA,10igkAc4lac2Aw2_62,20igkAc4ilBac2AyBc5,30ieABigkCc4ilBac2CyAc16777216,01hAaAc2,23ihAaBc1ihCaAm10kAihBc500000igkBc4ilAac2BhCc1000000,02ihAaBc1hAaBc2,30ieABigkCc4ilBac2CyAc1000,24ihAaBc1ihCaDc1ihDaAm10kAihBc500000igkBc4ilAac2BhCc1000000,03ihAaBc1ihBaCc1hAaCc2,13ihAaBc2ihBaCm10kAhAaCm10kaAc1,35ihAaBc1ihCaDc2ihEaCkAihDaAm10kBihBc500000igkCc4ilBac2CilAc6hEc1000000,20iyABilBc6yAc5000,14ihAaBc2ihCaAkc6ihBaDm10kAhCaDm10kaAc1,20ieAac2Byc2A,20ieAac2BigkBc4yAc5"
noncomputable def l19 : List (Nat × Nat × PF) := by wtm_at "#13ihAaBc1ihCaAm10kac2AigkAc4hCaBc100,30ieAaBc1ieaCc1AeCB,30ilAuBClAB,30ieABieACilBCf,20ilABeBaAsBA,20ilABesBAassBAc1c1,40iyAaBCiyBaDc1yAaDaCc1,30iyABiyCAilBc64lCc64,12inyAtaaABc1evAtaaABc1A,02ihABihBAzAB,10zaskAc1c1kA,11iahc0AgAkAhAskAc1,11izAnc1hAskAc1,10zsc0kAnkA,10ilAc64gkAw2_62,11ilAc64iltAAgAc5000,11zsc0AsanAkAkA,04ihABihnACizDChc0aDB,40iyABiyCaDAilBc64ilDc64yCc16777216,10ilAc64yAc16777215,03igABnzaCAaCB,02ihc0Aihc0BietBtAzBA,21ieABiltABltAA,11izakAc1aAc1zAkA"
noncomputable def l20 : List (Nat × Nat × PF) := by wtm_at "#03izAaBCzsABC,02zaAsBAB,02zsaABAB,12inltaABAizktaABaABhkAaAB,20ilABahc0kAgkAkB,11hAaAkA,12ilAtsABgaBkAA,10iyAc5lrA6c64,30ieABieCByCA,20iyAc5ilBAgkBc5000,20iyAc5ieBAyBc16777216,10igkAc10ioyAc4eAc10yAc4,10iyAm4c3lAc64,01igAc2ytac1Ac3,10ioyAc4eAc10yAc10,01igAc2ytac1Ac2,10iyAm10c2lAc64,10ioyAc4eAc10lAw2_62,30ieABilBCioyCc4eCc10yAc16777216,24ihAaBc1ihBaCc1ihDaAm10kAihCc500000ilABioyBc4eBc10hDc1000000,30ieABilBCioyCc4eCc10yAc1000,25ihAaBc1ihCaDc1ihDaEc1ihBaCm10kAihEc500000ilABioyBc4eBc10hAc1000000,26ihAaBc1ihCaDc1ihBaEc1ihDaFc1ihEaCm10kAihFc500000ilABioyBc4eBc10hAc1000000,27ihAaBc1ihCaDc1ihBaEc1ihFaGc1ihDaFc1ihGaAm10kAihEc500000ilABioyBc4eBc10hCc1000000"
noncomputable def l21 : List (Nat × Nat × PF) := by wtm_at "#11iyAc3igAkAgAw2_63,21ieABigAkBgAkA,16ihAaBc1ihCaDc1ihDaEc1ihBaCc1ihEaFm10kAhAaFm10kaAc1,11ihc0AigAakAc1ahnc1sAc1gsAc1kA,46ihAaBc1ihCaDc1ihDaEc1ihFaAkAihBaCm10kBihEc500000iyCc3ilBDilACioyDc4eDc10hFc1000000,12ihc0AigAakAc1izBsAc1ahnc1BgBkA,24ihAaBc1ihCaAkAihBaDm10kBiyAc3hCaDm10kaBc1,20ieABioyBc4eBc10yAc10,35ihAaBc1ihCaAc1ihDaEkAihEaCm10kBihBc500000iyCc10ieCBilAChDc1000000,10iyAc10yAc10,25ihAaBc1ihBaCc1ihDaEkAihEaAm10kBiyAc10ieABhDaCc1000,02igABnzAB,11hAaAkaAc1,12ihAaaBc1kAhAaBkaAc1,11zaaAc1kAaAkaAc1,21iyABigAkAgAkB,12ihABhkAaanAkAB,01ihc0AnzaAc1c0,12yAvAtaaABc1,30iyABiyCm64AyCm64B,21ilABgskAAskBA,11izAc0nzAakAc1,12igAskABizAskABf,21ineABizAakBc1nzAakAc1"
noncomputable def l22 : List (Nat × Nat × PF) := by wtm_at "#10ahnc1nc1gnc1kA,11ihnc1AigAkAinzAnc1ltAA,21ihc0AieABigAkBltAA,10iyAc50lAw2_62,30ilAsBClaCAB,01ihc0Ahnc1A,01ihc0AnzAnc1,20hc0kaAB,30ilaABCltkaABC,20zakaABc1kaaABc1,20yAaBsAB,01inzAnc1nzAnc1,01ihnc1AinzAnc1hc0A,11iahnc1AgAkAinzAnc1zAktA,20iahnc1kAgkAkBlAB,30iahnc1kAgkAkBilBClAC,50iyAc50iyBtakCc1ieaDEBilCAyDc16777215,30iyABieCBiesBAc0eAC,20iesABc0yAB,40ieABiesBCaDc1lCA,30iesABaCc1lBA,20iyAc5000yuBAc16777216,30iesABaCc1esAaBc1C,10esAc0A"
noncomputable def l23 : List (Nat × Nat × PF) := by wtm_at "#10ysAsAc8c8,20iyAc10ilBAlBw2_62,10ilc0Alc0A,30ilAsBsBc8yuACc16777216,30iyAc10ilBAilCsBsBc8gkasBc8Cc5000,20iyABiyBc3yAc16777216,20iyABiyBc3yAc5000,20iyAc10yuBAc5000,10iyAc8yAc16777216,30iahc0kAgkAkBilBClAC,20iyAc10ieBAyBc16777216,30iyAc10ilBAyuBCc16777216,20iyAc3ieBAlBw2_62,10iyAc10gkAw2_62,00nnznc1nc1,10ieAc5yAc5000,10ioeAc0eAc2yAc2,10ieAc5yAc50,20iyAc2ieBc5yAB,10nnzkAkA,10iyAc10yAc5000,10iyAc10yAc50,20ilAaBc1hkAkB,20ihkAkBlAaBc1"
noncomputable def l24 : List (Nat × Nat × PF) := by wtm_at "#30iyAc10ieBAilCBlaCc1w2_62,30iyAc10ieBAilCByaCc1c16777216,30ilABilCaAc1ltkCB,11iahc0AgAkAhc0A,42iahc0AahAkAzBAieBCieDCilADltAB,21iahc0AhAkAieBAhAkB,01izAc0nnzAc0,22ieABiltaABBltaABA,02zAsaBAB,02ihc0AizBaAc1nzBc0,01zsaAc1c1A,02ihAc64igBAgBc64,01ihc0AzAsktaAc1c1,10zac1skAc1kA,03ihAaBc1ihBaCc1ihCc500000hAc1000000,25ihAaBc1ihBaCc1ihCaDc1ihEaAkAihDc500000igskBc1c3ilABhEc1000000,26ihAaBc1ihCaAc1ihBaDc1ihEaCkAihFaEkBihDc500000igskAc1c3ilBAhFc1000000,37ihAaBc1ihCaDc1ihDaAc1ihEaCkAihFaGkBihGaEkAihBc500000igkCc4igskAc1c3ilBChFc1000000,10igskAc1c3hakAc1c1000,11ihc0AigAakAc1ahc0AhAkA,20ieABigkBc4yAc16777216,48ihAaBc1ihCaDc1ihDaAc1ihEaCkAihFaGkBihGaEkAihHaFm2kCihBc500000ieDBigkBc4igskAc1c3ilCDhHc1000000,49ihAaBc1ihCaDc1ihBaEc1ihFaAc1ihGaFkAihHaIkBihIaGkAihDaHm2kCihEc500000ieDBigkBc4igskAc1c3ilCDhCc1000000,38ihAaBc1ihBaCc1ihDaAc1ihEaDkAihFaGkBihGaEkAihHaFm2kCieCBigkBc4igskAc1c3hHaCc1000"
noncomputable def l25 : List (Nat × Nat × PF) := by wtm_at "#10igskAc1c3yAc10,20ieABigkBc4yAc10,10igskAc1c3laAc1c64,20ieABieAaBc1f,30ieABieBCigkCc4yAc16777215,30ieABieBCigkCc4yAc4999,20ieABieaAc1Bf,20ieABigkBc4lAc64,02igAc3izac1ABhBc64,30iyABieBCigkCc4yAc16777216,20ieAByBA,02ihnc128AigBc128ahnc128AhBc127,02inahnc128AgBc128ihnc128Agc127B,02igAc256izBc0ahc0BhAc255,02ihAc0ianahnc128AgBc128nazAc0gBc256ihc0Agc255B,02ihnc32768AigBc32768ahnc32768AhBc32767,02ianahnc128AgBc128nazAc0gBc256izAc0ihc0Agc255B,02inahnc32768AgBc32768ihnc32768Agc32767B,02igAc65536izBc0ahc0BhAc65535,02ianahnc32768AgBc32768nazAc0gBc65536ihnc128Agc127B,02ianahnc32768AgBc32768nazAc0gBc65536ihc0Agc255B,02ianahnc32768AgBc32768nazAc0gBc65536ihnc32768Agc32767B,02ihAc0ianahnc32768AgBc32768nazAc0gBc65536ihc0Agc65535B,01ihnc128Ahnc128A"
noncomputable def l26 : List (Nat × Nat × PF) := by wtm_at "#01igAc128gAc128,01igAm2c128gAc256,02inazAc0gBm2c128nazAc0gBc256,00yc1c1,01ihnc32768Ahnc32768A,01igAc32768gAc32768,01igAm2c32768gAc65536,02inazAc0gBm2c32768nazAc0gBc65536,12iahc0AahAc2ahc0BahBc40000yAc5hAc1000000,22iahc0AahAc2ahc0BahBc40000yAc5ieBc3yaBAc16777216,22iahc0AahAc2ahc0BahBc40000yAc5ieBc4yaBAc16777216,30iyAc4ieBCilCAyBc16777216,30iyABiyCc5ilBCyAc5000,43ihAaBm10kAihCaAm2kBihBc500000iyCc4iyDc5ilACilBDhCc1000000,01iozAc1048576zAnc1048576nzAc0,10iyc2Agc0skAc1,01ihc0Anzssc0c1Ac0,10igc1kAgc0skAc1,01ihc0Anzac1Ac0,23ihAaBm10kAihCaAm2kBiyBc5hCaBm10kaAc1,12ihAaBm10kAiyAc4hAaBc100,30iyAc3ieBCilCAyBc16777216,43ihAaBm10kAihCaAm2kBihBc500000iyCc3iyDc4ilBDilAChCc1000000,44ihAaBc1ihCaDm10kAihBaCm2kBihDc500000iyCc3iyDc4ilACilBDhAc1000000"
noncomputable def l27 : List (Nat × Nat × PF) := by wtm_at "#12ihc0AigAkAizBAahc0BgBkA,11ilc0AizAc0ahc0AgAkA,23ihAaBm10kAihCaAm2kBiyBc4hCaBm10kaAc1,12ihAaBm10kAiyAc3hAaBc100,30iyAc3ilBAyuBCc16777216,20iyAc3ilBAgkBc5000,20iyAc4ieBAlBw2_62,20ilABeuABA,21iogAkAhakAkBAogsAkAc0hkBsAkA,20iyAc4ilBAgkBc5000,31ieABilc0CiozAc0ozAskCc1ozAakCkBzAaakCkBc2ogAkChakCkAA,10iyAc5yAc5000,02izABhBA,03ihABihBChAC,23ihAaBc1ihCaAkAihBc500000igkBc4ilABhCc1000000,13ihAaBc1ihCaAkAigkAc4hCaBc100,0AzaAaBaCaDaEaFaGaHaIaJc0aAaBaCaDaIaEaFaGaHaJc0,20ilABnogkAc0hkBkA,20iyAc3iyBc5eauBc5uAc3aBA,01ihAc400000hAc1000000,02ihAaBc1ihBc400000hAc1000000,03ihAaBc1ihBaCc1ihCc400000hAc1000000,04ihAaBc1ihCaDc1ihBaCc1ihDc400000hAc1000000,01ihc0Azac4Aktac4A"
noncomputable def l28 : List (Nat × Nat × PF) := by wtm_at "#01ihc0Azac2Aktac2A,11ihc0Aizac1AkAlc0A,11igAc4izac1AkAyAc4,11ihc0Aizac4AkAyc4A,11igAc2izac4AkAyAc5,11ihc0Aizac1AkAyc1A,11igAc3izac1AkAyAc3,11ihc0Aizac2AkAyc2A,11igAc3izac2AkAyAc4,05ihAaBc1ihCaDc1ihEaCc1ihBaEc1hAaDc4,02ihAaBc4ihBc400000hAc500000,03ihAaBc100ihBaCc4ihCc400000hAc500000,25ihAaBc100ihBaCc100ihCaDc4ihEaAkAihDc400000iyBc4ilABhEc1000000,10iyc2Agc0kA,10iec0Ailc0Af,20iyAc4ilBAhkBc1000000,40iyAc3iyBc5yauBCuADc16777216,10iyc2Ahc0skAc1,10iyAc4gskAc1w2_62,10iyAc4yAc16777217,10iyAc4yac1sAc1c16777216,30iyAc3iyBc5ieCaBAyCc60,30ieAaBCesABC,20iyAc4ieBAlBc64"
noncomputable def l29 : List (Nat × Nat × PF) := by wtm_at "#20iyAc4ieBAyBc4,20iyAc3ieBAyBc3,20iyAc4ieBAyBc64,15ihAaBc100ihBaCc100ihCaDc4ihEaAkAihDc400000iyAc4hEc500000,16ihAaBc100ihCaDc100ihEaCc100ihDaFc4ihBaEkAiyAc4hAaFc1000,20nnzakAkBakAkB,30iyAc3iyBc5ieCaBAyCc16777216,10iyAc4lbkAw2_64,10yuc40Ac64,10iyc2Alc0A,01ihAac0c100hAc500000,13ihAaBc1000ihCaAkAihBac0c100ilAc5hCc1000000,03ihAaBc1000ihCaAkc5ihBac0c100hCc400000,01hAaAm1000kc0,15ihAaBc1000ihCaDc1000ihBaCkc5ihEaAm1000kAihDac0c100ilAc3hEc500000,13ihAaBc1000ihBaCm1000kAhAaCm1000kaAc1,20iyABilBc64yAc16777216,11ihkAAhkAA,11iyAc5000inhkAAgAw2_63,11ihc0AinhkAAltAA,11znAsanAkAkA,23ihABiyABizCsanAkBkAhc0aCB,20yAvAB,30igkAkByaAc1vCB"
noncomputable def l30 : List (Nat × Nat × PF) := by wtm_at "#30iyABiyBvACingkBkCeBvAC,13ihABihnACietaaCBc1AzaaCBc1kA,23ihAanBkAihc0BiyAc4900ietaaACc1BigCc64yBc5000,24ihABihBCihnADietaaDCc1Aahc0aDBgaDBkvBA,22iahc0aABgaABkvABltaABvAB,40iyABiyCm64DilDAilBc64yCc4900,12ihkAaAByAtaAB,12inhkAaABingaABc0ltaABA,11iahc0AhAkAinzAc0zAaktsAc1c1,20iahc0akAc1hakAc1kBlAB,10zsakAc1c1kA,30iahc0akAc1hakAc1kBieCBlAC,20iahc0akAc1hakAc1kBilBc64gkAw2_63,30iahc0akAc1hakAc1kBieCBltkAC,30iahc0kAgkAkBieCBlAC,20iahc0kAgkAkBilBc64gkAw2_63,20iyABiyBc5000yAc16777216,30iyABieCAeCuAB"
end Ar
theorem J0 : Ar.Th Ar.l0 := Ar.all (by kernel_rfl)
theorem J1 : Ar.Th Ar.l1 := Ar.all (by kernel_rfl)
theorem J2 : Ar.Th Ar.l2 := Ar.all (by kernel_rfl)
theorem J3 : Ar.Th Ar.l3 := Ar.all (by kernel_rfl)
theorem J4 : Ar.Th Ar.l4 := Ar.all (by kernel_rfl)
theorem J5 : Ar.Th Ar.l5 := Ar.all (by kernel_rfl)
theorem J6 : Ar.Th Ar.l6 := Ar.all (by kernel_rfl)
theorem J7 : Ar.Th Ar.l7 := Ar.all (by kernel_rfl)
theorem J8 : Ar.Th Ar.l8 := Ar.all (by kernel_rfl)
theorem J9 : Ar.Th Ar.l9 := Ar.all (by kernel_rfl)
theorem J10 : Ar.Th Ar.l10 := Ar.all (by kernel_rfl)
theorem J11 : Ar.Th Ar.l11 := Ar.all (by kernel_rfl)
theorem J12 : Ar.Th Ar.l12 := Ar.all (by kernel_rfl)
theorem J13 : Ar.Th Ar.l13 := Ar.all (by kernel_rfl)
theorem J14 : Ar.Th Ar.l14 := Ar.all (by kernel_rfl)
theorem J15 : Ar.Th Ar.l15 := Ar.all (by kernel_rfl)
theorem J16 : Ar.Th Ar.l16 := Ar.all (by kernel_rfl)
theorem J17 : Ar.Th Ar.l17 := Ar.all (by kernel_rfl)
theorem J18 : Ar.Th Ar.l18 := Ar.all (by kernel_rfl)
theorem J19 : Ar.Th Ar.l19 := Ar.all (by kernel_rfl)
theorem J20 : Ar.Th Ar.l20 := Ar.all (by kernel_rfl)
theorem J21 : Ar.Th Ar.l21 := Ar.all (by kernel_rfl)
theorem J22 : Ar.Th Ar.l22 := Ar.all (by kernel_rfl)
theorem J23 : Ar.Th Ar.l23 := Ar.all (by kernel_rfl)
theorem J24 : Ar.Th Ar.l24 := Ar.all (by kernel_rfl)
theorem J25 : Ar.Th Ar.l25 := Ar.all (by kernel_rfl)
theorem J26 : Ar.Th Ar.l26 := Ar.all (by kernel_rfl)
theorem J27 : Ar.Th Ar.l27 := Ar.all (by kernel_rfl)
theorem J28 : Ar.Th Ar.l28 := Ar.all (by kernel_rfl)
theorem J29 : Ar.Th Ar.l29 := Ar.all (by kernel_rfl)
theorem J30 : Ar.Th Ar.l30 := Ar.all (by kernel_rfl)
set_option compiler.extract_closed false
open Lean in
def aR : Syntax := (Unhygienic.run `(tacticSeq| with_unfolding_all rfl)).raw
open Lean in
def aD : Syntax := (Unhygienic.run `(tacticSeq| decide)).raw
open Lean in
def aK : Syntax := (Unhygienic.run `(tacticSeq| kernel_rfl)).raw
open Lean in
def aF : Syntax := (Unhygienic.run `(tacticSeq| rfl)).raw
open Lean in
def aI : Syntax := (Unhygienic.run `(tacticSeq| intro _ _; rfl)).raw
open Lean in
def aE : Syntax := (Unhygienic.run `(tacticSeq| with_unfolding_all decide)).raw
theorem dcl {p : Prop} (h : autoParam p aE) : p := h
inductive PV where
 | none | bool (b : Bool) | int (i : Int) | str (x : Str)
 | tup (xs : List PV) | lst (xs : List PV) | dct (es : List (PV × PV)) | ins (c : Str) (fs : List (Str × PV))
 | rng (a b : Int) | ref (a : Addr)
inductive HO where
 | lst (xs : List PV) | dct (es : List (PV × PV)) | ins (c : Str) (fs : List (Str × PV))
noncomputable abbrev HH := List (Addr × HO)
noncomputable abbrev CV := PV → HH → Prop
noncomputable abbrev CL := List PV → HH → Prop
noncomputable abbrev CB := Bool → HH → Prop
structure Gh where
 g : Addr → Option Obj
 own : Addr → Option Addr
structure Wd where
 prog : Program
 w : World
 B0 : Heap
 os0 : OsState
 mg : Str → Option Value
 mb : Str → Option Value
 hg : B0.Ns mainGlobals mg
 hb : B0.Ns builtinsNs mb
 nolimit : B0.NoLimit
 bb : ∀ x : Str, x ≠ "__name__" → mb x = bootBuiltins x
 K : Frag
 inK : K.In B0
 hsys : ∃ o, B0.get? sysModules = some o
noncomputable abbrev lK (vs : List Value) (n : Nat) : Obj := { cls := .type "list", data := .seq vs.toArray n }
noncomputable abbrev At (vs : List Value) (n : Nat) : Obj := { cls := .type "tuple", data := .seq vs.toArray n }
inductive IsT (g : Addr → Option Obj) (a : Addr) (vs : List Value) : Prop
 | mk (o : Obj) (e : g a = some o) (d : o.cls = .type "tuple" ∧ ∃ n, o.data = .seq vs.toArray n)
noncomputable abbrev nU (es : List DictEntry) (n : Nat) : Obj := { cls := .type "dict", data := .dict es.toArray n }
mutual
noncomputable def GY (W : Wd) : PV → Int
 | .int i => hashInt i
 | .str x => bE W.w.params x
 | .tup xs => reduceHash (bC (Cz W xs))
 | _ => 0
noncomputable def Cz (W : Wd) : List PV → List Int
 | [] => []
 | x :: xs => GY W x :: Cz W xs
end
noncomputable def wE : List Str → Bool
 | [] => true
 | x :: xs => match xs.any (cH x) with
  | true => false
  | false => wE xs
theorem tZ {l : List Str} (h : wE l = true) : l.Nodup := by
 induction l with
 | nil => exact i5
 | cons x xs ih =>
  unfold wE at h
  cases e : xs.any (cH x) with
  | true => rw [e] at h; cases h
  | false =>
   rw [e] at h
   refine aY.mpr ⟨fun m => ?_, ih h⟩
   rw [ik] at e
   exact e x m (cG.mpr rfl)
open Lean in
def aN : Syntax := (Unhygienic.run `(tacticSeq| exact tZ (by kernel_rfl))).raw
theorem Aj {a b : Str} (h : cH a b = false) : a ≠ b := fun e => fX (h.symm.trans (cG.mpr e))
inductive vn (g : Addr → Option Obj) (R : List Value → Prop) (v : Value) : Prop
 | mk (a : Addr) (vs : List Value) (e : v = .ref a) (it : IsT g a vs) (r : R vs)
inductive Au (g : Addr → Option Obj) (R : List Value → Prop) (v : Value) : Prop
 | mk (a : Addr) (vs : List Value) (n : Nat) (e : v = .ref a) (h : g a = some (lK vs n)) (r : R vs)
inductive Av (g : Addr → Option Obj) (N : Prop) (R : List DictEntry → Prop) (v : Value) : Prop
 | mk (a : Addr) (ds : List DictEntry) (n : Nat) (e : v = .ref a) (h : g a = some (nU ds n)) (nd : (a == sysModules) = false ∧ N) (r : R ds)
inductive Aw (g : Addr → Option Obj) (c : Option Value) (N : Prop) (R : List DictEntry → Prop) (v : Value) : Prop
 | mk (a C dx : Addr) (ds : List DictEntry) (n : Nat) (e : v = .ref a) (hc : c = some (.ref C)) (h : g a = some (instObj C dx)) (h' : g dx = some (nU ds n)) (nd : N) (r : R ds)
inductive CA (g : Addr → Option Obj) (lo hi : Int) (v : Value) : Prop
 | mk (a : Addr) (t u z : Tok) (e : v = .ref a) (h : g a = some { cls := .type "range", data := .fields #[.int lo t, .int hi u, .int 1 z] })
inductive t5 (A : Value → Prop) (B : List Value → Prop) (vs : List Value) : Prop
 | mk (v : Value) (r : List Value) (e : vs = v :: r) (h : A v) (k : B r)
inductive xz (n : Int → Prop) (A A' : Value → Prop) (B : List DictEntry → Prop) (ds : List DictEntry) : Prop
 | mk (d : DictEntry) (r : List DictEntry) (e : ds = d :: r) (hh : n d.hash) (h : A d.key) (h' : A' d.val) (k : B r)
inductive t6 (n : Int → Prop) (x : Str) (A : Value → Prop) (B : List DictEntry → Prop) (ds : List DictEntry) : Prop
 | mk (d : DictEntry) (r : List DictEntry) (t : Tok) (e : ds = d :: r) (hh : n d.hash) (hk : d.key = .str x t) (h : A d.val) (k : B r)
mutual
noncomputable def RV (W : Wd) (G : Gh) : PV → Value → Prop
 | .none, v => v = .none
 | .bool b, v => v = .bool b
 | .int i, v => ∃ t, v = .int i t
 | .str x, v => ∃ t, v = .str x t
 | .tup xs, v => vn G.g (j0 W G xs) v
 | .lst xs, v => Au G.g (j0 W G xs) v
 | .dct es, v => Av G.g (es.map ai).Nodup (oO W G es) v
 | .ins c fs, v => Aw G.g (W.mg c) (fs.map ai).Nodup (qi W G fs) v
 | .rng lo hi, v => CA G.g lo hi v
 | .ref a, v => v = .ref a
noncomputable def j0 (W : Wd) (G : Gh) : List PV → List Value → Prop
 | [], vs => vs = []
 | x :: xs, vs => t5 (RV W G x) (j0 W G xs) vs
noncomputable def oO (W : Wd) (G : Gh) : List (PV × PV) → List DictEntry → Prop
 | [], ds => ds = []
 | (k, x) :: xs, ds => xz (fun n => n = GY W k) (RV W G k) (RV W G x) (oO W G xs) ds
noncomputable def qi (W : Wd) (G : Gh) : List (Str × PV) → List DictEntry → Prop
 | [], ds => ds = []
 | (k, x) :: xs, ds => t6 (fun n => n = bE W.w.params k) k (RV W G x) (qi W G xs) ds
end
theorem Ey {W : Wd} {G : Gh} {i : Int} {t : Tok} : RV W G (.int i) (.int i t) := ⟨t, rfl⟩
theorem rvS {W : Wd} {G : Gh} {x : Str} {t : Tok} : RV W G (.str x) (.str x t) := ⟨t, rfl⟩
local macro_rules | `(tactic| wtm_at $s) => return zM (← Lean.getCurrMacroScope) s.getString
mutual
theorem RV.mono {W : Wd} {G G' : Gh} (hg : ∀ b o, G.g b = some o → G'.g b = some o) : ∀ {p : PV} {v : Value}, RV W G p v → RV W G' p v
 | .none, v, h => h
 | .bool _, v, h => h
 | .int _, v, h => h
 | .str _, v, h => h
 | .tup xs, v, h => by
  obtain ⟨a, vs, e, ⟨o, e1, e2⟩, r⟩ := h
  exact vn.mk a vs e ⟨o, hg _ _ e1, e2⟩ (j0.mono hg r)
 | .lst xs, v, h => by
  obtain ⟨a, vs, n', e, e1, r⟩ := h
  exact Au.mk a vs n' e (hg _ _ e1) (j0.mono hg r)
 | .dct xs, v, h => by
  obtain ⟨a, vs, n', e, e1, nd, r⟩ := h
  exact Av.mk a vs n' e (hg _ _ e1) nd (oO.mono hg r)
 | .ins c xs, v, h => by
  obtain ⟨a, C, dx, ds, n', e, e1, e2, e3, nd, r⟩ := h
  exact Aw.mk a C dx ds n' e e1 (hg _ _ e2) (hg _ _ e3) nd (qi.mono hg r)
 | .rng _ _, v, h => by
  obtain ⟨a, t, u, z, e, e1⟩ := h
  exact CA.mk a t u z e (hg _ _ e1)
 | .ref i, v, h => h
theorem j0.mono {W : Wd} {G G' : Gh} (hg : ∀ b o, G.g b = some o → G'.g b = some o) : ∀ {p : List PV} {v : List Value}, j0 W G p v → j0 W G' p v
 | [], v, h => h
 | x :: xs, v, h => by
  obtain ⟨a, r, e, h1, h2⟩ := h
  exact t5.mk a r e (RV.mono hg h1) (j0.mono hg h2)
theorem oO.mono {W : Wd} {G G' : Gh} (hg : ∀ b o, G.g b = some o → G'.g b = some o) : ∀ {p : List (PV × PV)} {v : List DictEntry}, oO W G p v → oO W G' p v
 | [], v, h => h
 | (k, x) :: xs, v, h => by
  obtain ⟨a, r, e, hh, h1, h2, h3⟩ := h
  exact xz.mk a r e hh (RV.mono hg h1) (RV.mono hg h2) (oO.mono hg h3)
theorem qi.mono {W : Wd} {G G' : Gh} (hg : ∀ b o, G.g b = some o → G'.g b = some o) : ∀ {p : List (Str × PV)} {v : List DictEntry}, qi W G p v → qi W G' p v
 | [], v, h => h
 | (k, x) :: xs, v, h => by
  obtain ⟨a, r, t, e, hh, h1, h2, h3⟩ := h
  exact t6.mk a r t e hh h1 (RV.mono hg h2) (qi.mono hg h3)
end
inductive Hi (h : Heap) (own : Option Addr) (a : Addr) (R : List Value → Prop) : Prop
 | mk (vs : List Value) (n : Nat) (e : h.get? a = some (lK vs n)) (o : own = some a) (r : R vs)
inductive Hj (h : Heap) (own : Option Addr) (a : Addr) (N : Prop) (R : List DictEntry → Prop) : Prop
 | mk (ds : List DictEntry) (n : Nat) (e : h.get? a = some (nU ds n)) (o : own = some a) (nd : N) (r : R ds)
inductive Hl (h : Heap) (own : Addr → Option Addr) (c : Option Value) (a : Addr) (N : Prop) (R : List DictEntry → Prop) : Prop
 | mk (C dx : Addr) (ds : List DictEntry) (n : Nat) (hc : c = some (.ref C)) (e : h.get? a = some (instObj C dx)) (e' : h.get? dx = some (nU ds n)) (o : own a = some a) (o' : own dx = some a) (nd : N) (r : R ds)
noncomputable def kH (W : Wd) (G : Gh) (h : Heap) (a : Addr) : HO → Prop
 | .lst xs => Hi h (G.own a) a (j0 W G xs)
 | .dct es => Hj h (G.own a) a (es.map ai).Nodup (oO W G es)
 | .ins c fs => Hl h G.own (W.mg c) a (fs.map ai).Nodup (qi W G fs)
noncomputable def ld (h : Heap) (b : Addr) : Prop := ∃ o, h.get? b = some o
theorem ki {h : Heap} {b : Addr} (hb : h.objs.size ≤ b) : ¬ ld h b := fun ⟨o, e⟩ => absurd (bq e) (dP.mpr hb)
structure HR (W : Wd) (G : Gh) (H : HH) (s : Shared) : Prop where
 bas : ∀ b o, W.B0.get? b = some o → G.g b = some o
 bown : ∀ b i, G.own b = some i → W.B0.get? b = none ∧ ld s.heap b
 imm : ∀ b o, G.g b = some o → s.heap.get? b = some o ∧ G.own b = none
 nodup : (H.map (·.1)).Nodup
 slot : ∀ a o, (a, o) ∈ H → kH W G s.heap a o
 os : s.os = W.os0
 gens : s.gens = #[]
theorem HR.base {W G H s} (x : HR W G H s) : ∀ b o, W.B0.get? b = some o → s.heap.get? b = some o := fun b o e => (x.imm b o (x.bas b o e)).1
structure kA (fa : List Addr) (G : Gh) (s : Shared) (G' : Gh) (s' : Shared) : Prop where
 gle : ∀ b o, G.g b = some o → G'.g b = some o
 own : ∀ b, ld s.heap b → G'.own b = G.own b ∨ G'.own b = none
 gnew : ∀ b, ld s.heap b → G.own b = none → G'.g b = G.g b
 keep : ∀ b o, s.heap.get? b = some o → G.own b = none → b ∉ fa → s'.heap.get? b = some o
 there : ∀ b, ld s.heap b → ld s'.heap b
theorem kA.refl {fa G s} : kA fa G s G s := ⟨fun _ _ e => e, fun _ _ => .inl rfl, fun _ _ _ => rfl, fun _ _ e _ _ => e, fun _ h => h⟩
theorem kA.trans {fa G s G1 s1 G2 s2} (x : kA fa G s G1 s1) (y : kA fa G1 s1 G2 s2) : kA fa G s G2 s2 where
 gle := fun b o e => y.gle b o (x.gle b o e)
 own := fun b hb => by
  rcases x.own b hb with h | h <;> rcases y.own b (x.there b hb) with h' | h' <;> first | exact .inr h' | (rw [h] at h'; first | exact .inl h' | exact .inr h')
 gnew := fun b hb ho => by
  refine (y.gnew b (x.there b hb) ?_).trans (x.gnew b hb ho)
  rcases x.own b hb with h | h
  ·rw [h, ho]
  ·exact h
 keep := fun b o e ho hf => by
  refine y.keep b o (x.keep b o e ho hf) ?_ hf
  rcases x.own b ⟨o, e⟩ with h | h
  ·rw [h, ho]
  ·exact h
 there := fun b h => y.there b (x.there b h)
theorem kA.weak {fa G s G' s'} (x : kA [] G s G' s') : kA fa G s G' s' := ⟨x.gle, x.own, x.gnew, fun b o e h _ => x.keep b o e h bw, x.there⟩
theorem kA.rv {W fa G s G' s' p v} (x : kA fa G s G' s') (h : RV W G p v) : RV W G' p v := h.mono x.gle
theorem kA.rvs {W fa G s G' s' p v} (x : kA fa G s G' s') (h : j0 W G p v) : j0 W G' p v := h.mono x.gle
theorem kH.mono {W G G' h h' a o} (x : kH W G h a o) (hg : ∀ b o, G.g b = some o → G'.g b = some o) (hk : ∀ b ob, G.own b = some a → h.get? b = some ob → h'.get? b = some ob) (ho : ∀ b, G.own b = some a → G'.own b = some a) : kH W G' h' a o := by
 cases o with
 | lst xs => obtain ⟨vs, n, h1, h2, r⟩ := x; exact ⟨vs, n, hk _ _ h2 h1, ho _ h2, j0.mono hg r⟩
 | dct xs => obtain ⟨vs, n, h1, h2, nd, r⟩ := x; exact ⟨vs, n, hk _ _ h2 h1, ho _ h2, nd, oO.mono hg r⟩
 | ins c xs => obtain ⟨C, dx, vs, n, h0, h1, h2, h3, h4, nd, r⟩ := x; exact ⟨C, dx, vs, n, h0, hk _ _ h3 h1, hk _ _ h4 h2, ho _ h3, ho _ h4, nd, qi.mono hg r⟩
theorem kH.has {W G h a o} (x : kH W G h a o) : ld h a := by
 cases o with
 | lst xs => obtain ⟨vs, n, h1, _⟩ := x; exact ⟨_, h1⟩
 | dct xs => obtain ⟨vs, n, h1, _⟩ := x; exact ⟨_, h1⟩
 | ins c xs => obtain ⟨C, dx, vs, n, h0, h1, _⟩ := x; exact ⟨_, h1⟩
theorem HR.kept {W G H s} (x : HR W G H s) {h' : Heap} {tk dr} (hk : ∀ b o, s.heap.get? b = some o → h'.get? b = some o) : HR W G H { s with heap := h', toks := tk, drawn := dr } where
 bas := x.bas
 bown := fun b i e => ⟨(x.bown b i e).1, let ⟨o, ho⟩ := (x.bown b i e).2; ⟨o, hk _ _ ho⟩⟩
 imm := fun b o e => ⟨hk _ _ (x.imm b o e).1, (x.imm b o e).2⟩
 nodup := x.nodup
 slot := fun a o hm => (x.slot a o hm).mono (fun _ _ e => e) (fun b ob _ e => hk b ob e) fun _ e => e
 os := x.os
 gens := x.gens
theorem kA.kept {fa G} {s : Shared} {h' : Heap} {tk dr} (hk : ∀ b o, s.heap.get? b = some o → h'.get? b = some o) : kA fa G s G { s with heap := h', toks := tk, drawn := dr } :=
 ⟨fun _ _ e => e, fun _ _ => .inl rfl, fun _ _ _ => rfl, fun b o e _ _ => hk b o e, fun b ⟨o, e⟩ => ⟨o, hk b o e⟩⟩
noncomputable def Gh.addG (G : Gh) (a : Addr) (o : Obj) : Gh := ⟨fun b => if b = a then some o else G.g b, G.own⟩
noncomputable def Gh.addO (G : Gh) (a : Addr) (i : Addr) : Gh := ⟨G.g, fun b => if b = a then some i else G.own b⟩
theorem HR.noG {W G H s} (x : HR W G H s) {b : Addr} (hb : ¬ ld s.heap b) : G.g b = none := by
 cases h : G.g b with
 | none => rfl
 | some o => exact absurd ⟨o, (x.imm b o h).1⟩ hb
theorem HR.noOwn {W G H s} (x : HR W G H s) {b : Addr} (hb : ¬ ld s.heap b) : G.own b = none := by
 cases h : G.own b with
 | none => rfl
 | some o => exact absurd (x.bown b o h).2 hb
theorem HR.noB {W G H s} (x : HR W G H s) {b : Addr} (hb : ¬ ld s.heap b) : W.B0.get? b = none := by
 cases h : W.B0.get? b with
 | none => rfl
 | some o => exact absurd ⟨o, x.base b o h⟩ hb
theorem jw {h : Heap} (o : Obj) : ∀ b x, h.get? b = some x → (h.push o).get? b = some x := fun _ _ e => be o e
theorem qj {h : Heap} {o : Obj} {b : Addr} (x : ld h b) : ld (h.push o) b := let ⟨y, e⟩ := x; ⟨y, jw _ _ _ e⟩
theorem HR.addG {W G H} {s : Shared} {h' : Heap} {a : Addr} {o : Obj} {tk : Nat} (x : HR W G H s) (hn : ¬ ld s.heap a) (hk : ∀ b o, s.heap.get? b = some o → h'.get? b = some o) (ha : h'.get? a = some o) :
  HR W (G.addG a o) H { s with heap := h', toks := tk } ∧ kA [] G s (G.addG a o) { s with heap := h', toks := tk } := by
 have hng := x.noG hn
 have hle : ∀ b ob, G.g b = some ob → (G.addG a o).g b = some ob := fun b ob e => by
  show (if b = _ then _ else _) = _
  rw [if_neg (fun q => by rw [q, hng] at e; cases e)]; exact e
 refine ⟨⟨fun b ob e => hle _ _ (x.bas b ob e), fun b i e => ⟨(x.bown b i e).1, let ⟨y, q⟩ := (x.bown b i e).2; ⟨y, hk _ _ q⟩⟩, fun b ob e => ?_, x.nodup, fun c ob hm => (x.slot c ob hm).mono hle (fun b ob _ e => hk _ _ e) (fun _ e => e), x.os, x.gens⟩, ⟨hle, fun _ _ => .inl rfl, fun b hb _ => ?_, fun b ob e _ _ => hk _ _ e, fun b ⟨y, q⟩ => ⟨y, hk _ _ q⟩⟩⟩
 ·have e' : (if b = a then some o else G.g b) = some ob := e
  by_cases hb : b = a
  ·rw [if_pos hb] at e'; cases e'; subst hb
   exact ⟨ha, x.noOwn hn⟩
  ·rw [if_neg hb] at e'
   exact ⟨hk _ _ (x.imm b ob e').1, (x.imm b ob e').2⟩
 ·show (if b = _ then _ else _) = _
  rw [if_neg (fun q => hn (by rw [← q]; exact hb))]
theorem HR.allocG {W G H} {s : Shared} (x : HR W G H s) (o : Obj) (hf : o.isFreed = false) {tk : Nat} : HR W (G.addG s.heap.objs.size o) H { s with heap := s.heap.push o, toks := tk } ∧ kA [] G s (G.addG s.heap.objs.size o) { s with heap := s.heap.push o, toks := tk } :=
 x.addG (ki (aU _)) (jw o) (aW _ hf)
theorem HR.allocO {W G H} {s : Shared} (x : HR W G H s) (o : Obj) (ho : HO) {tk : Nat} (hsl : kH W (G.addO s.heap.objs.size s.heap.objs.size) (s.heap.push o) s.heap.objs.size ho) :
  HR W (G.addO s.heap.objs.size s.heap.objs.size) ((s.heap.objs.size, ho) :: H) { s with heap := s.heap.push o, toks := tk } ∧ kA [] G s (G.addO s.heap.objs.size s.heap.objs.size) { s with heap := s.heap.push o, toks := tk } := by
 have hnh : ¬ ld s.heap s.heap.objs.size := ki (aU _)
 have hn := x.noG hnh
 have hno : ∀ a o', (a, o') ∈ H → ∀ b, G.own b = some a → b ≠ s.heap.objs.size := fun a o' hm b e q => hnh (q ▸ (x.bown b a e).2)
 refine ⟨⟨x.bas, fun b i e => ?_, fun b ob e => ⟨jw _ _ _ (x.imm b ob e).1, ?_⟩, ?_, fun a ob hm => ?_, x.os, x.gens⟩, ⟨fun _ _ e => e, fun b hb => .inl ?_, fun _ _ _ => rfl, fun b ob e _ _ => jw _ _ _ e, fun b hb => qj hb⟩⟩
 ·have e' : (if b = s.heap.objs.size then some s.heap.objs.size else G.own b) = some i := e
  by_cases hb : b = s.heap.objs.size
  ·rw [hb]; exact ⟨x.noB hnh, hsl.has⟩
  ·rw [if_neg hb] at e'; exact ⟨(x.bown b i e').1, qj (x.bown b i e').2⟩
 ·have e' : G.g b = some ob := e
  show (if b = _ then _ else _) = _
  rw [if_neg (fun q => by rw [q, hn] at e'; cases e')]; exact (x.imm b ob e').2
 ·rw [aC, aY]
  refine ⟨fun hm => ?_, x.nodup⟩
  obtain ⟨⟨a, o'⟩, hp, hq⟩ := az.mp hm
  have hq' : a = s.heap.objs.size := hq
  exact hnh (hq' ▸ (x.slot a o' hp).has)
 ·rcases au.mp hm with e | hm
  ·cases e; exact hsl
  ·exact (x.slot a ob hm).mono (fun _ _ e => e) (fun b ob _ e => jw _ _ _ e) fun b e => by
    show (if b = _ then _ else _) = _
    rw [if_neg (hno a ob hm b e)]; exact e
 ·show (if b = _ then _ else _) = _
  rw [if_neg (fun q => hnh (by rw [← q]; exact hb))]
noncomputable def jC (b : Bool) (P P' : Prop) : Prop := (b = true → P) ∧ (b = false → P')
theorem jC.tt {P P' : Prop} (h : P) : jC true P P' := ⟨fun _ => h, fun e => by cases e⟩
theorem jC.ff {P P' : Prop} (h : P') : jC false P P' := ⟨fun e => by (cases e), fun _ => h⟩
theorem jC.dec {c : Prop} [Decidable c] {P P' : Prop} (h : c → P) (h' : ¬ c → P') : jC (decide c) P P' := ⟨fun e => h (of_decide_eq_true e), fun e => h' (of_decide_eq_false e)⟩
theorem jC.by {b : Bool} {P P' : Prop} (h : b = true → P) (h' : b = false → P') : jC b P P' := ⟨h, h'⟩
inductive Bd where
 | loc (c : Bool) (v : Option PV) | fre (v : PV) | glb
noncomputable abbrev jt := List (Str × Bd)
noncomputable abbrev CR := jt → HH → Prop
inductive FI (W : Wd) (G : Gh) (o : Option Value) (v : PV) : Prop
 | mk (cv : Value) (e : o = some cv) (r : RV W G v cv)
inductive NsP (W : Wd) (env : Env) (r : jt) (G : Gh) (h : Heap) : Prop
 | mk (m : Str → Option Value) (ns : h.Ns env.locals m) (v : ∀ x c v, (x, Bd.loc c (some v)) ∈ r → env.kindOf x = some .local → FI W G (m x) v)
inductive Hm (W : Wd) (env : Env) (fa : List Addr) (G : Gh) (h : Heap) (x : Str) (b : Bool) (ov : Option PV) : Prop
 | mk (hb : b = true) (hk : env.kindOf x = some .cell) (c : Addr) (u : Option Value) (h1 : env.cells.lookup x = some c) (h2 : h.IsCell c u) (h6 : c ∈ fa) (h7 : ∀ v, ov = some v → FI W G u v)
inductive Hn (W : Wd) (env : Env) (fa : List Addr) (G : Gh) (h : Heap) (x : Str) (v : PV) : Prop
 | mk (hk : env.kindOf x = some .cell) (c : Addr) (cv : Value) (h1 : env.cells.lookup x = some c) (h2 : h.IsCell c (some cv)) (h3 : G.own c = none) (h4 : G.g c = none) (h5 : W.B0.get? c = none) (h6 : c ∉ fa) (h7 : RV W G v cv)
structure FR (W : Wd) (env : Env) (fa : List Addr) (r : jt) (G : Gh) (h : Heap) : Prop where
 kind : env.scope.kind = .function
 glo : env.globals = mainGlobals
 blt : env.builtins = builtinsNs
 nodup : (r.map (·.1)).Nodup
 ns : NsP W env r G h
 glb : ∀ x, (x, Bd.glb) ∈ r → env.kindOf x = some .globalImplicit
 loc : ∀ x b ov, (x, Bd.loc b ov) ∈ r → (b = false ∧ env.kindOf x = some .local) ∨ Hm W env fa G h x b ov
 fre : ∀ x v, (x, Bd.fre v) ∈ r → Hn W env fa G h x v
 locf : env.locals ∈ fa
 ownf : ∀ a ∈ fa, G.own a = none ∧ G.g a = none ∧ W.B0.get? a = none ∧ ld h a
 apart : ∀ x y c, env.cells.lookup x = some c → env.cells.lookup y = some c → x = y
theorem FR.ext {W env fa r G G'} {s s' : Shared} (x : FR W env fa r G s.heap) (e : kA [] G s G' s') : FR W env fa r G' s'.heap where
 kind := x.kind
 glo := x.glo
 blt := x.blt
 nodup := x.nodup
 ns := by
  obtain ⟨m, hn, hm⟩ := x.ns
  obtain ⟨h1, h2, h3, h4⟩ := x.ownf _ x.locf
  obtain ⟨o, es, ep, ho, rr⟩ := hn
  refine ⟨m, ⟨o, es, ep, e.keep _ _ ho h1 bw, rr⟩, fun y c v hy hk => ?_⟩
  obtain ⟨cv, a, b⟩ := hm y c v hy hk
  exact ⟨cv, a, e.rv b⟩
 glb := x.glb
 loc := fun y bb ov hy => by
  rcases x.loc y bb ov hy with h | ⟨hb, hk, c, u, h1, h2, h6, h7⟩
  ·exact .inl h
  ·obtain ⟨o, ho, hd⟩ := h2
   obtain ⟨h3, _, _, _⟩ := x.ownf c h6
   refine .inr ⟨hb, hk, c, u, h1, ⟨o, e.keep _ _ ho h3 bw, hd⟩, h6, fun v hv => ?_⟩
   obtain ⟨cv, a, b⟩ := h7 v hv
   exact ⟨cv, a, e.rv b⟩
 fre := fun y v hy => by
  obtain ⟨hk, c, cv, h1, h2, h3, h4, h5, h6, h7⟩ := x.fre y v hy
  obtain ⟨o, ho, hd⟩ := h2
  have hlt : ld s.heap c := ⟨o, ho⟩
  refine ⟨hk, c, cv, h1, ⟨o, e.keep _ _ ho h3 bw, hd⟩, ?_, by rw [e.gnew c hlt h3, h4], h5, h6, e.rv h7⟩
  rcases e.own c hlt with q | q
  ·rw [q, h3]
  ·exact q
 locf := x.locf
 ownf := fun a ha => by
  obtain ⟨h1, h2, h3, h4⟩ := x.ownf a ha
  refine ⟨?_, ?_, h3, e.there a h4⟩
  ·rcases e.own a h4 with q | q
   ·rw [q, h1]
   ·exact q
  ·rw [e.gnew a h4 h1, h2]
 apart := x.apart
structure lg (A : Around) (n : Nat) : Prop where
 hd : A.handled = none
 depth : A.depth + 2 * n < 900
 units : A.units + 10 * n + 200 < 9900
theorem lg.dlt {A n} (x : lg A n) : A.depth < recursionLimit := by have := x.depth; show _ < 1000; exact J10 19 this
theorem lg.ult {A n} (x : lg A n) : A.units < cLine := by have := x.units; show _ < 9900; exact J10 20 this
theorem lg.ult64 {A n} (x : lg A n) : A.units + 64 < cLine := by have := x.units; show _ < 9900; exact J10 21 this
noncomputable abbrev mO : Value → Shared → Prop := fun _ _ => False
inductive Fin (W : Wd) (Q : CV) (G : Gh) (s : Shared) (v : Value) (s' : Shared) : Prop
 | mk (G' : Gh) (p : PV) (H' : HH) (e : kA [] G s G' s') (hr : HR W G' H' s') (hv : RV W G' p v) (q : Q p H')
theorem Fin.trans {W Q G s G1 s1 v s'} (e : kA [] G s G1 s1) (x : Fin W Q G1 s1 v s') : Fin W Q G s v s' := by
 obtain ⟨G', p, H', e', r, v, q⟩ := x; exact ⟨G', p, H', e.trans e', r, v, q⟩
noncomputable def Ev (W : Wd) (n : Nat) (r : jt) (H : HH) (e : Expr) (Q : CV) : Prop :=
 ∀ A env fa G s, lg A n → HR W G H s → FR W env fa r G s.heap → wpAny (model W.prog W.w) A (eval e env) (Fin W Q G s) mO s
inductive uy (W : Wd) (Q : CB) (G : Gh) (s : Shared) (b : Bool) (s' : Shared) : Prop
 | mk (G' : Gh) (H' : HH) (e : kA [] G s G' s') (hr : HR W G' H' s') (q : Q b H')
theorem uy.trans {W Q G s G1 s1 v s'} (e : kA [] G s G1 s1) (x : uy W Q G1 s1 v s') : uy W Q G s v s' := by
 obtain ⟨G', H', e', r, q⟩ := x; exact ⟨G', H', e.trans e', r, q⟩
noncomputable def Tv (W : Wd) (n : Nat) (r : jt) (H : HH) (e : Expr) (Q : CB) : Prop :=
 ∀ A env fa G s, lg A n → HR W G H s → FR W env fa r G s.heap → wpAny (model W.prog W.w) A (isTrue e env (eval e env)) (uy W Q G s) mO s
noncomputable def FJ (W : Wd) (n : Nat) (H : HH) (f : Value → Sem Value) (p : PV) (Q : CV) : Prop :=
 ∀ A G s v, lg A n → HR W G H s → RV W G p v → wpAny (model W.prog W.w) A (f v) (Fin W Q G s) mO s
noncomputable def lC (W : Wd) (n : Nat) (H : HH) (f : Value → Value → Sem Value) (p q : PV) (Q : CV) : Prop :=
 ∀ A G s u v, lg A n → HR W G H s → RV W G p u → RV W G q v → wpAny (model W.prog W.w) A (f u v) (Fin W Q G s) mO s
noncomputable def mP (W : Wd) (n : Nat) (H : HH) (f : List Value → Sem Value) (ps : List PV) (Q : CV) : Prop :=
 ∀ A G s vs, lg A n → HR W G H s → j0 W G ps vs → wpAny (model W.prog W.w) A (f vs) (Fin W Q G s) mO s
noncomputable def Ak (W : Wd) (n : Nat) (H : HH) (p : PV) (Q : CB) : Prop :=
 ∀ A G s v, lg A n → HR W G H s → RV W G p v → wpAny (model W.prog W.w) A (truthy v) (uy W Q G s) mO s
section
variable {W : Wd} {n : Nat} {r : jt} {H : HH} {Q : CV}
theorem Ev.mono {e} {Q' : CV} (h : Ev W n r H e Q) (hq : ∀ p H', Q p H' → Q' p H') : Ev W n r H e Q' := fun A env fa G s R x f =>
 ay (h A env fa G s R x f) (fun v s' ⟨G', p, H', e, h1, h2, h3⟩ => ⟨G', p, H', e, h1, h2, hq _ _ h3⟩) fun _ _ x => x
theorem ss {G s v} {p : PV} (x : HR W G H s) (hv : RV W G p v) (hq : Q p H) : Fin W Q G s v s := ⟨G, p, H, kA.refl, x, hv, hq⟩
theorem og {G} {s : Shared} {v} {p : PV} {tk} (x : HR W G H s) (hv : RV W G p v) (hq : Q p H) : Fin W Q G s v { s with toks := tk } :=
 ⟨G, p, H, kA.kept (fun _ _ e => e), x.kept (fun _ _ e => e), hv, hq⟩
theorem FK {G} {s : Shared} {v} {p : PV} {tk} {h' : Heap} (x : HR W G H s) (hk : ∀ b o, s.heap.get? b = some o → h'.get? b = some o) (hv : RV W G p v) (hq : Q p H) : Fin W Q G s v { s with heap := h', toks := tk } :=
 ⟨G, p, H, kA.kept hk, x.kept hk, hv, hq⟩
theorem Ax {i k pos} (h : Q (.int i) H) : Ev W n r H (.Constant (.int i) k pos) Q := fun _ _ _ _ _ _ x _ => wpAny_Constant_int (og x (by wtm_at "rv") h)
theorem xA {k pos} (h : Q .none H) : Ev W n r H (.Constant .none k pos) Q := fun _ _ _ _ _ _ x _ => aB (ss x (by wtm_at "rv") h)
theorem xB {b k pos} (h : Q (.bool b) H) : Ev W n r H (.Constant (.bool b) k pos) Q := fun _ _ _ _ _ _ x _ => aB (ss x (by wtm_at "rv") h)
theorem Ay {b k pos} (h : Q (.str b) H) : Ev W n r H (.Constant (.str b) k pos) Q := fun _ _ _ _ _ _ x _ => by
 show wpAny _ _ (mkText b) _ _ _
 exact wpAny_mkText (og x (by wtm_at "rv") h)
theorem vq {A env fa G s x c v} {Q : Value → Shared → Prop} (f : FR W env fa r G s.heap) (hm : (x, Bd.loc c (some v)) ∈ r) (h : ∀ cv, RV W G v cv → Q cv s) :
  wpAny (model W.prog W.w) A (loadName env x) Q mO s := by
 rcases f.loc x _ _ hm with ⟨_, hl⟩ | ⟨_, hk, c, u, h1, h2, _, h7⟩
 ·obtain ⟨m, hns, hv⟩ := f.ns
  obtain ⟨cv, e, hr⟩ := hv x _ v hm hl
  exact wpAny_loadName_local f.kind hl hns e (h cv hr)
 ·obtain ⟨cv, e, hr⟩ := h7 v rfl
  subst e
  exact gU f.kind hk h1 h2 (h cv hr)
theorem Az {x pos c} {v : PV} (hm : (x, Bd.loc c (some v)) ∈ r) (h : Q v H) (hd : autoParam ((x == ("__debug__" : Str)) = false) aD) : Ev W n r H (.Name x pos) Q := fun _ _ _ _ _ _ hr f =>
 wpAny_Name (vq f hm (fun _ hv => ss hr hv h)) hd
theorem AA {x pos} {v : PV} (hm : (x, Bd.fre v) ∈ r) (h : Q v H) (hd : autoParam ((x == ("__debug__" : Str)) = false) aD) (hn : autoParam ((x == ("__classdict__" : Str)) = false) aD) : Ev W n r H (.Name x pos) Q := fun _ _ _ _ _ _ hr f => by
 obtain ⟨hk, c, cv, h1, h2, _, _, _, _, h7⟩ := f.fre x v hm
 exact wpAny_Name (gU f.kind hk h1 h2 (ss hr h7 h)) hd
theorem pz {A env fa G s x v} {Q : Value → Shared → Prop} (hr : HR W G H s) (f : FR W env fa r G s.heap) (hm : (x, Bd.glb) ∈ r) (hv : W.mg x = some v) (h : Q v s) (pos : Pos)
  (hd : autoParam ((x == ("__debug__" : Str)) = false) aD) : wpAny (model W.prog W.w) A (eval (.Name x pos) env) Q mO s :=
 gE f.kind (f.glb x hm) (loadGlobal_global (env := env) (by rw [f.glo]; exact W.hg.keeps hr.base) hv h) hd
theorem pV {A env fa G s x v} {Q : Value → Shared → Prop} (hr : HR W G H s) (f : FR W env fa r G s.heap) (hm : (x, Bd.glb) ∈ r) (hv : W.mg x = none) (hb : bootBuiltins x = some v) (h : Q v s) (pos : Pos) (hne : x ≠ "__name__")
  (hd : autoParam ((x == ("__debug__" : Str)) = false) aD) : wpAny (model W.prog W.w) A (eval (.Name x pos) env) Q mO s :=
 gE f.kind (f.glb x hm) (loadGlobal_builtin (env := env) (by rw [f.glo]; exact W.hg.keeps hr.base) hv (by rw [f.blt]; exact W.hb.keeps hr.base) ((W.bb x hne).trans hb) h) hd
theorem xC {x pos} {v : PV} (hm : (x, Bd.glb) ∈ r) (hv : ∃ cv, W.mg x = some cv ∧ ∀ G s, HR W G H s → RV W G v cv) (h : Q v H) (hd : autoParam ((x == ("__debug__" : Str)) = false) aD) : Ev W n r H (.Name x pos) Q := fun _ _ _ G s _ hr f => by
 obtain ⟨cv, h1, h2⟩ := hv
 exact pz hr f hm h1 (ss hr (h2 G s hr) h) pos hd
noncomputable abbrev kO2 (W : Wd) (n : Nat) (f : Value → Value → Sem Value) (a : PV) (Q : CV) : CV := fun b H => lC W n H f a b Q
noncomputable abbrev Ho (W : Wd) (n : Nat) (r : jt) (e : Expr) (f : Value → Value → Sem Value) (Q : CV) : CV := fun a H => Ev W n r H e (kO2 W n f a Q)
noncomputable abbrev Hp (W : Wd) (n : Nat) (Q : CB) : CV := fun c H => Ak W n H c Q
noncomputable abbrev FL (W : Wd) (n : Nat) (r : jt) (rest : List Expr) (pos : Pos) (Q : CB) : CB := fun b H => jC b (Tv W n r H (.BoolOp .And rest pos) Q) (Q false H)
noncomputable abbrev Hq (W : Wd) (n : Nat) (r : jt) (rest : List Expr) (pos : Pos) (Q : CB) : CB := fun b H => jC b (Q true H) (Tv W n r H (.BoolOp .Or rest pos) Q)
noncomputable abbrev FM (Q : CB) : CB := fun b H => Q (!b) H
noncomputable abbrev Hr (W : Wd) (n : Nat) (r : jt) (a b : Expr) (Q : CV) : CB := fun c H => jC c (Ev W n r H a Q) (Ev W n r H b Q)
noncomputable abbrev kO1 (W : Wd) (n : Nat) (f : Value → Sem Value) (Q : CV) : CV := fun a H => FJ W n H f a Q
theorem kP {l op e pos} (h : Ev W n r H l (Ho W n r e (binaryOp op) Q)) : Ev W n r H (.BinOp l op e pos) Q := fun A env fa G s R hr f => by
 refine wpAny_BinOp (ay (h A env fa G s R hr f) (fun va s1 h1 => ?_) fun _ _ x => x)
 obtain ⟨G1, a, H1, e1, r1, v1, q1⟩ := h1
 refine ay (q1 A env fa G1 s1 R r1 (f.ext e1)) (fun vb s2 h2 => ?_) fun _ _ x => x
 obtain ⟨G2, b, H2, e2, r2, v2, q2⟩ := h2
 exact ay (q2 A G2 s2 va vb R r2 (e2.rv v1) v2) (fun v s3 h3 => (h3.trans e2).trans e1) fun _ _ x => x
theorem m7 {l op e pos} (h : Ev W n r H l (Ho W n r e (compareOp op) Q)) (hm : autoParam (behindInMarks op e = false) aR) : Ev W n r H (.Compare l [op] [e] pos) Q := fun A env fa G s R hr f => by
 refine wpAny_Compare1 (ay (h A env fa G s R hr f) (fun va s1 h1 => ?_) fun _ _ x => x) hm
 obtain ⟨G1, a, H1, e1, r1, v1, q1⟩ := h1
 refine ay (q1 A env fa G1 s1 R r1 (f.ext e1)) (fun vb s2 h2 => ?_) fun _ _ x => x
 obtain ⟨G2, b, H2, e2, r2, v2, q2⟩ := h2
 exact ay (q2 A G2 s2 va vb R r2 (e2.rv v1) v2) (fun v s3 h3 => (h3.trans e2).trans e1) fun _ _ x => x
theorem jU {l op e pos} {Q : CB} (h : Ev W n r H l (Ho W n r e (compareOp op) (Hp W n Q))) (hm : autoParam (behindInMarks op e = false) aR) : Tv W n r H (.Compare l [op] [e] pos) Q := fun A env fa G s R hr f => by
 refine wpAny_isTrue_Compare1 (ay (h A env fa G s R hr f) (fun va s1 h1 => ?_) fun _ _ x => x) hm
 obtain ⟨G1, a, H1, e1, r1, v1, q1⟩ := h1
 refine ay (q1 A env fa G1 s1 R r1 (f.ext e1)) (fun vb s2 h2 => ?_) fun _ _ x => x
 obtain ⟨G2, b, H2, e2, r2, v2, q2⟩ := h2
 refine ay (q2 A G2 s2 va vb R r2 (e2.rv v1) v2) (fun v s3 h3 => ?_) fun _ _ x => x
 obtain ⟨G3, c, H3, e3, r3, v3, q3⟩ := h3
 exact ay (q3 A G3 s3 v R r3 v3) (fun v s4 h4 => ((h4.trans e3).trans e2).trans e1) fun _ _ x => x
theorem vr {b} {Q : CB} (h : Q b H) : Ak W n H (.bool b) Q := fun A G s v R hr hv => by
 have : v = .bool b := by exact hv
 subst this
 exact cR ⟨G, H, kA.refl, hr, h⟩
theorem DU {e} {Q : CB} (he : ∀ env whole, isTrue e env whole = (do let v ← whole; standAt e.pos; holding [v] (truthy v))) (h : Ev W n r H e fun a H1 => Ak W n H1 a Q) : Tv W n r H e Q := fun A env fa G s R hr f => by
 rw [he]
 refine aj (ay (h A env fa G s R hr f) (fun va s1 h1 => ?_) fun _ _ x => x)
 obtain ⟨G1, a, H1, e1, r1, v1, q1⟩ := h1
 exact aj (cJ (bv (ay (q1 A G1 s1 va R r1 v1) (fun v s4 h4 => h4.trans e1) fun _ _ x => x)))
theorem oh {f a k pos} {Q : CB} (h : Ev W n r H (.Call f a k pos) (Hp W n Q)) : Tv W n r H (.Call f a k pos) Q := DU (fun _ _ => rfl) h
theorem xE {x pos} {Q : CB} (h : Ev W n r H (.Name x pos) (Hp W n Q)) : Tv W n r H (.Name x pos) Q := DU (fun _ _ => rfl) h
theorem oT {e pos} {Q : CB} (h : Tv W n r H e (FM Q)) : Tv W n r H (.UnaryOp .Not e pos) Q := fun A env fa G s R hr f => by
 show wpAny _ _ (do return !(← isTrue e env (eval e env))) _ _ _
 exact aj (ay (h A env fa G s R hr f) (fun b s1 h1 => aB (by obtain ⟨G1, H1, e1, r1, q⟩ := h1; exact ⟨G1, H1, e1, r1, q⟩)) fun _ _ x => x)
theorem nJ {x rest pos} {Q : CB} (h : Tv W n r H x (FL W n r rest pos Q)) : Tv W n r H (.BoolOp .And (x :: rest) pos) Q := fun A env fa G s R hr f => by
 show wpAny _ _ (allTrue .And (x :: rest) env) _ _ _
 refine aj (ay (h A env fa G s R hr f) (fun b s1 h1 => ?_) fun _ _ x => x)
 obtain ⟨G1, H1, e1, r1, q1⟩ := h1
 cases b with
 | false => exact aB ⟨G1, H1, e1, r1, q1.2 rfl⟩
 | true => exact ay (q1.1 rfl A env fa G1 s1 R r1 (f.ext e1)) (fun v s4 h4 => h4.trans e1) fun _ _ x => x
theorem uz {pos} {Q : CB} (h : Q true H) : Tv W n r H (.BoolOp .And [] pos) Q := fun A env fa G s R hr f => by
 show wpAny _ _ (allTrue .And [] env) _ _ _
 exact aB ⟨G, H, kA.refl, hr, h⟩
theorem rx {x rest pos} {Q : CB} (h : Tv W n r H x (Hq W n r rest pos Q)) : Tv W n r H (.BoolOp .Or (x :: rest) pos) Q := fun A env fa G s R hr f => by
 show wpAny _ _ (allTrue .Or (x :: rest) env) _ _ _
 refine aj (ay (h A env fa G s R hr f) (fun b s1 h1 => ?_) fun _ _ x => x)
 obtain ⟨G1, H1, e1, r1, q1⟩ := h1
 cases b with
 | true => exact aB ⟨G1, H1, e1, r1, q1.1 rfl⟩
 | false => exact ay (q1.2 rfl A env fa G1 s1 R r1 (f.ext e1)) (fun v s4 h4 => h4.trans e1) fun _ _ x => x
theorem AB {pos} {Q : CB} (h : Q false H) : Tv W n r H (.BoolOp .Or [] pos) Q := fun A env fa G s R hr f => by
 show wpAny _ _ (allTrue .Or [] env) _ _ _
 exact aB ⟨G, H, kA.refl, hr, h⟩
theorem qk {t a b pos} (h : Tv W n r H t (Hr W n r a b Q)) : Ev W n r H (.IfExp t a b pos) Q := fun A env fa G s R hr f => by
 show wpAny _ _ (do if ← isTrue t env (eval t env) then eval a env else eval b env) _ _ _
 refine aj (ay (h A env fa G s R hr f) (fun c s1 h1 => ?_) fun _ _ x => x)
 obtain ⟨G1, H1, e1, r1, q1⟩ := h1
 cases c with
 | true => exact ay (q1.1 rfl A env fa G1 s1 R r1 (f.ext e1)) (fun v s4 h4 => h4.trans e1) fun _ _ x => x
 | false => exact ay (q1.2 rfl A env fa G1 s1 R r1 (f.ext e1)) (fun v s4 h4 => h4.trans e1) fun _ _ x => x
theorem vt {op e pos} (h : Ev W n r H e (kO1 W n (unaryOp op) Q)) : Ev W n r H (.UnaryOp op e pos) Q := fun A env fa G s R hr f => by
 show wpAny _ _ (do let v ← eval e env; standAt pos; holding [v] (unaryOp op v)) _ _ _
 refine aj (ay (h A env fa G s R hr f) (fun va s1 h1 => ?_) fun _ _ x => x)
 obtain ⟨G1, a, H1, e1, r1, v1, q1⟩ := h1
 exact aj (cJ (bv (ay (q1 A G1 s1 va R r1 v1) (fun v s4 h4 => h4.trans e1) fun _ _ x => x)))
end
inductive Fl where
 | next | brk | cont | ret (p : PV)
noncomputable def FlV (W : Wd) (G : Gh) : Fl → Flow → Prop
 | .next, f => f = .next
 | .brk, f => f = .brk
 | .cont, f => f = .cont
 | .ret p, f => ∃ v, f = .ret v ∧ RV W G p v
noncomputable abbrev jJ := Fl → CR
inductive yJ (W : Wd) (env : Env) (fa : List Addr) (Q : jJ) (G : Gh) (s : Shared) (f : Flow) (s' : Shared) : Prop
 | mk (G' : Gh) (fl : Fl) (r' : jt) (H' : HH) (e : kA fa G s G' s') (hr : HR W G' H' s') (fr : FR W env fa r' G' s'.heap) (fv : FlV W G' fl f) (q : Q fl r' H')
theorem yJ.trans {W env fa Q G s G1 s1 v s'} (e : kA fa G s G1 s1) (x : yJ W env fa Q G1 s1 v s') : yJ W env fa Q G s v s' := by
 obtain ⟨G', fl, r', H', e', a, b, c, q⟩ := x; exact ⟨G', fl, r', H', e.trans e', a, b, c, q⟩
noncomputable def Ex (W : Wd) (n : Nat) (r : jt) (H : HH) (c : Stmt) (Q : jJ) : Prop :=
 ∀ A env fa G s, lg A n → HR W G H s → FR W env fa r G s.heap → wpAny (model W.prog W.w) A (exec c env) (yJ W env fa Q G s) mO s
noncomputable def lm (W : Wd) (n : Nat) (r : jt) (H : HH) (c : List Stmt) (Q : jJ) : Prop :=
 ∀ A env fa G s, lg A n → HR W G H s → FR W env fa r G s.heap → wpAny (model W.prog W.w) A (execs c env) (yJ W env fa Q G s) mO s
theorem mu {a : Addr} {h h' : Heap} (hs : dX a h h') (ha : ld h' a) {b : Addr} (hb : ld h b) : ld h' b := by
 by_cases e : b = a
 ·exact e ▸ ha
 ·obtain ⟨o, ho⟩ := hb; exact ⟨o, (hs.2 b e).trans ho⟩
theorem HR.frame {W G H} {s : Shared} (x : HR W G H s) {a : Addr} {h' : Heap} {tk : Nat} (h1 : G.own a = none) (h2 : G.g a = none) (h3 : W.B0.get? a = none) (hs : dX a s.heap h') (ha : ld h' a) :
  HR W G H { s with heap := h', toks := tk } where
 bas := x.bas
 bown := fun b i e => ⟨(x.bown b i e).1, mu hs ha (x.bown b i e).2⟩
 imm := fun b o e => ⟨(hs.2 b (fun q => by rw [q, h2] at e; cases e)).trans (x.imm b o e).1, (x.imm b o e).2⟩
 nodup := x.nodup
 slot := fun b o hm => (x.slot b o hm).mono (fun _ _ e => e) (fun c ob ho e => (hs.2 c (fun q => by rw [q, h1] at ho; cases ho)).trans e) fun _ e => e
 os := x.os
 gens := x.gens
theorem kA.frame {fa G} {s : Shared} {a : Addr} {h' : Heap} {tk : Nat} (ha : a ∈ fa) (hs : dX a s.heap h') (hh : ld h' a) : kA fa G s G { s with heap := h', toks := tk } :=
 ⟨fun _ _ e => e, fun _ _ => .inl rfl, fun _ _ _ => rfl, fun b o e _ hf => (hs.2 b fun q => hf (q ▸ ha)).trans e, fun b hb => mu hs hh hb⟩
inductive lp (x : Str) (v : PV) : jt → jt → Prop
 | head {c o r} : lp x v ((x, .loc c o) :: r) ((x, .loc c (some v)) :: r)
 | tail {p r r'} : lp x v r r' → lp x v (p :: r) (p :: r')
theorem lp.keys {x v r r'} (h : lp x v r r') : r'.map (·.1) = r.map (·.1) := by
 induction h with
 | head => rfl
 | tail _ ih => simp only [aC, ih]
theorem lp.there {x v r r'} (h : lp x v r r') : ∃ c o, (x, Bd.loc c o) ∈ r ∧ (x, Bd.loc c (some v)) ∈ r' := by
 induction h with
 | head => exact ⟨_, _, .head _, .head _⟩
 | tail _ ih => obtain ⟨c, o, h, h'⟩ := ih; exact ⟨c, o, .tail _ h, .tail _ h'⟩
inductive CC (x : Str) (v : PV) (r : jt) (y : Str) (b : Bd) : Prop
 | hit (e : y = x) (c : Bool) (o : Option PV) (e' : b = .loc c (some v)) (ez : (x, Bd.loc c o) ∈ r)
 | miss (e : y ≠ x) (h : (y, b) ∈ r)
theorem CC.tl {x v r y b p} (h : CC x v r y b) : CC x v (p :: r) y b := by
 cases h with
 | hit e c o e' ez => exact .hit e c o e' (.tail _ ez)
 | miss e h => exact .miss e (.tail _ h)
theorem lp.mem {x v r r'} (h : lp x v r r') (hn : (r.map (·.1)).Nodup) {y b} (hm : (y, b) ∈ r') : CC x v r y b := by
 induction h with
 | head =>
  rw [aC, aY] at hn
  cases hm with
  | head => exact .hit rfl _ _ rfl (.head _)
  | tail _ hm => exact .miss (fun q => hn.1 (q ▸ aO (f := (·.1)) hm)) (.tail _ hm)
 | @tail p r0 r0' h0 ih =>
  rw [aC, aY] at hn
  cases hm with
  | head =>
   refine .miss (fun q => hn.1 ?_) (.head _)
   obtain ⟨_, o, ho, _⟩ := h0.there
   exact q ▸ aO (f := (·.1)) ho
  | tail _ hm => exact (ih hn.2 hm).tl
section
variable {W : Wd} {n : Nat} {r r' : jt} {H : HH} {Q : jJ}
theorem sv {h : Heap} {a m} (x : h.Ns a m) : ld h a := let ⟨o, _, _, e, _⟩ := x; ⟨o, e⟩
theorem nV {h : Heap} {a m} (x : h.IsCell a m) : ld h a := let ⟨o, e, _⟩ := x; ⟨o, e⟩
theorem mv {E : Value → Shared → Prop} {A env fa G} {s : Shared} {x : Str} {v : PV} {cv : Value} {P : Unit → Shared → Prop} (hr : HR W G H s) (f : FR W env fa r G s.heap) (U : lp x v r r') (hv : RV W G v cv)
  (h : ∀ s', kA fa G s G s' → HR W G H s' → FR W env fa r' G s'.heap → P () s') : wpAny (model W.prog W.w) A (storeName env x cv) P E s := by
 obtain ⟨bx, o, ho, _⟩ := U.there
 have hnd : (r'.map (·.1)).Nodup := by rw [U.keys]; exact f.nodup
 rcases f.loc x bx o ho with ⟨hbl, hl⟩ | ⟨hbc, hk, c, u, h1, h2, h6, h7⟩
 ·obtain ⟨m, hns, hm⟩ := f.ns
  obtain ⟨a1, a2, a3, a4⟩ := f.ownf _ f.locf
  refine wpAny_storeName_local hl hns (fun h' hn hs => h _ (kA.frame f.locf hs (sv hn)) (hr.frame a1 a2 a3 hs (sv hn)) ?_) (by rw [f.kind]; rfl)
  refine { kind := f.kind, glo := f.glo, blt := f.blt, nodup := hnd, ns := ⟨_, hn, fun y yb w hy hk => ?_⟩, glb := fun y hy => ?_, loc := fun y yb ov hy => ?_, fre := fun y w hy => ?_, locf := f.locf, ownf := fun a ha => ?_, apart := f.apart }
  ·rcases U.mem f.nodup hy with ⟨e, zc, zo, e', ez⟩ | ⟨e, hy⟩
   ·cases e'; exact ⟨cv, if_pos e, hv⟩
   ·obtain ⟨w', q1, q2⟩ := hm y yb w hy hk
    exact ⟨w', (if_neg e).trans q1, q2⟩
  ·rcases U.mem f.nodup hy with ⟨e, zc, zo, e', ez⟩ | ⟨e, hy⟩
   ·cases e'
   ·exact f.glb y hy
  ·rcases U.mem f.nodup hy with ⟨e, zc, zo, e', ez⟩ | ⟨e, hy⟩
   ·cases e'; subst e; exact (f.loc _ _ _ ez).elim (fun h => .inl h) (fun h => by obtain ⟨_, hk, _⟩ := h; rw [hl] at hk; cases hk)
   ·rcases f.loc y yb ov hy with h | ⟨hb, hk, c, u, h1, ⟨oc, hc, hd⟩, h6, h7⟩
    ·exact .inl h
    ·refine .inr ⟨hb, hk, c, u, h1, ⟨oc, (hs.2 c (fun q => ?_)).trans hc, hd⟩, h6, h7⟩
     obtain ⟨oL, es, ep, hL, hLd, _⟩ := hns
     rw [q, hL] at hc; cases hc; rw [hLd] at hd; cases hd
  ·rcases U.mem f.nodup hy with ⟨e, zc, zo, e', ez⟩ | ⟨e, hy⟩
   ·cases e'
   ·obtain ⟨hk, c, cv, h1, ⟨oc, hc, hd⟩, h3, h4, h5, h6, h7⟩ := f.fre y w hy
    refine ⟨hk, c, cv, h1, ⟨oc, (hs.2 c (fun q => h6 (q ▸ f.locf))).trans hc, hd⟩, h3, h4, h5, h6, h7⟩
  ·obtain ⟨b1, b2, b3, b4⟩ := f.ownf a ha
   exact ⟨b1, b2, b3, mu hs (sv hn) b4⟩
 ·obtain ⟨a1, a2, a3, a4⟩ := f.ownf _ h6
  refine wpAny_storeName_cell f.kind hk h1 h2 fun h' hc hs => h _ (kA.frame (tk := s.toks) h6 hs (nV hc)) (hr.frame (tk := s.toks) a1 a2 a3 hs (nV hc)) ?_
  have hcL : env.locals ≠ c := fun q => by
   obtain ⟨m, ⟨oL, es, ep, hL, hLd, _⟩, _⟩ := f.ns
   obtain ⟨oc, hoc, hd⟩ := h2
   rw [q, hoc] at hL; cases hL; rw [hd] at hLd; cases hLd
  refine { kind := f.kind, glo := f.glo, blt := f.blt, nodup := hnd, ns := ?_, glb := fun y hy => ?_, loc := fun y yb ov hy => ?_, fre := fun y w hy => ?_, locf := f.locf, ownf := fun a ha => ?_, apart := f.apart }
  ·obtain ⟨m, hns, hm⟩ := f.ns
   refine ⟨m, hns.sameBut hs hcL, fun y yb w hy hk' => ?_⟩
   rcases U.mem f.nodup hy with ⟨e, zc, zo, e', ez⟩ | ⟨e, hy⟩
   ·rw [e, hk] at hk'; cases hk'
   ·exact hm y yb w hy hk'
  ·rcases U.mem f.nodup hy with ⟨e, zc, zo, e', ez⟩ | ⟨e, hy⟩
   ·cases e'
   ·exact f.glb y hy
  ·rcases U.mem f.nodup hy with ⟨e, zc, zo, e', ez⟩ | ⟨e, hy⟩
   ·cases e'
    subst e
    have hzc : yb = true := (f.loc _ _ _ ez).elim (fun h => by have := h.2; rw [hk] at this; cases this) (fun h => by obtain ⟨q, _⟩ := h; exact q)
    exact .inr ⟨hzc, hk, c, some cv, h1, hc, h6, fun w hw => by cases hw; exact ⟨cv, rfl, hv⟩⟩
   ·rcases f.loc y yb ov hy with h | ⟨hb', hk', c', u', h1', ⟨oc, hc', hd⟩, h6', h7'⟩
    ·exact .inl h
    ·exact .inr ⟨hb', hk', c', u', h1', ⟨oc, (hs.2 c' (fun q => e (f.apart y x c' h1' (q ▸ h1)))).trans hc', hd⟩, h6', h7'⟩
  ·rcases U.mem f.nodup hy with ⟨e, zc, zo, e', ez⟩ | ⟨e, hy⟩
   ·cases e'
   ·obtain ⟨hk', c', cv', h1', ⟨oc, hc', hd⟩, h3', h4', h5', h6', h7'⟩ := f.fre y w hy
    exact ⟨hk', c', cv', h1', ⟨oc, (hs.2 c' (fun q => h6' (q ▸ h6))).trans hc', hd⟩, h3', h4', h5', h6', h7'⟩
  ·obtain ⟨b1, b2, b3, b4⟩ := f.ownf a ha
   exact ⟨b1, b2, b3, mu hs (nV hc) b4⟩
theorem uA (h : Q .next r H) : lm W n r H [] Q := fun A env fa G s R hr f => gv ⟨G, .next, r, H, kA.refl, hr, f, rfl, h⟩
theorem AC {c rest} (h : Ex W n r H c fun fl r' H' => match fl with | .next => lm W n r' H' rest Q | fl => Q fl r' H') : lm W n r H (c :: rest) Q := fun A env fa G s R hr f => by
 refine wpAny_execs_cons (ay (h A env fa G s R hr f) (fun fl s1 h1 => ?_) fun _ _ x => x)
 obtain ⟨G1, fl', r1, H1, e1, hr1, f1, hf, q⟩ := h1
 cases fl' with
 | next => cases hf; exact ay (q A env fa G1 s1 R hr1 f1) (fun _ _ h => h.trans e1) fun _ _ x => x
 | brk => cases hf; exact ⟨G1, .brk, r1, H1, e1, hr1, f1, rfl, q⟩
 | cont => cases hf; exact ⟨G1, .cont, r1, H1, e1, hr1, f1, rfl, q⟩
 | ret p =>
  have hf' := hf
  obtain ⟨v, e, hv⟩ := hf
  subst e
  exact ⟨G1, .ret p, r1, H1, e1, hr1, f1, hf', q⟩
noncomputable abbrev kRt (r : jt) (Q : jJ) : CV := fun p H => Q (.ret p) r H
noncomputable abbrev Hs (Q : jJ) (H : HH) : jt → Prop := fun r => Q .next r H
noncomputable abbrev kHx (Q : jJ) (r : jt) : HH → Prop := fun H => Q .next r H
noncomputable abbrev Ht (W : Wd) (n : Nat) (r : jt) (a b : List Stmt) (Q : jJ) : CB := fun c H => jC c (lm W n r H a Q) (lm W n r H b Q)
noncomputable abbrev Hu (r : jt) (Q : jJ) : CV := fun p H => p = .none ∧ Q .next r H
theorem jR {e pos} (h : Ev W n r H e (kRt r Q)) : Ex W n r H (.Return (some e) pos) Q := fun A env fa G s R hr f =>
 wpAny_Return_some (ay (h A env fa G s R hr f) (fun v s1 ⟨G1, p, H1, e1, r1, v1, q1⟩ => ⟨G1, .ret p, r, H1, e1.weak, r1, f.ext e1, ⟨v, rfl, v1⟩, q1⟩) fun _ _ x => x)
theorem xF {pos} (h : Q (.ret .none) r H) : Ex W n r H (.Return none pos) Q := fun A env fa G s R hr f =>
 wpAny_Return_none ⟨G, .ret .none, r, H, kA.refl, hr, f, ⟨.none, rfl, by wtm_at "rv"⟩, h⟩
theorem xH {pos} (h : Q .cont r H) : Ex W n r H (.Continue pos) Q := fun A env fa G s R hr f => by
 show wpAny _ _ (do standAt pos; pure Flow.cont) _ _ _
 exact aj (cJ (aB ⟨G, .cont, r, H, kA.refl, hr, f, rfl, h⟩))
theorem kI {t a b pos} (h : Tv W n r H t (Ht W n r a b Q)) : Ex W n r H (.If t a b pos) Q := fun A env fa G s R hr f => by
 refine wpAny_If (ay (h A env fa G s R hr f) (fun c s1 h1 => ?_) fun _ _ x => x)
 obtain ⟨G1, H1, e1, r1, q1⟩ := h1
 cases c with
 | true => exact ay (q1.1 rfl A env fa G1 s1 R r1 (f.ext e1)) (fun v s4 h4 => h4.trans e1.weak) fun _ _ x => x
 | false => exact ay (q1.2 rfl A env fa G1 s1 R r1 (f.ext e1)) (fun v s4 h4 => h4.trans e1.weak) fun _ _ x => x
inductive yK (W : Wd) (P : HH → Prop) (G : Gh) (s : Shared) (u : Unit) (s' : Shared) : Prop
 | mk (G' : Gh) (H' : HH) (e : kA [] G s G' s') (hr : HR W G' H' s') (q : P H')
inductive lL (x : Str) (p : PV) (r : jt) (K : jt → Prop) : Prop
 | mk (r' : jt) (u : lp x p r r') (k : K r')
noncomputable def uB (W : Wd) (n : Nat) (H : HH) (ov iv v : PV) (P : HH → Prop) : Prop :=
 ∀ A G s cv co ci, lg A n → HR W G H s → RV W G v cv → RV W G ov co → RV W G iv ci → wpAny (model W.prog W.w) A (setItem co ci cv) (yK W P G s) mO s
noncomputable def vu (W : Wd) (n : Nat) (H : HH) (ov : PV) (attr : Str) (v : PV) (P : HH → Prop) : Prop :=
 ∀ A G s cv co, lg A n → HR W G H s → RV W G v cv → RV W G ov co → wpAny (model W.prog W.w) A (setAttr co attr cv) (yK W P G s) mO s
noncomputable def nK : Expr → Bool
 | .ListComp .. | .SetComp .. | .DictComp .. => false
 | _ => true
theorem lM {value t line env} (h : nK value = true) : swapsWith value t line env = pure false := by
 cases value <;> first | rfl | cases h
noncomputable abbrev kAs (x : Str) (r : jt) (Q : jJ) : CV := fun p H => lL x p r (Hs Q H)
theorem lx {e pos} (hc : nK e = true) (h : Ev W n r H e (Hu r Q)) : Ex W n r H (.Expr e pos) Q := fun A env fa G s R hr f => by
 refine wpAny_Expr (ay (h A env fa G s R hr f) (fun v s1 h1 => ?_) fun _ _ x => x) (by unfold interactive; rw [f.kind]; rfl) (lM hc)
 obtain ⟨G1, p, H1, e1, r1, v1, q1, q2⟩ := h1
 subst q1
 have : v = .none := by exact v1
 subst this
 exact ⟨G1, .next, r, H1, e1.weak, r1, f.ext e1, rfl, q2⟩
theorem jD {x pos' e pos} (hc : nK e = true) (h : Ev W n r H e (kAs x r Q)) : Ex W n r H (.Assign [.Name x pos'] e pos) Q := fun A env fa G s R hr f => by
 refine wpAny_Assign_Name (ay (h A env fa G s R hr f) (fun v s1 h1 => ?_) fun _ _ x => x) (lM hc)
 obtain ⟨G1, p, H1, e1, r1, v1, ⟨r', U, q2⟩⟩ := h1
 exact mv r1 (f.ext e1) U v1 fun s' e' hr' f' => ⟨G1, .next, r', H1, e1.weak.trans e', hr', f', rfl, q2⟩
theorem AD {x pos' op e pos c} {v0 : PV} (hm : (x, Bd.loc c (some v0)) ∈ r) (h : Ev W n r H e fun p H1 => lC W n H1 (inplaceOp op) v0 p fun q H2 => lL x q r fun r' => Q .next r' H2) : Ex W n r H (.AugAssign (.Name x pos') op e pos) Q := fun A env fa G s R hr f => by
 refine wpAny_AugAssign_Name (vq f hm fun cv hcv => ?_)
 refine ay (h A env fa G s R hr f) (fun v s1 h1 => ?_) fun _ _ x => x
 obtain ⟨G1, p, H1, e1, r1, v1, q1⟩ := h1
 refine ay (q1 A G1 s1 cv v R r1 (e1.rv hcv) v1) (fun w s2 h2 => ?_) fun _ _ x => x
 obtain ⟨G2, q, H2, e2, r2, v2, ⟨r', U, q2⟩⟩ := h2
 exact mv r2 (f.ext (e1.trans e2)) U v2 fun s' e' hr' f' => ⟨G2, .next, r', H2, (e1.trans e2).weak.trans e', hr', f', rfl, q2⟩
noncomputable abbrev Hv (W : Wd) (n : Nat) (r : jt) (v o : PV) (Q : jJ) : CV := fun i H => uB W n H o i v (kHx Q r)
noncomputable abbrev Hw (W : Wd) (n : Nat) (r : jt) (i : Expr) (v : PV) (Q : jJ) : CV := fun o H => Ev W n r H i (Hv W n r v o Q)
noncomputable abbrev Hx (W : Wd) (n : Nat) (r : jt) (o i : Expr) (Q : jJ) : CV := fun v H => Ev W n r H o (Hw W n r i v Q)
theorem oi {o i pos' e pos} (hc : nK e = true) (h : Ev W n r H e (Hx W n r o i Q)) :
  Ex W n r H (.Assign [.Subscript o i pos'] e pos) Q := fun A env fa G s R hr f => by
 refine wpAny_Assign_Subscript (ay (h A env fa G s R hr f) (fun v s1 h1 => ?_) fun _ _ x => x) (lM hc)
 obtain ⟨G1, p, H1, e1, r1, v1, q1⟩ := h1
 refine ay (q1 A env fa G1 s1 R r1 (f.ext e1)) (fun vo s2 h2 => ?_) fun _ _ x => x
 obtain ⟨G2, po, H2, e2, r2, v2, q2⟩ := h2
 refine ay (q2 A env fa G2 s2 R r2 ((f.ext e1).ext e2)) (fun vi s3 h3 => ?_) fun _ _ x => x
 obtain ⟨G3, pi, H3, e3, r3, v3, q3⟩ := h3
 refine ay (q3 A G3 s3 v vo vi R r3 (e3.rv (e2.rv v1)) (e3.rv v2) v3) (fun _ s4 h4 => ?_) fun _ _ x => x
 obtain ⟨G4, H4, e4, r4, q4⟩ := h4
 exact ⟨G4, .next, r, H4, (((e1.trans e2).trans e3).trans e4).weak, r4, (((f.ext e1).ext e2).ext e3).ext e4, rfl, q4⟩
noncomputable abbrev Hy (W : Wd) (n : Nat) (r : jt) (a : Str) (v : PV) (Q : jJ) : CV := fun o H => vu W n H o a v (kHx Q r)
noncomputable abbrev Hz (W : Wd) (n : Nat) (r : jt) (o : Expr) (a : Str) (Q : jJ) : CV := fun v H => Ev W n r H o (Hy W n r a v Q)
theorem sw {o attr pos' e pos} (hc : nK e = true) (h : Ev W n r H e (Hz W n r o attr Q)) :
  Ex W n r H (.Assign [.Attribute o attr pos'] e pos) Q := fun A env fa G s R hr f => by
 refine plainObj_wpAny_Assign_Attribute (ay (h A env fa G s R hr f) (fun v s1 h1 => ?_) fun _ _ x => x) (lM hc)
 obtain ⟨G1, p, H1, e1, r1, v1, q1⟩ := h1
 refine ay (q1 A env fa G1 s1 R r1 (f.ext e1)) (fun vo s2 h2 => ?_) fun _ _ x => x
 obtain ⟨G2, po, H2, e2, r2, v2, q2⟩ := h2
 refine ay (q2 A G2 s2 v vo R r2 (e2.rv v1) v2) (fun _ s4 h4 => ?_) fun _ _ x => x
 obtain ⟨G4, H4, e4, r4, q4⟩ := h4
 exact ⟨G4, .next, r, H4, ((e1.trans e2).trans e4).weak, r4, ((f.ext e1).ext e2).ext e4, rfl, q4⟩
end
theorem kH.own {W G h a o} (x : kH W G h a o) : G.own a = some a := by
 cases o with
 | lst xs => obtain ⟨_, _, _, h2, _⟩ := x; exact h2
 | dct xs => obtain ⟨_, _, _, h2, _⟩ := x; exact h2
 | ins c xs => obtain ⟨_, _, _, _, _, _, _, h2, _⟩ := x; exact h2
theorem HR.notSys {W G H} {s : Shared} {a i : Addr} (x : HR W G H s) (h : G.own a = some i) : (a == sysModules) = false := by
 rw [beq_eq_false_iff_ne]
 rintro rfl
 obtain ⟨o, ho⟩ := W.hsys
 rw [(x.bown _ _ h).1] at ho; cases ho
inductive Vw (H : HH) : PV → PV → Prop
 | refl {v} : Vw H v v
 | lst {a xs} : (a, HO.lst xs) ∈ H → Vw H (.ref a) (.lst xs)
 | dct {a es} : (a, HO.dct es) ∈ H → Vw H (.ref a) (.dct es)
 | ins {a c fs} : (a, HO.ins c fs) ∈ H → Vw H (.ref a) (.ins c fs)
section
variable {W : Wd} {G : Gh} {H : HH} {s : Shared} {p : PV} {v : Value}
theorem Vw.lstAt {xs} (w : Vw H p (.lst xs)) (x : HR W G H s) (h : RV W G p v) : Au s.heap.get? (j0 W G xs) v := by
 generalize hq : PV.lst xs = q at w
 cases w with
 | refl => subst hq; obtain ⟨a, vs, n, e, e1, r⟩ := h; exact ⟨a, vs, n, e, (x.imm _ _ e1).1, r⟩
 | lst hm => cases hq; obtain ⟨vs, n, h1, _, r⟩ := x.slot _ _ hm; exact ⟨_, vs, n, h, h1, r⟩
 | dct hm => cases hq
 | ins hm => cases hq
theorem Vw.dctAt {xs} (w : Vw H p (.dct xs)) (x : HR W G H s) (h : RV W G p v) : Av s.heap.get? (xs.map ai).Nodup (oO W G xs) v := by
 generalize hq : PV.dct xs = q at w
 cases w with
 | refl => subst hq; obtain ⟨a, vs, n, e, e1, nd, r⟩ := h; exact ⟨a, vs, n, e, (x.imm _ _ e1).1, nd, r⟩
 | lst hm => cases hq
 | dct hm => cases hq; obtain ⟨vs, n, h1, ho, nd, r⟩ := x.slot _ _ hm; exact ⟨_, vs, n, h, h1, ⟨x.notSys ho, nd⟩, r⟩
 | ins hm => cases hq
theorem Vw.insAt {c xs} (w : Vw H p (.ins c xs)) (x : HR W G H s) (h : RV W G p v) : Aw s.heap.get? (W.mg c) (xs.map ai).Nodup (qi W G xs) v := by
 generalize hq : PV.ins c xs = q at w
 cases w with
 | refl => subst hq; obtain ⟨a, C, dx, vs, n, e, e0, e1, e2, nd, r⟩ := h; exact ⟨a, C, dx, vs, n, e, e0, (x.imm _ _ e1).1, (x.imm _ _ e2).1, nd, r⟩
 | lst hm => cases hq
 | dct hm => cases hq
 | ins hm => cases hq; obtain ⟨C, dx, vs, n, h0, h1, h2, _, _, nd, r⟩ := x.slot _ _ hm; exact ⟨_, C, dx, vs, n, h, h0, h1, h2, nd, r⟩
inductive HA (h : Heap) (R : List Value → Prop) (v : Value) : Prop
 | mk (a : Addr) (vs : List Value) (e : v = .ref a) (it : IsTup h a vs.toArray) (r : R vs)
theorem Vw.tupAt {xs} (w : Vw H p (.tup xs)) (x : HR W G H s) (h : RV W G p v) : HA s.heap (j0 W G xs) v := by
 generalize hq : PV.tup xs = q at w
 cases w with
 | refl => subst hq; obtain ⟨a, vs, e, ⟨o, e1, e2⟩, r⟩ := h; exact ⟨a, vs, e, ⟨o, (x.imm _ _ e1).1, e2⟩, r⟩
 | lst hm => cases hq
 | dct hm => cases hq
 | ins hm => cases hq
end
theorem j0.length {W G} : ∀ {xs : List PV} {vs : List Value}, j0 W G xs vs → vs.length = xs.length
 | [], vs, h => by rw [h]; rfl
 | x :: xs, vs, h => by
  obtain ⟨v, r, e, _, h2⟩ := h
  rw [e, dG, dG, j0.length h2]
theorem j0.get {W G} : ∀ {xs : List PV} {vs : List Value}, j0 W G xs vs → ∀ {i : Nat} {x : PV}, xs[i]? = some x → ∃ v, vs[i]? = some v ∧ RV W G x v
 | [], vs, h, i, x, e => by simp at e
 | x :: xs, vs, h, i, y, e => by
  obtain ⟨v, r, e', h1, h2⟩ := h
  subst e'
  cases i with
  | zero => simp only [List.getElem?_cons_zero, im] at e ⊢; subst e; exact ⟨v, rfl, h1⟩
  | succ i => simp only [fY] at e ⊢; exact j0.get h2 e
theorem j0.append {W G} : ∀ {xs ys : List PV} {vs ws : List Value}, j0 W G xs vs → j0 W G ys ws → j0 W G (xs ++ ys) (vs ++ ws)
 | [], ys, vs, ws, h, h' => by subst h; exact h'
 | x :: xs, ys, vs, ws, h, h' => by
  obtain ⟨v, r, e', h1, h2⟩ := h
  subst e'
  simp only [eu, j0]
  exact ⟨v, _, rfl, h1, j0.append h2 h'⟩
theorem j0.one {W G x v} (h : RV W G x v) : j0 W G [x] [v] := t5.mk v [] rfl h rfl
theorem j0.cons {W G x v xs vs} (h : RV W G x v) (h' : j0 W G xs vs) : j0 W G (x :: xs) (v :: vs) := t5.mk v vs rfl h h'
theorem j0.nil {W G} : j0 W G [] [] := rfl
theorem j0.set {W G} : ∀ {xs : List PV} {vs : List Value}, j0 W G xs vs → ∀ {i : Nat} {x : PV} {v : Value}, RV W G x v → j0 W G (xs.set i x) (vs.set i v)
 | [], vs, h, i, x, v, hv => by subst h; rfl
 | x :: xs, vs, h, i, y, w, hv => by
  obtain ⟨v, r, e', h1, h2⟩ := h
  subst e'
  cases i with
  | zero => exact j0.cons hv h2
  | succ i => exact j0.cons h1 (j0.set h2 hv)
theorem j0.take {W G} : ∀ {xs : List PV} {vs : List Value}, j0 W G xs vs → ∀ n : Nat, j0 W G (xs.take n) (vs.take n)
 | [], vs, h, n => by subst h; cases n <;> rfl
 | x :: xs, vs, h, n => by
  obtain ⟨v, r, e', h1, h2⟩ := h
  subst e'
  cases n with
  | zero => rfl
  | succ i => exact j0.cons h1 (j0.take h2 i)
theorem j0.drop {W G} : ∀ {xs : List PV} {vs : List Value}, j0 W G xs vs → ∀ n : Nat, j0 W G (xs.drop n) (vs.drop n)
 | [], vs, h, n => by subst h; cases n <;> rfl
 | x :: xs, vs, h, n => by
  cases n with
  | zero => exact h
  | succ i =>
   obtain ⟨v, r, e', h1, h2⟩ := h
   subst e'
   exact j0.drop h2 i
inductive kQ (a : Addr) (o o' : HO) : HH → HH → Prop
 | head {r} : kQ a o o' ((a, o) :: r) ((a, o') :: r)
 | tail {p r r'} : kQ a o o' r r' → kQ a o o' (p :: r) (p :: r')
theorem kQ.keys {a o o' H H'} (h : kQ a o o' H H') : H'.map (·.1) = H.map ai := by
 induction h with
 | head => rfl
 | tail _ ih => simp only [aC, ih]
theorem kQ.there {a o o' H H'} (h : kQ a o o' H H') : (a, o) ∈ H := by
 induction h with
 | head => exact .head _
 | tail _ ih => exact .tail _ ih
theorem kQ.mem {a o o' H H'} (h : kQ a o o' H H') (hn : (H.map ai).Nodup) {b ob} (hm : (b, ob) ∈ H') : (b = a ∧ ob = o') ∨ (b ≠ a ∧ (b, ob) ∈ H) := by
 induction h with
 | head =>
  rw [aC, aY] at hn
  rcases au.mp hm with e | hm
  ·cases e; exact .inl ⟨rfl, rfl⟩
  ·exact .inr ⟨fun q => hn.1 (az.mpr ⟨_, hm, q⟩), .tail _ hm⟩
 | @tail p r0 r0' h0 ih =>
  rw [aC, aY] at hn
  rcases au.mp hm with e | hm
  ·refine .inr ⟨fun q => hn.1 ?_, e ▸ .head _⟩
   have : p.1 = a := by rw [← e]; exact q
   rw [this]; exact aO (f := ai) h0.there
  ·rcases ih hn.2 hm with h | h
   ·exact .inl h
   ·exact .inr ⟨h.1, .tail _ h.2⟩
theorem HR.upd {W G H H' a o o'} {s : Shared} (x : HR W G H s) (U : kQ a o o' H H') {h' : Heap} {tk : Nat} (hk : ∀ b ob, s.heap.get? b = some ob → G.own b ≠ some a → h'.get? b = some ob)
  (hsl : kH W G h' a o') (hth : ∀ b, ld s.heap b → ld h' b) : HR W G H' { s with heap := h', toks := tk } ∧ kA [] G s G { s with heap := h', toks := tk } := by
 refine ⟨⟨x.bas, fun b i e => ⟨(x.bown b i e).1, hth b (x.bown b i e).2⟩, fun b ob e => ⟨hk b ob (x.imm b ob e).1 fun q => ?_, (x.imm b ob e).2⟩, by rw [show (H'.map fun z => z.1) = H'.map ai from rfl, U.keys]; exact x.nodup, fun b ob hm => ?_, x.os, x.gens⟩,
  ⟨fun _ _ e => e, fun _ _ => .inl rfl, fun _ _ _ => rfl, fun b ob e ho _ => hk b ob e (fun q => by rw [ho] at q; cases q), hth⟩⟩
 ·rw [(x.imm b ob e).2] at q; cases q
 ·rcases U.mem x.nodup hm with ⟨e, e'⟩ | ⟨e, hm⟩
  ·rw [e, e']; exact hsl
  ·exact (x.slot b ob hm).mono (fun _ _ e => e) (fun c oc hc e' => hk c oc e' (fun q => e (by rw [hc] at q; cases q; rfl))) fun _ e => e
theorem sx {h : Heap} {a : Addr} {f : Obj → Obj} (ha : ld (h.update a f) a) {b : Addr} (hb : ld h b) : ld (h.update a f) b := by
 by_cases e : b = a
 ·exact e ▸ ha
 ·obtain ⟨o, ho⟩ := hb; exact ⟨o, (cy _ _ _ _ (fun z => e (by first | exact z | exact z.symm))).trans ho⟩
inductive jK : HH → HH → HH → Prop
 | nil : jK [] [] []
 | l {e H K S} : jK H K S → jK (e :: H) (e :: K) S
 | r {e H K S} : jK H K S → jK (e :: H) K (e :: S)
theorem jK.mem {H K S} (h : jK H K S) : (∀ e ∈ K, e ∈ H) ∧ (∀ e ∈ S, e ∈ H) := by
 induction h with
 | nil => exact ⟨fun _ h => h, fun _ h => h⟩
 | l _ ih => exact ⟨fun e he => by (rcases au.mp he with rfl | he; exact .head _; exact .tail _ (ih.1 e he)), fun e he => .tail _ (ih.2 e he)⟩
 | r _ ih => exact ⟨fun e he => .tail _ (ih.1 e he), fun e he => by (rcases au.mp he with rfl | he; exact .head _; exact .tail _ (ih.2 e he))⟩
theorem jK.all {H : HH} : jK H [] H := by
 induction H with
 | nil => exact .nil
 | cons _ _ ih => exact .r ih
theorem jK.none {H : HH} : jK H H [] := by
 induction H with
 | nil => exact .nil
 | cons _ _ ih => exact .l ih
theorem jK.keys {H K S} (h : jK H K S) (hn : (H.map ai).Nodup) : (K.map ai).Nodup ∧ (S.map ai).Nodup ∧ ∀ a, a ∈ K.map ai → a ∈ S.map ai → False := by
 induction h with
 | nil => exact ⟨by simp, by simp, fun a h => by simp at h⟩
 | @l e H K S h ih =>
  rw [aC, aY] at hn
  obtain ⟨i1, i2, i3⟩ := ih hn.2
  have hs : ∀ a, a ∈ K.map ai → a ∈ H.map ai := fun a ha => by obtain ⟨e', he, rfl⟩ := az.mp ha; exact aO (h.mem.1 _ he)
  have hs' : ∀ a, a ∈ S.map ai → a ∈ H.map ai := fun a ha => by obtain ⟨e', he, rfl⟩ := az.mp ha; exact aO (h.mem.2 _ he)
  refine ⟨by rw [aC, aY]; exact ⟨fun q => hn.1 (hs _ q), i1⟩, i2, fun a ha hb => ?_⟩
  rw [aC] at ha
  rcases au.mp ha with rfl | ha
  ·exact hn.1 (hs' _ hb)
  ·exact i3 a ha hb
 | @r e H K S h ih =>
  rw [aC, aY] at hn
  obtain ⟨i1, i2, i3⟩ := ih hn.2
  have hs : ∀ a, a ∈ K.map ai → a ∈ H.map ai := fun a ha => by obtain ⟨e', he, rfl⟩ := az.mp ha; exact aO (h.mem.1 _ he)
  have hs' : ∀ a, a ∈ S.map ai → a ∈ H.map ai := fun a ha => by obtain ⟨e', he, rfl⟩ := az.mp ha; exact aO (h.mem.2 _ he)
  refine ⟨i1, by rw [aC, aY]; exact ⟨fun q => hn.1 (hs' _ q), i2⟩, fun a ha hb => ?_⟩
  rw [aC] at hb
  rcases au.mp hb with rfl | hb
  ·exact hn.1 (hs _ ha)
  ·exact i3 a ha hb
mutual
inductive pA (S : HH) : PV → PV → Prop
 | refl {p} : pA S p p
 | lst {a xs ys} : (a, HO.lst xs) ∈ S → nA S xs ys → pA S (.ref a) (.lst ys)
 | dct {a es fs} : (a, HO.dct es) ∈ S → tL S es fs → pA S (.ref a) (.dct fs)
 | ins {a c es fs} : (a, HO.ins c es) ∈ S → tM S es fs → pA S (.ref a) (.ins c fs)
 | tup {xs ys} : nA S xs ys → pA S (.tup xs) (.tup ys)
inductive nA (S : HH) : List PV → List PV → Prop
 | refl {xs} : nA S xs xs
 | cons {x y xs ys} : pA S x y → nA S xs ys → nA S (x :: xs) (y :: ys)
inductive tL (S : HH) : List (PV × PV) → List (PV × PV) → Prop
 | refl {xs} : tL S xs xs
 | cons {k x y xs ys} : pA S x y → tL S xs ys → tL S ((k, x) :: xs) ((k, y) :: ys)
inductive tM (S : HH) : List (Str × PV) → List (Str × PV) → Prop
 | refl {xs} : tM S xs xs
 | cons {k x y xs ys} : pA S x y → tM S xs ys → tM S ((k, x) :: xs) ((k, y) :: ys)
end
theorem tL.keys {S xs ys} (h : tL S xs ys) : ys.map ai = xs.map ai :=
 tL.rec (motive_1 := fun _ _ _ => True) (motive_2 := fun _ _ _ => True) (motive_3 := fun xs ys _ => ys.map ai = xs.map ai) (motive_4 := fun _ _ _ => True)
  trivial (fun _ _ _ => trivial) (fun _ _ _ => trivial) (fun _ _ _ => trivial) (fun _ _ => trivial) trivial (fun _ _ _ _ => trivial) rfl (fun {k _ _ _ _} _ _ _ ih => congrArg (ji k) ih) trivial (fun _ _ _ _ => trivial) h
theorem tM.keys {S xs ys} (h : tM S xs ys) : ys.map ai = xs.map ai :=
 tM.rec (motive_1 := fun _ _ _ => True) (motive_2 := fun _ _ _ => True) (motive_3 := fun _ _ _ => True) (motive_4 := fun xs ys _ => ys.map ai = xs.map ai)
  trivial (fun _ _ _ => trivial) (fun _ _ _ => trivial) (fun _ _ _ => trivial) (fun _ _ => trivial) trivial (fun _ _ _ _ => trivial) trivial (fun _ _ _ _ => trivial) rfl (fun {k _ _ _ _} _ _ _ ih => congrArg (ji k) ih) h
structure HB (W : Wd) (G G' : Gh) (S : HH) : Prop where
 g : ∀ b o, G.g b = some o → G'.g b = some o
 s : ∀ a xs, (a, HO.lst xs) ∈ S → Au G'.g (j0 W G xs) (.ref a)
 d : ∀ a es, (a, HO.dct es) ∈ S → Av G'.g (es.map ai).Nodup (oO W G es) (.ref a)
 i : ∀ a c fs, (a, HO.ins c fs) ∈ S → Aw G'.g (W.mg c) (fs.map ai).Nodup (qi W G fs) (.ref a)
theorem pA.rv {W G G' S} (x : HB W G G' S) {p t : PV} {v : Value} (h : pA S p t) (hv : RV W G p v) : RV W G' t v := by
 refine pA.rec (motive_1 := fun p t _ => ∀ v, RV W G p v → RV W G' t v) (motive_2 := fun p t _ => ∀ v, j0 W G p v → j0 W G' t v) (motive_3 := fun p t _ => ∀ v, oO W G p v → oO W G' t v) (motive_4 := fun p t _ => ∀ v, qi W G p v → qi W G' t v)
  (fun v h => h.mono x.g) (fun {a xs ys} hm _ ih v h => ?_) (fun {a xs ys} hm hr ih v h => ?_) (fun {a c xs ys} hm hr ih v h => ?_) (fun {xs ys} _ ih v h => ?_)
  (fun v h => h.mono x.g) (fun {y z ys zs} _ _ i1 i2 v h => ?_) (fun v h => h.mono x.g) (fun {k y z ys zs} _ _ i1 i2 v h => ?_) (fun v h => h.mono x.g) (fun {k y z ys zs} _ _ i1 i2 v h => ?_) h v hv
 ·cases (show v = .ref a from h); obtain ⟨a', vs, n, e, g, r⟩ := x.s _ _ hm; exact Au.mk a' vs n e g (ih _ r)
 ·cases (show v = .ref a from h); obtain ⟨a', vs, n, e, g, nd, r⟩ := x.d _ _ hm; exact Av.mk a' vs n e g ⟨nd.1, by rw [hr.keys]; exact nd.2⟩ (ih _ r)
 ·cases (show v = .ref a from h); obtain ⟨a', C, dx, vs, n, e, hc, g, g', nd, r⟩ := x.i _ _ _ hm; exact Aw.mk a' C dx vs n e hc g g' (by rw [hr.keys]; exact nd) (ih _ r)
 ·obtain ⟨a, vs, e, ⟨o, e1, e2⟩, r⟩ := h; exact vn.mk a vs e ⟨o, x.g _ _ e1, e2⟩ (ih _ r)
 ·obtain ⟨u, r, e, q1, q2⟩ := h; exact t5.mk u r e (i1 _ q1) (i2 _ q2)
 ·obtain ⟨u, r, e, q0, q1, q2, q3⟩ := h; exact xz.mk u r e q0 (q1.mono x.g) (i1 _ q2) (i2 _ q3)
 ·obtain ⟨u, r, t, e, q0, q1, q2, q3⟩ := h; exact t6.mk u r t e q0 q1 (i1 _ q2) (i2 _ q3)
noncomputable def Gh.frz (G : Gh) (h : Heap) (S : HH) : Gh :=
 ⟨fun b => match G.own b with | some a => if a ∈ S.map ai then h.get? b else G.g b | none => G.g b,
  fun b => match G.own b with | some a => if a ∈ S.map ai then none else some a | none => none⟩
theorem HR.freeze {W G H K S} {s : Shared} (x : HR W G H s) (sp : jK H K S) : kA [] G s (G.frz s.heap S) s ∧ HR W (G.frz s.heap S) K s ∧ ∀ p t v, pA S p t → RV W G p v → RV W (G.frz s.heap S) t v := by
 obtain ⟨nk, ns, dj⟩ := sp.keys x.nodup
 have own0 : ∀ b, G.own b = none → (G.frz s.heap S).g b = G.g b := fun b hb => by show (match G.own b with | some a => _ | none => _) = _; rw [hb]
 have hle : ∀ b o, G.g b = some o → (G.frz s.heap S).g b = some o := fun b o e => by rw [own0 b (x.imm b o e).2]; exact e
 have gS : ∀ a b o, G.own b = some a → a ∈ S.map ai → s.heap.get? b = some o → (G.frz s.heap S).g b = some o := fun a b o hb ha e => by
  show (match G.own b with | some a => _ | none => _) = _
  rw [hb]; simp only; rw [if_pos ha]; exact e
 refine ⟨⟨hle, fun b _ => ?_, fun b _ hb => own0 b hb, fun b o e _ _ => e, fun _ h => h⟩, ⟨fun b o e => hle _ _ (x.bas b o e), fun b i e => ?_, fun b o e => ?_, nk, fun a o hm => ?_, x.os, x.gens⟩, fun p t v hr hv => ?_⟩
 ·show (match G.own b with | some a => _ | none => _) = _ ∨ (match G.own b with | some a => _ | none => _) = _
  cases hb : G.own b with
  | none => exact .inl rfl
  | some a =>
   simp only
   by_cases ha : a ∈ S.map ai
   ·right; rw [if_pos ha]
   ·left; rw [if_neg ha]
 ·have e' : (match G.own b with | some a => if a ∈ S.map ai then none else some a | none => none) = some i := e
  cases hb : G.own b with
  | none => rw [hb] at e'; cases e'
  | some a => exact x.bown b a hb
 ·have e' : (match G.own b with | some a => if a ∈ S.map ai then s.heap.get? b else G.g b | none => G.g b) = some o := e
  show _ ∧ (match G.own b with | some a => if a ∈ S.map ai then none else some a | none => none) = none
  cases hb : G.own b with
  | none => rw [hb] at e'; exact ⟨(x.imm b o e').1, rfl⟩
  | some a =>
   rw [hb] at e'
   simp only at e' ⊢
   by_cases ha : a ∈ S.map ai
   ·rw [if_pos ha] at e' ⊢; exact ⟨e', rfl⟩
   ·rw [if_neg ha] at e'
    have := (x.imm b o e').2
    rw [hb] at this; cases this
 ·refine (x.slot a o (sp.mem.1 _ hm)).mono hle (fun b ob _ e => e) fun b hb => ?_
  show (match G.own b with | some a => if a ∈ S.map ai then none else some a | none => none) = _
  rw [hb]; simp only
  rw [if_neg (fun q => dj a (aO (f := ai) hm) q)]
 ·have key : ∀ a o, (a, o) ∈ S → a ∈ S.map ai := fun a o h => aO (f := ai) h
  refine pA.rv ⟨hle, fun a xs hm => ?_, fun a xs hm => ?_, fun a c xs hm => ?_⟩ hr hv
  ·obtain ⟨vs, n, h1, h2, h3⟩ := x.slot _ _ (sp.mem.2 _ hm)
   exact ⟨a, vs, n, rfl, gS a a _ h2 (key _ _ hm) h1, h3⟩
  ·obtain ⟨vs, n, h1, h2, nd, h3⟩ := x.slot _ _ (sp.mem.2 _ hm)
   exact ⟨a, vs, n, rfl, gS a a _ h2 (key _ _ hm) h1, ⟨x.notSys h2, nd⟩, h3⟩
  ·obtain ⟨C, dx, vs, n, h0, h1, h1', h2, h2', nd, h3⟩ := x.slot _ _ (sp.mem.2 _ hm)
   exact ⟨a, C, dx, vs, n, rfl, h0, gS a a _ h2 (key _ _ hm) h1, gS a dx _ h2' (key _ _ hm) h1', nd, h3⟩
noncomputable def Gh.hid (G : Gh) (R : HH) : Gh := ⟨G.g, fun b => match G.own b with | some a => if a ∈ R.map ai then none else some a | none => none⟩
noncomputable def Gh.show_ (G1 : Gh) (G : Gh) (R : HH) : Gh := ⟨G1.g, fun b => match G.own b with | some a => if a ∈ R.map ai then some a else G1.own b | none => G1.own b⟩
theorem Gh.hid_own {G : Gh} {R : HH} {b a} (h : G.own b = some a) : (G.hid R).own b = if a ∈ R.map ai then none else some a := by
 show (match G.own b with | some a => if a ∈ R.map ai then none else some a | none => none) = _
 rw [h]
theorem Gh.hid_none {G : Gh} {R : HH} {b} (h : G.own b = none) : (G.hid R).own b = none := by
 show (match G.own b with | some a => if a ∈ R.map ai then none else some a | none => none) = _
 rw [h]
theorem Gh.show_own {G1 G : Gh} {R : HH} {b a} (h : G.own b = some a) : (G1.show_ G R).own b = if a ∈ R.map ai then some a else G1.own b := by
 show (match G.own b with | some a => if a ∈ R.map ai then some a else G1.own b | none => G1.own b) = _
 rw [h]
theorem Gh.show_none {G1 G : Gh} {R : HH} {b} (h : G.own b = none) : (G1.show_ G R).own b = G1.own b := by
 show (match G.own b with | some a => if a ∈ R.map ai then some a else G1.own b | none => G1.own b) = _
 rw [h]
theorem HR.hide {W G H P R} {s : Shared} (x : HR W G H s) (sp : jK H P R) : HR W (G.hid R) P s := by
 obtain ⟨nk, ns, dj⟩ := sp.keys x.nodup
 refine ⟨x.bas, fun b i e => ?_, fun b o e => ⟨(x.imm b o e).1, Gh.hid_none (x.imm b o e).2⟩, nk, fun a o hm => (x.slot a o (sp.mem.1 _ hm)).mono (fun _ _ e => e) (fun _ _ _ e => e) fun b hb => ?_, x.os, x.gens⟩
 ·cases hb : G.own b with
  | none => rw [Gh.hid_none hb] at e; cases e
  | some a => exact x.bown b a hb
 ·rw [Gh.hid_own hb, if_neg (fun q => dj a (aO (f := ai) hm) q)]
theorem HR.unhide {W G H P R P' G1} {s s1 : Shared} (x : HR W G H s) (sp : jK H P R) (e : kA [] (G.hid R) s G1 s1) (y : HR W G1 P' s1) : kA [] G s (G1.show_ G R) s1 ∧ HR W (G1.show_ G R) (P' ++ R) s1 := by
 obtain ⟨nk, ns, dj⟩ := sp.keys x.nodup
 have hR : ∀ b a, G.own b = some a → a ∈ R.map ai → (G.hid R).own b = none := fun b a h h' => by rw [Gh.hid_own h, if_pos h']
 have hR1 : ∀ b a, G.own b = some a → a ∈ R.map ai → G1.own b = none := fun b a h h' => by
  rcases e.own b (x.bown b a h).2 with q | q
  ·rw [q, hR b a h h']
  ·exact q
 have R0 : ∀ b a, G.own b = some a → a ∈ R.map ai → G1.g b = none := fun b a h h' => by
  rw [e.gnew b (x.bown b a h).2 (hR b a h h')]
  cases q : G.g b with
  | none => show G.g b = _; exact q
  | some o => have := (x.imm b o q).2; rw [h] at this; cases this
 refine ⟨⟨e.gle, fun b hb => ?_, fun b hb ho => e.gnew b hb (Gh.hid_none ho), fun b o q ho _ => e.keep b o q (Gh.hid_none ho) (by simp), e.there⟩, ⟨fun b o e => y.bas b o e, fun b i q => ?_, fun b o q => ⟨(y.imm b o q).1, ?_⟩, ?_, fun a o hm => ?_, y.os, y.gens⟩⟩
 ·cases h : G.own b with
  | none =>
   rw [Gh.show_none h]
   rcases e.own b hb with q | q
   ·left; rw [q]; exact Gh.hid_none h
   ·exact .inr q
  | some a =>
   rw [Gh.show_own h]
   by_cases ha : a ∈ R.map ai
   ·rw [if_pos ha]; exact .inl rfl
   ·rw [if_neg ha]
    rcases e.own b hb with q | q
    ·left; rw [q, Gh.hid_own h, if_neg ha]
    ·exact .inr q
 ·cases h : G.own b with
  | none => rw [Gh.show_none h] at q; exact y.bown b i q
  | some a =>
   rw [Gh.show_own h] at q
   by_cases ha : a ∈ R.map ai
   ·exact ⟨(x.bown b a h).1, e.there b (x.bown b a h).2⟩
   ·rw [if_neg ha] at q; exact y.bown b i q
 ·cases h : G.own b with
  | none => rw [Gh.show_none h]; exact (y.imm b o q).2
  | some a =>
   rw [Gh.show_own h]
   by_cases ha : a ∈ R.map ai
   ·rw [show (G1.show_ G R).g b = G1.g b from rfl, R0 b a h ha] at q; cases q
   ·rw [if_neg ha]; exact (y.imm b o q).2
 ·rw [aJ, dy]
  refine ⟨y.nodup, ns, fun a ha b hb q => ?_⟩
  subst q
  obtain ⟨⟨a1, o1⟩, h1, q1⟩ := az.mp ha
  obtain ⟨⟨a2, o2⟩, h2, q2⟩ := az.mp hb
  have q1' : a1 = a := q1
  have q2' : a2 = a := q2
  subst q1'
  subst q2'
  have w1 := (y.slot _ _ h1).own
  have w2 := (x.slot _ _ (sp.mem.2 _ h2)).own
  rw [hR1 _ _ w2 hb] at w1; cases w1
 ·rcases aQ.mp hm with hm | hm
  ·refine (y.slot a o hm).mono (fun _ _ e => e) (fun _ _ _ e => e) fun b hb => ?_
   cases h : G.own b with
   | none => rw [Gh.show_none h]; exact hb
   | some c =>
    rw [Gh.show_own h]
    by_cases hc : c ∈ R.map ai
    ·rw [hR1 b c h hc] at hb; cases hb
    ·rw [if_neg hc]; exact hb
  ·have key : a ∈ R.map ai := aO (f := ai) hm
   refine (x.slot a o (sp.mem.2 _ hm)).mono e.gle (fun b ob ho q => e.keep b ob q (hR b a ho key) (by simp)) fun b hb => ?_
   rw [Gh.show_own hb, if_pos key]
inductive HC (W : Wd) (Q : CV) (G : Gh) (s : Shared) (r : Result) (s' : Shared) : Prop
 | mk (v : Value) (e : r = .ok (.ret v)) (f : Fin W Q G s v s')
noncomputable def jZ (W : Wd) (n : Nat) (H : HH) (f : Value) (ps : List PV) (Q : CV) : Prop :=
 ∀ A G s vs, lg A n → HR W G H s → j0 W G ps vs → codeAny (model W.prog W.w) A (.call f ⟨vs, []⟩) (HC W Q G s) s
theorem jZ.toN {W n H f ps Q} (h : jZ W n H f ps Q) : mP W n H (fun vs => call f vs) ps Q := fun A G s vs R hr hv =>
 wpAny_call (gj (h A G s vs R hr hv) fun r s' ⟨v, e, x⟩ => by subst e; exact x)
theorem jZ.frame {W n H P R} {f : Value} {ps : List PV} {Q : CV} (sp : jK H P R) (h : jZ W n P f ps fun p P' => Q p (P' ++ R)) : jZ W n H f ps Q := fun A G s vs Rm hr hv => by
 refine gj (h A (G.hid R) s vs Rm (hr.hide sp) (hv.mono (G' := G.hid R) fun b o (e : G.g b = some o) => e)) fun r s1 ⟨v, e, h1⟩ => ⟨v, e, ?_⟩
 obtain ⟨G1, p, P', e1, r1, v1, q1⟩ := h1
 obtain ⟨e2, r2⟩ := hr.unhide sp e1 r1
 exact ⟨_, p, _, e2, r2, v1.mono (G' := G1.show_ G R) (fun b o (e : G1.g b = some o) => e), q1⟩
noncomputable def jG : Expr → Bool
 | .Starred .. => false
 | _ => true
theorem FN {e : Expr} {es : List Expr} {env : Env} (h : jG e = true) : starEach (e :: es) env = (false, eval e env) :: starEach es env := by
 cases e with
 | Starred => exact (cD h).elim
 | _ => rfl
theorem sy {es : List Expr} {env : Env} : es.all jG = true → starEach es env = es.map fun e => (false, eval e env) := by
 induction es with
 | nil => exact fun _ => rfl
 | cons e es ih =>
  intro h
  rw [jc, a9] at h
  rw [FN h.1, ih h.2]; rfl
theorem ql {pos : Pos} : ∀ {es : List Expr} {env : Env}, backTo pos (es.map fun e => (false, eval e env)) = es.map fun e => (false, eval e env)
 | [], _ => rfl
 | e :: es, env => by
  have ih := ql (pos := pos) (es := es) (env := env)
  show (false, _) :: backTo pos (es.map fun e => (false, eval e env)) = _
  rw [ih]; rfl
noncomputable abbrev pP (es : List Expr) (env : Env) : List (Bool × Sem Value) := es.map fun e => (false, eval e env)
theorem nW {pos es env} (h : es.all jG = true) : backTo pos (starEach es env) = pP es env := by rw [sy h, ql]
theorem nX {es env} : (pP es env).any (·.1) = false := by
 induction es with
 | nil => rfl
 | cons e es ih => simp [pP]
inductive HD (W : Wd) (Q : CL) (G : Gh) (s : Shared) (vs : List Value) (s' : Shared) : Prop
 | mk (G' : Gh) (ps : List PV) (H' : HH) (e : kA [] G s G' s') (hr : HR W G' H' s') (hv : j0 W G' ps vs) (q : Q ps H')
noncomputable def nT (W : Wd) (n : Nat) (r : jt) (H : HH) (es : List Expr) (Q : CL) : Prop :=
 ∀ A env fa G s, lg A n → HR W G H s → FR W env fa r G s.heap → wpAny (model W.prog W.w) A (spliced (pP es env)) (HD W Q G s) mO s
section
variable {W : Wd} {n : Nat} {r : jt} {H : HH} {Q : CV}
theorem ml {Q : CL} (h : Q [] H) : nT W n r H [] Q := fun A env fa G s R hr f => Calls.spliced_nil ⟨G, [], H, kA.refl, hr, j0.nil, h⟩
noncomputable abbrev HE (p : PV) (Q : CL) : CL := fun ps H => Q (p :: ps) H
noncomputable abbrev kEc (W : Wd) (n : Nat) (r : jt) (es : List Expr) (Q : CL) : CV := fun p H => nT W n r H es (HE p Q)
theorem jA {e es} {Q : CL} (h : Ev W n r H e (kEc W n r es Q)) : nT W n r H (e :: es) Q := fun A env fa G s R hr f => by
 refine Calls.spliced_cons (ay (h A env fa G s R hr f) (fun v s1 h1 => ?_) fun _ _ x => x)
 obtain ⟨G1, p, H1, e1, r1, v1, q1⟩ := h1
 refine ay (q1 A env fa G1 s1 R r1 (f.ext e1)) (fun vs s2 h2 => ?_) fun _ _ x => x
 obtain ⟨G2, ps, H2, e2, r2, v2, q2⟩ := h2
 exact ⟨G2, p :: ps, H2, e1.trans e2, r2, j0.cons (e2.rv v1) v2, q2⟩
theorem vx {A G} {s : Shared} {vs : List Value} {ps : List PV} (hr : HR W G H s) (hv : j0 W G ps vs) (h : Q (.tup ps) H) (hsz : ps.length ≤ sizeLine) : wpAny (model W.prog W.w) A (newTuple vs) (Fin W Q G s) mO s := by
 obtain ⟨x, e⟩ := hr.allocG (At vs 0) rfl (tk := s.toks)
 refine fK ⟨_, .tup ps, H, e, x, ?_, h⟩ (by show vs.toArray.size ≤ sizeLine; rw [aH, hv.length]; exact hsz)
 exact vn.mk _ vs rfl ⟨_, if_pos rfl, rfl, 0, rfl⟩ (e.rvs hv)
theorem sA {A G} {s : Shared} {vs : List Value} {ps : List PV} (hr : HR W G H s) (hv : j0 W G ps vs) (h : ∀ a, Q (.ref a) ((a, .lst ps) :: H)) (hsz : ps.length ≤ sizeLine) : wpAny (model W.prog W.w) A (newList vs) (Fin W Q G s) mO s := by
 obtain ⟨x, e⟩ := hr.allocO (lK vs 0) (.lst ps) (tk := s.toks) ⟨vs, 0, aW _ rfl, if_pos rfl, hv.mono (G' := G.addO s.heap.objs.size s.heap.objs.size) (fun b o (e : G.g b = some o) => e)⟩
 exact fK ⟨_, .ref s.heap.objs.size, _, e, x, by wtm_at "rv", h _⟩ (by show vs.toArray.size ≤ sizeLine; rw [aH, hv.length]; exact hsz)
theorem sB {es k pos} (hs : es.all jG = true) (h : nT W n r H es fun ps H1 => ps.length ≤ sizeLine ∧ Q (.tup ps) H1) : Ev W n r H (.Tuple es k pos) Q := fun A env fa G s R hr f => by
 refine Tuple_ ?_
 rw [nW hs]
 refine ay (h A env fa G s R hr f) (fun vs s1 h1 => ?_) fun _ _ x => x
 obtain ⟨G1, ps, H1, e1, r1, v1, hz, q1⟩ := h1
 exact ay (vx r1 v1 q1 hz) (fun _ _ h => h.trans e1) fun _ _ x => x
theorem uC {es pos} (hs : es.all jG = true) (h : nT W n r H es fun ps H1 => ps.length ≤ sizeLine ∧ ∀ a, Q (.ref a) ((a, .lst ps) :: H1)) : Ev W n r H (.List es pos) Q := fun A env fa G s R hr f => by
 refine List_ ?_
 rw [nW hs]
 refine ay (h A env fa G s R hr f) (fun vs s1 h1 => ?_) fun _ _ x => x
 obtain ⟨G1, ps, H1, e1, r1, v1, hz, q1⟩ := h1
 exact ay (sA r1 v1 q1 hz) (fun _ _ h => h.trans e1) fun _ _ x => x
noncomputable def oP (W : Wd) (n : Nat) (H : HH) (po pi : PV) (Q : CV) : Prop :=
 ∀ A G s co ci, lg A n → HR W G H s → RV W G po co → RV W G pi ci → (∃ T id, s.TypeIs co T ∧ typeLookup (.type T) "__getitem__" = pure (some (.builtin id))) ∧ wpAny (model W.prog W.w) A (getItem co ci) (Fin W Q G s) mO s
theorem nC (slice : Expr) (o i : Value) : ∃ ops, subscripted slice false o i = operate ops (getItem o i) := by
 cases slice with
 | Slice a b c p => cases c <;> exact ⟨_, rfl⟩
 | _ => exact ⟨_, rfl⟩
noncomputable abbrev kGi (W : Wd) (n : Nat) (o : PV) (Q : CV) : CV := fun i H => oP W n H o i Q
noncomputable abbrev HF (W : Wd) (n : Nat) (r : jt) (i : Expr) (Q : CV) : CV := fun o H => Ev W n r H i (kGi W n o Q)
theorem oj {value slice pos} (h : Ev W n r H value (HF W n r slice Q)) : Ev W n r H (.Subscript value slice pos) Q := fun A env fa G s R hr f => by
 refine Subscript_ (ay (h A env fa G s R hr f) (fun vo s1 h1 => ?_) fun _ _ x => x)
 obtain ⟨G1, po, H1, e1, r1, v1, q1⟩ := h1
 refine ay (q1 A env fa G1 s1 R r1 (f.ext e1)) (fun vi s2 h2 => ?_) fun _ _ x => x
 obtain ⟨G2, pi, H2, e2, r2, v2, q2⟩ := h2
 obtain ⟨⟨T, id, hT, hl⟩, hg⟩ := q2 A G2 s2 vo vi R r2 (e2.rv v1) v2
 obtain ⟨ops, hs⟩ := nC slice vo vi
 exact tail_any hT hl (ay hg (fun _ _ h => (h.trans e2).trans e1) fun _ _ x => x) hs
theorem js {h : Heap} {a : Addr} {vs : List Value} {k : Nat} (e : h.get? a = some (lK vs k)) : h.IsList a vs.toArray := ⟨_, e, rfl, k, rfl⟩
theorem jz {po : PV} {k : Int} {xs : List PV} {x : PV} (w : Vw H po (.lst xs)) (h0 : 0 ≤ k) (hx : xs[k.toNat]? = some x) (hk : k < 2 ^ 63) (h : Q x H) : oP W n H po (.int k) Q := fun A G s co ci R hr v1 v2 => by
 obtain ⟨a, vs, m, e, e1, rs⟩ := w.lstAt hr v1
 obtain ⟨t, e2⟩ : ∃ t, ci = .int k t := by exact v2
 obtain ⟨v, hv, rv⟩ := rs.get hx
 subst e; subst e2
 exact ⟨⟨_, _, (js e1).typeIs, fM.lookup⟩, wpAny_getItem_list (js e1) h0 hk (by simpa using hv) (ss hr rv h)⟩
theorem nY {po : PV} {k : Int} {xs : List PV} {x : PV} (w : Vw H po (.lst xs)) (h0 : k < 0) (h1 : -(xs.length : Int) ≤ k) (hx : xs[(k + xs.length).toNat]? = some x) (hk : -(2 ^ 63) ≤ k) (h : Q x H) : oP W n H po (.int k) Q := fun A G s co ci R hr v1 v2 => by
 obtain ⟨a, vs, m, e, e1, rs⟩ := w.lstAt hr v1
 obtain ⟨t, e2⟩ : ∃ t, ci = .int k t := by exact v2
 obtain ⟨v, hv, rv⟩ := rs.get hx
 subst e; subst e2
 have hl := rs.length
 exact ⟨⟨_, _, (js e1).typeIs, fM.lookup⟩, wpAny_getItem_list_neg (js e1) h0 (by rw [aH, hl]; exact h1) hk (by rw [aH, hl]; simpa using hv) (ss hr rv h)⟩
theorem kJ {po : PV} {k : Int} {xs : List PV} {x : PV} (w : Vw H po (.tup xs)) (h0 : 0 ≤ k) (hx : xs[k.toNat]? = some x) (hk : k < 2 ^ 63) (h : Q x H) : oP W n H po (.int k) Q := fun A G s co ci R hr v1 v2 => by
 obtain ⟨a, vs, e, e1, rs⟩ := w.tupAt hr v1
 obtain ⟨t, e2⟩ : ∃ t, ci = .int k t := by exact v2
 obtain ⟨v, hv, rv⟩ := rs.get hx
 subst e; subst e2
 have hlt : k.toNat < vs.length := (aA.mp hv).1
 refine ⟨⟨_, _, e1.typeIs, slot_tuple_getitem.lookup⟩, PyProof.Rows.getItem_tuple e1 (by lia) hk (j := k.toNat) ?_ (by simpa using hv) (ss hr rv h)⟩
 rw [aH]
 unfold seqIndex?
 have q1 : ¬ k < 0 := by exact J13 17 h0
 have q2 : k < (vs.length : Int) := by exact J3 17 hlt
 simp only [q1, if_false, h0, q2, decide_true, Bool.and_true, if_true]
theorem rz (vs : List Value) (m : Nat) (f : Array Value → Array Value) : ∃ m', bZ f (lK vs m) = lK (f vs.toArray).toList m' := by
 refine ⟨if (f vs.toArray).size == vs.toArray.size then m else m + 1, ?_⟩
 show Obj.mk _ _ _ _ = Obj.mk _ _ _ _
 simp
theorem rV {A} {E : Value → Shared → Prop} {s : Shared} {a : Addr} {vs : List Value} {m : Nat} {k : Int} {t : Tok} {v : Value} {P : Unit → Shared → Prop} (e : s.heap.get? a = some (lK vs m)) (h0 : 0 ≤ k) (hk : k < 2 ^ 63) (hn : k < vs.length)
  (hQ : ∀ m', (s.heap.update a (bZ (·.setIfInBounds k.toNat v))).get? a = some (lK (vs.set k.toNat v) m') → P () { s with heap := s.heap.update a (bZ (·.setIfInBounds k.toNat v)) }) :
  wpAny (model W.prog W.w) A (setItem (.ref a) (.int k t) v) P E s := by
 have hl := js e
 unfold setItem
 try with_reducible refine bv ?_
 refine aj (wpAny_sequenceKey hl.typeIs (by decide) ?_)
 refine aj (wpAny_callSpecial?_slot (name := eW "__setitem__") hl.typeIs slot_list_setitem
  (cT slot_list_setitem hl.typeIs entry_list_setitem ?_ (args_list_setitem _ _ _)))
 show wpAny _ _ (Builtin.List.listSubscript? (.int k t) >>= _) _ _ s
 refine aj (wpAny_listSubscript_int (fitsIndex_of h0 hk) ?_)
 clear hk
 obtain ⟨j, rfl⟩ := Int.eq_ofNat_of_zero_le h0
 have hj : j < vs.toArray.size := by rw [aH]; exact J0 21 hn
 have hx' : vs.toArray[j]? = some vs.toArray[j] := dJ hj
 show wpAny _ _ ((seqItemAt a j >>= fun r => pure (r.map (j, ·))) >>= _) _ _ s
 refine aj (aj (wpAny_seqItemAt e rfl (aB ?_)))
 rw [hx']
 show wpAny _ _ (setSeqItemAt a j v >>= _) _ _ s
 obtain ⟨m', hm'⟩ := rz vs m (·.setIfInBounds j v)
 have hm2 : bZ (·.setIfInBounds j v) (lK vs m) = lK (vs.set j v) m' := by rw [hm']; simp
 have hfin := cA (h := s.heap) (bZ (·.setIfInBounds j v)) e (by rw [hm2]; rfl)
 rw [hm2] at hfin
 refine aj (wpAny_setSeqItemAt e rfl ?_)
 first
  | exact aj (aB (aB ⟨.none, rfl, aB (hQ m' hfin)⟩))
  | exact aB ⟨.none, rfl, aB (hQ m' hfin)⟩
theorem HR.updL {G H H' a xs ys} {s : Shared} {f : Obj → Obj} {vs : List Value} {m tk : Nat} (x : HR W G H s) (U : kQ a (.lst xs) (.lst ys) H H') (e : (s.heap.update a f).get? a = some (lK vs m)) (hv : j0 W G ys vs) :
  HR W G H' { s with heap := s.heap.update a f, toks := tk } ∧ kA [] G s G { s with heap := s.heap.update a f, toks := tk } := by
 have ho := (x.slot _ _ U.there).own
 exact x.upd U (fun b ob q hb => (cy _ _ _ _ (fun z => hb (by subst z; exact ho))).trans q) ⟨vs, m, e, ho, hv⟩ fun b hb => sx ⟨_, e⟩ hb
theorem mw {a : Addr} {k : Int} {v : PV} {xs : List PV} {H' : HH} {P : HH → Prop} (U : kQ a (.lst xs) (.lst (xs.set k.toNat v)) H H') (h0 : 0 ≤ k) (hk : k < 2 ^ 63) (hn : k < xs.length) (h : P H') : uB W n H (.ref a) (.int k) v P := fun A G s cv co ci R hr vv vo vi => by
 have e0 : co = .ref a := by exact vo
 obtain ⟨t, e2⟩ : ∃ t, ci = .int k t := by exact vi
 obtain ⟨vs, m, e1, ho, rs⟩ := hr.slot _ _ U.there
 subst e0; subst e2
 refine rV e1 h0 hk (by rw [rs.length]; exact hn) fun m' hm' => ?_
 obtain ⟨y, e⟩ := hr.updL (tk := s.toks) U hm' (rs.set vv)
 exact ⟨G, H', e, y, h⟩
theorem sC {a : Addr} {v : PV} {xs : List PV} {H' : HH} (U : kQ a (.lst xs) (.lst (xs ++ [v])) H H') (hn : xs.length ≤ sizeLine) (h : Q .none H') : mP W n H (fun vs => call (.builtin "list.append") vs) [.ref a, v] Q := fun A G s vs R hr hv => by
 obtain ⟨co, _, rfl, vo, cv, _, rfl, vv, rfl⟩ := hv
 have e0 : co = .ref a := by exact vo
 subst e0
 obtain ⟨vs, m, e1, ho, rs⟩ := hr.slot _ _ U.there
 refine hW F.slot_list_append ⟨_, e1, rfl⟩ F.entry_list_append (F.args_list_append_2 _ _) (PySem.list_append a vs.toArray m cv (by rw [aH, rs.length]; exact hn)) ⟨e1, ?_⟩
 obtain ⟨m', hm'⟩ := rz vs m (·.push cv)
 have hm2 : bZ (·.push cv) (lK vs m) = lK (vs ++ [cv]) m' := by rw [hm']; simp
 have hfin := cA (h := s.heap) (bZ (·.push cv)) e1 (by rw [hm2]; rfl)
 rw [hm2] at hfin
 obtain ⟨y, e⟩ := hr.updL (tk := s.toks) U hfin (rs.append (j0.one vv))
 exact ⟨G, .none, H', e, y, by wtm_at "rv", h⟩
end
section
variable {α : Type}
noncomputable def Dk (f : α → PV) (d : List (Int × α)) : List (PV × PV) := d.map fun p => (PV.int p.1, f p.2)
noncomputable def jB (d : List (Int × α)) (k : Int) : Option α := (d.find? fun p => p.1 = k).map (·.2)
noncomputable def dset (d : List (Int × α)) (k : Int) (x : α) : List (Int × α) := if d.any (fun p => p.1 = k) then d.map (fun p => if p.1 = k then (p.1, x) else p) else d ++ [(k, x)]
noncomputable def KV (W : Wd) (G : Gh) (f : α → PV) : List (Int × α) → List (Int × Value) → Prop
 | [], kvs => kvs = []
 | p :: d, kvs => ∃ v r, kvs = (p.1, v) :: r ∧ RV W G (f p.2) v ∧ KV W G f d r
variable {W : Wd} {G : Gh} {f : α → PV}
theorem KV.keys : ∀ {d : List (Int × α)} {kvs}, KV W G f d kvs → kvs.map ai = d.map ai
 | [], kvs, h => by rw [h]; rfl
 | p :: d, kvs, h => by
  obtain ⟨v, r, e, _, h2⟩ := h
  rw [e, aC, aC, KV.keys h2]
theorem KV.length {d : List (Int × α)} {kvs} (h : KV W G f d kvs) : kvs.length = d.length := by
 have := congrArg eI h.keys
 simpa using this
theorem KV.valueAt : ∀ {d : List (Int × α)} {kvs}, KV W G f d kvs → ∀ k, (jB d k = none → valueAt kvs k = none) ∧ ∀ x, jB d k = some x → ∃ v, valueAt kvs k = some v ∧ RV W G (f x) v
 | [], kvs, h, k => by subst h; exact ⟨fun _ => rfl, fun x e => by cases e⟩
 | p :: d, kvs, h, k => by
  obtain ⟨v, r, e, h1, h2⟩ := h
  subst e
  obtain ⟨i1, i2⟩ := KV.valueAt h2 k
  unfold jB PySem.valueAt at *
  by_cases hk : p.1 = k
  ·refine ⟨fun e => ?_, fun x e => ⟨v, ?_, ?_⟩⟩
   ·simp [dm, hk] at e
   ·simp [dm, hk]
   ·simp [dm, hk] at e; subst e; exact h1
  ·rw [ba (by simpa using hk), ba (by simpa using hk)]
   exact ⟨i1, i2⟩
theorem KV.append : ∀ {d e : List (Int × α)} {kvs lvs}, KV W G f d kvs → KV W G f e lvs → KV W G f (d ++ e) (kvs ++ lvs)
 | [], e, kvs, lvs, h, h' => by subst h; exact h'
 | p :: d, e, kvs, lvs, h, h' => by
  obtain ⟨v, r, e', h1, h2⟩ := h
  subst e'
  simp only [eu, KV]
  exact ⟨v, _, rfl, h1, KV.append h2 h'⟩
theorem KV.mapSet : ∀ {d : List (Int × α)} {kvs}, KV W G f d kvs → ∀ {k : Int} {x : α} {v : Value}, RV W G (f x) v → KV W G f (d.map (fun p => if p.1 = k then (p.1, x) else p)) (kvs.map fun kv => if kv.1 = k then (kv.1, v) else kv)
 | [], kvs, h, k, x, v, hv => by subst h; simp [KV]
 | p :: d, kvs, h, k, x, v, hv => by
  obtain ⟨u, r, e', h1, h2⟩ := h
  subst e'
  simp only [aC, KV]
  by_cases hk : p.1 = k
  ·exact ⟨v, _, by rw [if_pos hk, if_pos hk], by rw [if_pos hk]; exact hv, KV.mapSet h2 hv⟩
  ·exact ⟨u, _, by rw [if_neg hk, if_neg hk], by rw [if_neg hk]; exact h1, KV.mapSet h2 hv⟩
theorem KV.stored {d : List (Int × α)} {kvs} (h : KV W G f d kvs) {k : Int} {x : α} {v : Value} (hv : RV W G (f x) v) : KV W G f (dset d k x) (stored kvs k v) := by
 have he : kvs.any (fun kv => decide (kv.1 = k)) = d.any (fun p => decide (p.1 = k)) := by
  have := congrArg (fun l => l.any fun i => decide (i = k)) h.keys
  simp only [List.any_map] at this
  exact this
 unfold dset jl
 rw [he]
 split
 ·exact h.mapSet hv
 ·exact h.append (⟨v, [], rfl, hv, rfl⟩)
theorem AE : ∀ {d : List (Int × α)} {ds : List DictEntry}, oO W G (Dk f d) ds → ∃ kvs, KV W G f d kvs ∧ Pairs (intKind W.prog W.w) ds kvs ∧ (∀ e ∈ ds, ∃ k : Int, (intKind W.prog W.w).is k e.key = true ∧ e.hash = (intKind W.prog W.w).hash k)
 | [], ds, h => by
  simp only [Dk, cZ, oO] at h
  subst h; exact ⟨[], rfl, .nil, fun e he => by cases he⟩
 | p :: d, ds, h => by
  simp only [Dk, aC, oO] at h
  obtain ⟨e, r, e', hh, h1, h2, h3⟩ := h
  obtain ⟨kvs, k1, k2, k3⟩ := AE (d := d) h3
  obtain ⟨t, ht⟩ : ∃ t, e.key = .int p.1 t := by exact h1
  subst e'
  have hi : (intKind W.prog W.w).is p.1 e.key = true := by rw [ht]; exact dB _ _ _ _
  refine ⟨(p.1, e.val) :: kvs, ⟨_, _, rfl, h2, k1⟩, .cons hi rfl k2, fun e' he => ?_⟩
  rcases au.mp he with rfl | he
  ·exact ⟨p.1, hi, by rw [hh]; rfl⟩
  ·exact k3 e' he
theorem AF : ∀ {d : List (Int × α)} {kvs} {ds : List DictEntry}, KV W G f d kvs → Pairs (intKind W.prog W.w) ds kvs → (∀ e ∈ ds, ∃ k : Int, (intKind W.prog W.w).is k e.key = true ∧ e.hash = (intKind W.prog W.w).hash k) → oO W G (Dk f d) ds
 | [], kvs, ds, h, hp, hk => by
  subst h; cases hp; simp [Dk, oO]
 | p :: d, kvs, ds, h, hp, hk => by
  obtain ⟨v, r, e, h1, h2⟩ := h
  subst e
  cases hp with
  | @cons e _ es _ q1 q2 q3 =>
   simp only [Dk, aC, oO]
   obtain ⟨t, ht⟩ := fN q1
   refine ⟨e, es, rfl, ?_, by exact ⟨t, ht⟩, by rw [q2]; exact h1, AF h2 q3 fun e' he => hk e' (.tail _ he)⟩
   obtain ⟨k, k1, k2⟩ := hk e (.head _)
   have : k = p.1 := (intKind W.prog W.w).inj _ _ _ k1 q1
   rw [k2, this]; rfl
theorem qm {d : List (Int × α)} : ((Dk f d).map ai).Nodup ↔ (d.map ai).Nodup := by
 have : (Dk f d).map ai = (d.map ai).map PV.int := by simp [Dk, aX, cK]
 rw [this]
 unfold gk
 rw [bU]
 exact ⟨fun h => h.imp fun q e => q (congrArg _ e), fun h => h.imp fun q e => q (PV.int.inj e)⟩
theorem kc {h : Heap} {a : Addr} {d : List (Int × α)} {ds : List DictEntry} {m : Nat} (e : h.get? a = some (nU ds m)) (nd : ((Dk f d).map ai).Nodup) (r : oO W G (Dk f d) ds) : ∃ kvs, KV W G f d kvs ∧ h.DictOf (intKind W.prog W.w) a kvs := by
 obtain ⟨kvs, k1, k2, k3⟩ := AE r
 exact ⟨kvs, k1, _, ds.toArray, m, e, ⟨rfl, rfl, rfl⟩, rfl, fun e he => k3 e (by simpa using he), by simpa using k2, by rw [show (kvs.map fun x => x.1) = kvs.map ai from rfl, k1.keys]; exact qm.mp nd⟩
theorem t7 {h : Heap} {a : Addr} {d : List (Int × α)} {kvs} (k : KV W G f d kvs) (x : h.DictOf (intKind W.prog W.w) a kvs) : ∃ ds m, h.get? a = some (nU ds m) ∧ ((Dk f d).map ai).Nodup ∧ oO W G (Dk f d) ds := by
 obtain ⟨o, es, ep, ho, ⟨h1, h2, h3⟩, hd, hk, hp, hn⟩ := x
 refine ⟨es.toList, ep, ?_, qm.mpr (by rw [← k.keys]; exact hn), AF k hp fun e he => hk e (by simpa using he)⟩
 rw [ho]
 obtain ⟨c, dd, dt, sl⟩ := o
 simp only at h1 h2 h3 hd
 subst h1; subst h2; subst h3; subst hd
 rfl
end
section
variable {W : Wd} {n : Nat} {r : jt} {H : HH} {Q : CV} {α : Type} {f : α → PV}
theorem rA {G : Gh} {k : Int} {v : Value} (h : RV W G (.int k) v) : ∃ t, v = .int k t := by exact h
theorem my {po : PV} {k : Int} {d : List (Int × α)} {x : α} (w : Vw H po (.dct (Dk f d))) (hx : jB d k = some x) (h : Q (f x) H) : oP W n H po (.int k) Q := fun A G s co ci R hr v1 v2 => by
 obtain ⟨a, ds, m, e, e1, ⟨hs, nd⟩, rs⟩ := w.dctAt hr v1
 obtain ⟨t, e2⟩ := rA v2
 subst e; subst e2
 obtain ⟨kvs, k1, k2⟩ := kc e1 nd rs
 obtain ⟨v, q1, q2⟩ := (k1.valueAt k).2 x hx
 exact ⟨⟨_, _, k2.typeIs, slot_dict_getitem.lookup⟩, wpAny_getItem_of (dB _ _ _ _) k2.mapOf q1 (og hr q2 h)⟩
theorem Ez {po : PV} {k : Int} {d : List (Int × α)} (w : Vw H po (.dct (Dk f d))) (h : Q (.bool (jB d k).isSome) H) : lC W n H (compareOp .In) (.int k) po Q := fun A G s ci co R hr v2 v1 => by
 obtain ⟨a, ds, m, e, e1, ⟨hs, nd⟩, rs⟩ := w.dctAt hr v1
 obtain ⟨t, e2⟩ := rA v2
 subst e; subst e2
 obtain ⟨kvs, k1, k2⟩ := kc e1 nd rs
 have : (valueAt kvs k).isSome = (jB d k).isSome := by
  obtain ⟨i1, i2⟩ := k1.valueAt k
  cases q : jB d k with
  | none => rw [i1 q]; rfl
  | some x => obtain ⟨v, q1, _⟩ := i2 x q; rw [q1]; rfl
 exact wpAny_in_of (dB _ _ _ _) hs k2.mapOf (og hr (by rw [this]; simp [RV]) h)
theorem AG {po : PV} {k : Int} {d : List (Int × α)} (w : Vw H po (.dct (Dk f d))) (h : Q (match jB d k with | some x => f x | none => .none) H) : mP W n H (fun vs => call (.builtin "dict.get") vs) [po, .int k] Q := fun A G s vs R hr hv => by
 obtain ⟨co, _, rfl, v1, ci, _, rfl, v2, rfl⟩ := hv
 obtain ⟨a, ds, m, e, e1, ⟨hs, nd⟩, rs⟩ := w.dctAt hr v1
 obtain ⟨t, e2⟩ := rA v2
 subst e; subst e2
 obtain ⟨kvs, k1, k2⟩ := kc e1 nd rs
 refine call_meetsIn gw k2.typeIs iC (F.args_dict_get_2 _ _) (meets_dict_get _ a (dB _ _ k t) hs) ⟨_, k2.mapOf, ?_⟩
 obtain ⟨i1, i2⟩ := k1.valueAt k
 cases q : jB d k with
 | none => rw [q] at h; rw [i1 q]; exact og hr (by wtm_at "rv") h
 | some x => rw [q] at h; obtain ⟨v, q1, q2⟩ := i2 x q; rw [q1]; exact og hr q2 h
theorem yL {po pd : PV} {k : Int} {d : List (Int × α)} (w : Vw H po (.dct (Dk f d))) (h : Q (match jB d k with | some x => f x | none => pd) H) : mP W n H (fun vs => call (.builtin "dict.get") vs) [po, .int k, pd] Q := fun A G s vs R hr hv => by
 obtain ⟨co, _, rfl, v1, ci, _, rfl, v2, cd, _, rfl, v3, rfl⟩ := hv
 obtain ⟨a, ds, m, e, e1, ⟨hs, nd⟩, rs⟩ := w.dctAt hr v1
 obtain ⟨t, e2⟩ := rA v2
 subst e; subst e2
 obtain ⟨kvs, k1, k2⟩ := kc e1 nd rs
 refine call_meetsIn gw k2.typeIs iC (F.args_dict_get_3 _ _ _) (meets_dict_get_default _ a (dB _ _ k t) hs cd) ⟨_, k2.mapOf, ?_⟩
 obtain ⟨i1, i2⟩ := k1.valueAt k
 cases q : jB d k with
 | none => rw [q] at h; rw [i1 q]; exact og hr v3 h
 | some x => rw [q] at h; obtain ⟨v, q1, q2⟩ := i2 x q; rw [q1]; exact og hr q2 h
theorem AH {po : PV} {d : List (Int × α)} (w : Vw H po (.dct (Dk f d))) (hl : d.length ≤ sizeLine) (h : Q (.int d.length) H) : mP W n H (fun vs => call (.builtin "len") vs) [po] Q := fun A G s vs R hr hv => by
 obtain ⟨co, _, rfl, v1, rfl⟩ := hv
 obtain ⟨a, ds, m, e, e1, ⟨hs, nd⟩, rs⟩ := w.dctAt hr v1
 subst e
 obtain ⟨kvs, k1, k2⟩ := kc e1 nd rs
 have hz : sizeLine = 16777216 := rfl
 exact call_len_dict hs k2 (by rw [k1.length]; lia) (og hr (by rw [k1.length]; simp [RV]) h)
theorem sD {po : PV} {xs : List PV} (w : Vw H po (.lst xs)) (hl : xs.length ≤ sizeLine) (h : Q (.int xs.length) H) : mP W n H (fun vs => call (.builtin "len") vs) [po] Q := fun A G s vs R hr hv => by
 obtain ⟨co, _, rfl, v1, rfl⟩ := hv
 obtain ⟨a, ds, m, e, e1, rs⟩ := w.lstAt hr v1
 subst e
 have hz : sizeLine = 16777216 := rfl
 exact call_len_list (js e1) (by rw [aH, rs.length]; lia) (og hr (by rw [aH, rs.length]; simp [RV]) h)
theorem HR.updD {G H H' a es fs} {s : Shared} {h' : Heap} {ds : List DictEntry} {m tk : Nat} (x : HR W G H s) (U : kQ a (.dct es) (.dct fs) H H') (hs : dX a s.heap h') (e : h'.get? a = some (nU ds m)) (nd : (fs.map ai).Nodup) (hv : oO W G fs ds) :
  HR W G H' { s with heap := h', toks := tk } ∧ kA [] G s G { s with heap := h', toks := tk } := by
 have ho := (x.slot _ _ U.there).own
 exact x.upd U (fun b ob q hb => (hs.2 b (fun z => hb (by subst z; exact ho))).trans q) ⟨ds, m, e, ho, nd, hv⟩ fun b hb => mu hs ⟨_, e⟩ hb
theorem kK {a : Addr} {k : Int} {v : PV} {x : α} {d : List (Int × α)} {H' : HH} {P : HH → Prop} (hv : v = f x) (U : kQ a (.dct (Dk f d)) (.dct (Dk f (dset d k x))) H H') (hl : d.length ≤ sizeLine) (h : P H') : uB W n H (.ref a) (.int k) v P := fun A G s cv co ci R hr vv vo vi => by
 have e0 : co = .ref a := by exact vo
 obtain ⟨t, e2⟩ := rA vi
 obtain ⟨ds, m, e1, ho, nd, rs⟩ := hr.slot _ _ U.there
 subst e0; subst e2; subst hv
 obtain ⟨kvs, k1, k2⟩ := kc e1 nd rs
 refine gV (dB _ _ _ _) k2 (fun h' hd hs => ?_) (by rw [k1.length]; exact hl)
 obtain ⟨ds', m', q1, q2, q3⟩ := t7 (k1.stored vv) hd
 obtain ⟨y, e⟩ := hr.updD (tk := s.toks + 1) U hs q1 q2 q3
 exact ⟨G, H', e, y, h⟩
theorem vy {pos} (h : ∀ a, Q (.ref a) ((a, .dct []) :: H)) : Ev W n r H (.Dict [] [] pos) Q := fun A env fa G s R hr f => by
 obtain ⟨x, e⟩ := hr.allocO (nU [] 0) (.dct []) (tk := s.toks) ⟨[], 0, aW _ rfl, if_pos rfl, i5, rfl⟩
 show wpAny _ _ (do standAt pos; dictDisplay []) _ _ _
 refine aj (cJ ?_)
 show wpAny _ _ (newDict) _ _ _
 exact aj (wpAny_alloc (aB ⟨_, .ref s.heap.objs.size, _, e, x, by wtm_at "rv", h _⟩))
end
section
variable {W : Wd} {n : Nat} {r : jt} {H : HH} {Q : CV}
theorem k5 {f : Value → Value → Sem Value} {i j : Int} (h : ∀ A G s t u, lg A n → HR W G H s → wpAny (model W.prog W.w) A (f (.int i t) (.int j u)) (Fin W Q G s) mO s) : lC W n H f (.int i) (.int j) Q := fun A G s u v R hr h1 h2 => by
 obtain ⟨t, e1⟩ := rA h1
 obtain ⟨t', e2⟩ := rA h2
 subst e1; subst e2
 exact h A G s t t' R hr
theorem rW {G} {s : Shared} {i : Int} {t tk} (x : HR W G H s) (h : Q (.int i) H) : Fin W Q G s (.int i t) { s with toks := tk } := og x (by wtm_at "rv") h
theorem ls {G} {s : Shared} {b} (x : HR W G H s) (h : Q (.bool b) H) : Fin W Q G s (.bool b) s := ss x (by wtm_at "rv") h
theorem AI {i j : Int} (h : Q (.int (i + j)) H) : lC W n H (binaryOp .Add) (.int i) (.int j) Q := k5 fun A G s t u R hr => by with_reducible refine PyProof.Rows.add_int ?_; exact rW hr h
theorem xI {i j : Int} (h : Q (.int (i + j)) H) : lC W n H (inplaceOp .Add) (.int i) (.int j) Q := k5 fun A G s t u R hr => by with_reducible refine PyProof.Rows.iadd_int ?_; exact rW hr h
theorem AJ {i j : Int} (h : Q (.int (i - j)) H) : lC W n H (binaryOp .Sub) (.int i) (.int j) Q := k5 fun A G s t u R hr => by with_reducible refine PyProof.Rows.sub_int ?_; exact rW hr h
theorem oU {i j : Int} (hj : j ≠ 0) (h : Q (.int (i.fmod j)) H) : lC W n H (binaryOp .Mod) (.int i) (.int j) Q := k5 fun A G s t u R hr => by with_reducible refine PyProof.Rows.mod_int hj ?_; exact rW hr h
theorem AK {i j : Int} (h : Q (.int (fm i j)) H) : lC W n H (binaryOp .BitAnd) (.int i) (.int j) Q := k5 fun A G s t u R hr => by with_reducible refine PyProof.Rows.and_int ?_; exact rW hr h
theorem DV {i j : Int} (h : Q (.int (eF i j)) H) : lC W n H (binaryOp .BitOr) (.int i) (.int j) Q := k5 fun A G s t u R hr => by with_reducible refine PyProof.Rows.or_int ?_; exact rW hr h
theorem AL {i j : Int} (hj : 0 ≤ j) (h : Q (.int (i.fdiv (2 ^ j.toNat))) H) : lC W n H (binaryOp .RShift) (.int i) (.int j) Q := k5 fun A G s t u R hr => by with_reducible refine PyProof.Rows.rshift_int hj ?_; exact rW hr h
theorem EA {i j : Int} (hj : 0 ≤ j) (hj2 : j ≤ 1000000) (hi : i.natAbs < 2 ^ 64) (h : Q (.int (i * 2 ^ j.toNat)) H) : lC W n H (binaryOp .LShift) (.int i) (.int j) Q := k5 fun A G s t u R hr => by with_reducible refine PyProof.Rows.lshift_int_small hj hj2 hi ?_; exact rW hr h
theorem qS {i j : Int} (hj : 0 ≤ j) (hj2 : j ≤ 1000000) (hi : i.natAbs < 2 ^ 64) (h : Q (.int (i ^ j.toNat)) H) : lC W n H (binaryOp .Pow) (.int i) (.int j) Q := k5 fun A G s t u R hr => by with_reducible refine PyProof.Rows.pow_int_small hj hj2 hi ?_; exact rW hr h
theorem lA {i j : Int} (hm : IntMulOk i j) (h : Q (.int (i * j)) H) : lC W n H (binaryOp .Mult) (.int i) (.int j) Q := k5 fun A G s t u R hr => by with_reducible refine PySem.P.mul_int ?_ hm; exact rW hr h
theorem uD {i j : Int} (hj : j ≠ 0) (hj2 : j.natAbs < 1073741824) (h : Q (.int (i.fdiv j)) H) : lC W n H (binaryOp .FloorDiv) (.int i) (.int j) Q := k5 fun A G s t u R hr => by with_reducible refine PyProof.Rows.floordiv_int hj ?_ (.inl (PyProof.noPylong_small hj2)); exact rW hr h
theorem DW {i : Int} (h : Q (.int (-i)) H) : FJ W n H (unaryOp .USub) (.int i) Q := fun A G s v R hr h1 => by
 obtain ⟨t, e1⟩ := rA h1
 subst e1
 with_reducible refine PySem.P.neg_int ?_
 exact rW hr h
theorem DX {i j : Int} (h : Q (.bool (decide (i = j))) H) : lC W n H (compareOp .Eq) (.int i) (.int j) Q := k5 fun A G s t u R hr => by
 with_reducible refine PySem.P.eq_int ?_
 have : (i == j) = decide (i = j) := by by_cases q : i = j <;> simp [q]
 rw [this]; exact ls hr h
theorem DY {i j : Int} (h : Q (.bool (decide (i ≠ j))) H) : lC W n H (compareOp .NotEq) (.int i) (.int j) Q := k5 fun A G s t u R hr => by
 with_reducible refine PySem.P.ne_int ?_
 have : decide (i ≠ j) = (i != j) := by by_cases q : i = j <;> simp [q]
 rw [← this]; exact ls hr h
theorem DZ {i j : Int} (h : Q (.bool (decide (i < j))) H) : lC W n H (compareOp .Lt) (.int i) (.int j) Q := k5 fun A G s t u R hr => by with_reducible refine gF ?_; exact ls hr h
theorem D0 {i j : Int} (h : Q (.bool (decide (i ≤ j))) H) : lC W n H (compareOp .LtE) (.int i) (.int j) Q := k5 fun A G s t u R hr => by with_reducible refine PySem.P.le_int ?_; exact ls hr h
theorem D1 {i j : Int} (h : Q (.bool (decide (i > j))) H) : lC W n H (compareOp .Gt) (.int i) (.int j) Q := k5 fun A G s t u R hr => by with_reducible refine PySem.P.gt_int ?_; exact ls hr h
theorem D3 {i j : Int} (h : Q (.bool (decide (i ≥ j))) H) : lC W n H (compareOp .GtE) (.int i) (.int j) Q := k5 fun A G s t u R hr => by with_reducible refine PySem.P.ge_int ?_; exact ls hr h
noncomputable def isNone : PV → Bool
 | .none => true
 | _ => false
theorem sE {G : Gh} {p : PV} {v : Value} (h : RV W G p v) : (v == eA) = isNone p := by
 cases p with
 | none => subst h; rfl
 | bool b => subst h; rfl
 | int i => obtain ⟨t, e⟩ := h; subst e; rfl
 | str i => obtain ⟨t, e⟩ := h; subst e; rfl
 | tup xs => obtain ⟨a, _, e, _⟩ := h; subst e; rfl
 | lst xs => obtain ⟨a, _, _, e, _⟩ := h; subst e; rfl
 | dct xs => obtain ⟨a, _, _, e, _⟩ := h; subst e; rfl
 | ins c xs => obtain ⟨a, _, _, _, _, e, _⟩ := h; subst e; rfl
 | rng x y => obtain ⟨a, _, _, _, e, _⟩ := h; subst e; rfl
 | ref a => subst h; rfl
theorem HG {p : PV} (h : Q (.bool (isNone p)) H) : lC W n H (compareOp .Is) p .none Q := fun A G s u v R hr h1 h2 => by
 have : v = .none := by exact h2
 subst this
 show wpAny _ A (do return Value.bool (← isSame u .none)) _ _ s
 rw [isSame_none, sE h1]
 exact aj (aB (aB (ls hr h)))
theorem CD {p : PV} (h : Q (.bool (!isNone p)) H) : lC W n H (compareOp .IsNot) p .none Q := fun A G s u v R hr h1 h2 => by
 have : v = .none := by exact h2
 subst this
 show wpAny _ A (do return Value.bool (!(← isSame u .none))) _ _ s
 rw [isSame_none, sE h1]
 exact aj (aB (aB (ls hr h)))
theorem wp_release {M A E s vs keep} {P : Unit → Shared → Prop} (h : P () s) : wpAny M A (release vs keep) P E s := fun Γ p _ => by rw [Sem.wp_release]; exact h
theorem wp_operate {M A E s vs} {m : Sem Value} {P : Value → Shared → Prop} (h : wpAny M A m P E s) : wpAny M A (operate vs m) P E s := fun Γ p hΓ => by rw [Sem.wp_operate]; exact h Γ p hΓ
theorem CE {l op1 m op2 e pos} {Q : CB}
  (h : Ev W n r H l fun a H1 => Ev W n r H1 m fun b H2 => lC W n H2 (compareOp op1) a b fun c H3 => Ak W n H3 c fun t H4 => jC t (Ev W n r H4 e fun d H5 => lC W n H5 (compareOp op2) b d fun c' H6 => Ak W n H6 c' Q) (Q false H4))
  (hm : autoParam (behindInMarks op2 e = false) aR) : Tv W n r H (.Compare l [op1, op2] [m, e] pos) Q := fun A env fa G s R hr f => by
 show wpAny _ _ (do testChain pos (← eval l env) [op1, op2] (markedEach [op1, op2] [m, e] (evalEach [m, e] env))) _ _ _
 refine aj (ay (h A env fa G s R hr f) (fun va s1 h1 => ?_) fun _ _ x => x)
 obtain ⟨G1, a, H1, e1, r1, v1, q1⟩ := h1
 show wpAny _ _ (testChain pos va [op1, op2] [eval m env, markedBehindIn op2 e (eval e env)]) _ _ _
 rw [markedBehindIn_of_false hm]
 ·refine aj (bv (ay (q1 A env fa G1 s1 R r1 (f.ext e1)) (fun vb s2 h2 => ?_) fun _ _ x => x))
  obtain ⟨G2, b, H2, e2, r2, v2, q2⟩ := h2
  refine aj (cJ (aj (bv (ay (q2 A G2 s2 va vb R r2 (e2.rv v1) v2) (fun vc s3 h3 => ?_) fun _ _ x => x))))
  obtain ⟨G3, c, H3, e3, r3, v3, q3⟩ := h3
  refine aj (wp_release ?_)
  refine aj (bv (ay (q3 A G3 s3 vc R r3 v3) (fun t s4 h4 => ?_) fun _ _ x => x))
  obtain ⟨G4, H4, e4, r4, q4⟩ := h4
  have e14 := ((e1.trans e2).trans e3).trans e4
  cases t with
  | false => exact aB ⟨G4, H4, e14, r4, q4.2 rfl⟩
  | true =>
   show wpAny _ _ (testChain pos vb [op2] [eval e env]) _ _ _
   refine aj (bv (ay (q4.1 rfl A env fa G4 s4 R r4 (f.ext e14)) (fun vd s5 h5 => ?_) fun _ _ x => x))
   obtain ⟨G5, d, H5, e5, r5, v5, q5⟩ := h5
   refine aj (cJ (aj (wp_operate ?_)))
   refine ay (q5 A G5 s5 vb vd R r5 (e5.rv (e4.rv (e3.rv v2))) v5) (fun vc' s6 h6 => ?_) fun _ _ x => x
   obtain ⟨G6, c', H6, e6, r6, v6, q6⟩ := h6
   exact bv (ay (q6 A G6 s6 vc' R r6 v6) (fun t s7 h7 => ((h7.trans e6).trans e5).trans e14) fun _ _ x => x)
end
theorem vz {α β : Type} {f g : α → Option β} : ∀ {l : List α}, (∀ a ∈ l, f a = g a) → l.filterMap f = l.filterMap g
 | [], _ => rfl
 | a :: l, h => by rw [eS, eS, h a (.head _), vz fun b hb => h b (.tail _ hb)]
theorem oJ {n : Str} : ∀ {ns : List Str} {vs : List Value}, n ∉ ns → (ns.zip vs).lookup n = none
 | [], _, _ => rfl
 | m :: ns, [], _ => rfl
 | m :: ns, v :: vs, h => by
  rw [dg, dH]
  have : (n == m) = false := beq_eq_false_iff_ne.mpr fun e => h (e ▸ .head _)
  rw [this]; exact oJ fun e => h (.tail _ e)
theorem mn : ∀ {ns : List Str} {vs : List Value}, ns.Nodup → vs.length = ns.length → ns.filterMap (fun n => ((ns.zip vs).lookup n).map (n, ·)) = ns.zip vs
 | [], vs, _, _ => by simp
 | n :: ns, [], _, h => by simp at h
 | n :: ns, v :: vs, hn, h => by
  rw [aY] at hn
  have ih := mn (ns := ns) (vs := vs) hn.2 (by simpa using h)
  rw [eS]
  simp only [dg, dH, beq_self_eq_true, gx]
  congr 1
  refine (vz fun m hm => ?_).trans ih
  have : (m == n) = false := beq_eq_false_iff_ne.mpr fun e => hn.1 (e ▸ hm)
  rw [this]
theorem pW : ∀ {ns : List Str} {vs : List Value}, vs.length = ns.length → ∀ n ∈ ns, ((ns.zip vs).lookup n).isSome = true
 | [], _, _, n, h => by cases h
 | m :: ns, [], h, _, _ => by simp at h
 | m :: ns, v :: vs, h, n, hn => by
  rw [dg, dH]
  cases e : n == m with
  | true => rfl
  | false =>
   rcases au.mp hn with rfl | hn
   ·simp at e
   ·exact pW (by simpa using h) n hn
theorem rB {ns : List Str} {vs : List Value} (hl : vs.length = ns.length) : (ns.filter fun n => ((ns.zip vs).lookup n).isNone) = [] := by
 rw [cx]
 intro n hn'
 have := pW hl n hn'
 rw [cP]
 intro q; rw [q] at this; cases this
theorem tN {α β : Type} {M : Model} {A : Around} {E : Value → Shared → Prop} {s : Shared} {l : List α} {i : β} {f : α → β → Sem (ForInStep β)} {g : β → α → β} {Q : β → Shared → Prop} (e : ∀ x r, f x r = pure (.yield (g r x))) (h : Q (l.foldl g i) s) : wpAny M A (forIn l i f) Q E s := by
 induction l generalizing i with
 | nil => exact aB h
 | cons x l ih =>
  rw [eL, e]
  exact aj (aB (ih h))
noncomputable def pX (N : List Str) (vals D : List Value) : List (Str × Value) := (List.zip (iD (N.length - (D.drop (D.length - N.length)).length) N) (D.drop (D.length - N.length))).foldl (fun S (x : Str × Value) => if (S.lookup x.1).isNone = true then S ++ [(x.1, x.2)] else S) (N.zip vals)
theorem sF {s : Shared} {fd : FuncData} {N : List Str} {ps : List Arg} {vals D : List Value} {es : List Expr} {bs : List (Str × Value)} (hp : fd.params = ⟨[], ps, none, [], [], none, es⟩) (hN : ps.map (·.arg) = N)
  (hd : ∀ {M : Model} {A : Around} {E : Value → Shared → Prop} {Q : Option (Array Value) → Shared → Prop}, (∀ o, (o.getD #[]).toList = D → Q o s) → wpAny M A (seqItems? fd.defaults) Q E s) (hl : vals.length ≤ N.length)
  (hm : (iE (N.length - (D.drop (D.length - N.length)).length) N).filter (fun n => ((N.zip vals).lookup n).isNone) = [])
  (hz : N.filterMap (fun n => ((pX N vals D).lookup n).map (n, ·)) = bs) : BindsTo s fd ⟨vals, []⟩ bs := by
 intro M A E Q hQ
 subst hN
 unfold bindArgs
 rw [hp]
 refine aj (aB (aj (hd fun o ho => ?_)))
 subst ho
 refine bM (decide_eq_false fun q => absurd (of_decide_eq_true (cq.mp q).1) (dP.mpr hl)) ?_
 refine bM (decide_eq_false fun q => fX ((congrArg (fun l => !List.isEmpty l) hm).symm.trans q)) ?_
 refine aj (tN (g := fun S (x : Str × Value) => if (S.lookup x.1).isNone = true then S ++ [(x.1, x.2)] else S) (fun x r => ?_) ?_)
 ·show (if (r.lookup x.1).isNone = true then _ else _) = _
  split <;> rfl
 refine aj (aB ?_)
 refine bM rfl (aB ?_)
 show Q (i6 (fun n => i7 (fun x => (n, x)) (List.lookup n (pX (ps.map (·.arg)) vals _))) (ps.map (·.arg) ++ [])) s
 rw [bl, hz]
 exact hQ
theorem qn {s : Shared} {da : Addr} {o : Obj} {dv : Value} {m : Nat} {d : Value} (hd : d = .ref da) (ho : s.heap.get? da = some o) (hod : o.data = .seq #[dv] m) {M : Model} {A : Around} {E : Value → Shared → Prop} {Q : Option (Array Value) → Shared → Prop} (h : ∀ o, (o.getD #[]).toList = [dv] → Q o s) : wpAny M A (seqItems? d) Q E s := by
 rw [hd]; exact cU ho hod (h _ rfl)
theorem wF {s : Shared} {fd : FuncData} {ps : List Arg} {vals : List Value} {es : List Expr} (hp : fd.params = ⟨[], ps, none, [], [], none, es⟩) (hd : fd.defaults = .none) (hn : (ps.map (·.arg)).Nodup) (hl : vals.length = ps.length) :
  BindsTo s fd ⟨vals, []⟩ ((ps.map (·.arg)).zip vals) := by
 generalize hN : ps.map (·.arg) = N at hn
 have hl' : vals.length = N.length := by rw [← hN, aa]; exact hl
 have e : iD (([] : List Value).length - N.length) ([] : List Value) = [] := List.drop_nil
 refine sF (D := []) hp hN (fun h => by rw [hd]; exact aB (h _ rfl)) (eX hl') ?_ ?_
 ·rw [e]; exact (congrArg _ aZ).trans (rB hl')
 ·unfold pX
  rw [e, List.zip_nil_right]
  exact mn hn hl'
theorem t8 {α : Type} {ns : List α} {x : α} {d : Value} : iD (([d] : List Value).length - (ns ++ [x]).length) [d] = [d] ∧ iE ((ns ++ [x]).length - ([d] : List Value).length) (ns ++ [x]) = ns ∧ iD ((ns ++ [x]).length - ([d] : List Value).length) (ns ++ [x]) = [x] := by
 refine ⟨?_, ?_, ?_⟩ <;> simp
theorem xJ {α : Type} {N : List α} (h : 0 < N.length) : ∃ ns x, N = ns ++ [x] := by
 rcases cB N with e | ⟨ns, x, e⟩
 ·rw [e] at h; cases h
 ·exact ⟨ns, x, by rw [e, cC]⟩
theorem yM {s : Shared} {fd : FuncData} {ps : List Arg} {vals : List Value} {es : List Expr} {da : Addr} {dv : Value} {m : Nat} {o : Obj} (hp : fd.params = ⟨[], ps, none, [], [], none, es⟩) (hd : fd.defaults = .ref da) (ho : s.heap.get? da = some o) (hod : o.data = .seq #[dv] m)
  (hn : (ps.map (·.arg)).Nodup) (hl : vals.length + 1 = ps.length) : BindsTo s fd ⟨vals, []⟩ ((ps.map (·.arg)).zip (vals ++ [dv])) := by
 generalize hN : ps.map (·.arg) = N at hn
 have hl' : vals.length + 1 = N.length := by rw [← hN, aa]; exact hl
 obtain ⟨ns, x, rfl⟩ := xJ (N := N) (by rw [← hl']; exact Nat.succ_pos _)
 have hl2 : vals.length = ns.length := ii (hl'.trans cf)
 obtain ⟨hn1, _, hn2⟩ := dy.mp hn
 have hx : x ∉ ns := fun h => hn2 x h x (.head _) rfl
 have hz1 : (ns ++ [x]).zip vals = ns.zip vals := by
  have := gy (l₁ := ns) (r₁ := [x]) (l₂ := vals) (r₂ := []) hl2.symm
  rw [bl] at this; rw [this]; exact bl _
 obtain ⟨t1, t2, t3⟩ := t8 (ns := ns) (x := x) (d := dv)
 refine sF (D := [dv]) hp hN (fun h => qn hd ho hod h) (bj (cY _) (eX hl')) ?_ ?_
 ·rw [t1, t2, hz1]; exact rB hl2
 ·have hS : pX (ns ++ [x]) vals [dv] = (ns ++ [x]).zip (vals ++ [dv]) := by
   unfold pX
   rw [t1, t3, hz1, gy hl2.symm]
   show (if ((ns.zip vals).lookup x).isNone = true then _ else _) = _
   rw [oJ hx]; rfl
  rw [hS]
  exact mn hn (by rw [cf]; exact hl')
theorem yN {s : Shared} {fd : FuncData} {ps : List Arg} {vals : List Value} {es : List Expr} {da : Addr} {dv : Value} {m : Nat} {o : Obj} (hp : fd.params = ⟨[], ps, none, [], [], none, es⟩) (hd : fd.defaults = .ref da) (ho : s.heap.get? da = some o) (hod : o.data = .seq #[dv] m)
  (hn : (ps.map (·.arg)).Nodup) (hl : vals.length = ps.length) (hpos : 0 < ps.length) : BindsTo s fd ⟨vals, []⟩ ((ps.map (·.arg)).zip vals) := by
 generalize hN : ps.map (·.arg) = N at hn
 have hl' : vals.length = N.length := by rw [← hN, aa]; exact hl
 obtain ⟨ns, x, rfl⟩ := xJ (N := N) (by rw [← hl', hl]; exact hpos)
 have hs := pW hl'
 obtain ⟨t1, t2, t3⟩ := t8 (ns := ns) (x := x) (d := dv)
 refine sF (D := [dv]) hp hN (fun h => qn hd ho hod h) (eX hl') ?_ ?_
 ·rw [t1, t2, cx]
  intro a ha q
  have := hs a (bu _ ha)
  rw [cP.mp q] at this; cases this
 ·have hS : pX (ns ++ [x]) vals [dv] = (ns ++ [x]).zip vals := by
   unfold pX
   rw [t1, t3]
   show (if (((ns ++ [x]).zip vals).lookup x).isNone = true then _ else _) = _
   have := hs x (cz _ (.head _))
   cases q : ((ns ++ [x]).zip vals).lookup x with
   | none => rw [q] at this; cases this
   | some v => rfl
  rw [hS]
  exact mn hn hl'
theorem rC {kf : Str → Option NameKind} {x : Str} : ∀ {bs : List (Str × Value)} {m : Str → Option Value}, x ∉ bs.map ai → bindL kf bs m x = m x
 | [], _, _ => rfl
 | (y, v) :: bs, m, h => by
  rw [aC, au, not_or] at h
  unfold bindL
  rw [rC h.2]
  split
  ·exact if_neg h.1
  ·rfl
theorem rD {kf : Str → Option NameKind} {x : Str} : ∀ {bs : List (Str × Value)} {m : Str → Option Value}, x ∉ bs.map ai → bindC kf bs m x = m x
 | [], _, _ => rfl
 | (y, v) :: bs, m, h => by
  rw [aC, au, not_or] at h
  unfold bindC
  rw [rD h.2]
  split
  ·rfl
  ·exact if_neg h.1
theorem t9 {kf : Str → Option NameKind} {x : Str} {v : Value} (hk : kf x = some .local) : ∀ {bs : List (Str × Value)} {m : Str → Option Value}, (bs.map ai).Nodup → (x, v) ∈ bs → bindL kf bs m x = some v
 | (y, w) :: bs, m, hn, hm => by
  rw [aC, aY] at hn
  unfold bindL
  rcases au.mp hm with e | hm
  ·cases e
   rw [rC hn.1, if_pos hk]; exact if_pos rfl
  ·exact t9 hk hn.2 hm
theorem ua {kf : Str → Option NameKind} {x : Str} {v : Value} (hk : kf x = some .cell) : ∀ {bs : List (Str × Value)} {m : Str → Option Value}, (bs.map ai).Nodup → (x, v) ∈ bs → bindC kf bs m x = some v
 | (y, w) :: bs, m, hn, hm => by
  rw [aC, aY] at hn
  unfold bindC
  rcases au.mp hm with e | hm
  ·cases e
   rw [rD hn.1, if_neg (by rw [hk]; simp)]; exact if_pos rfl
  ·exact ua hk hn.2 hm
inductive lW : List (Str × NameKind) → List (Str × PV) → jt → Prop
 | nil {bs} : lW [] bs []
 | glb {x ns bs r} : lW ns bs r → lW ((x, .globalImplicit) :: ns) bs ((x, .glb) :: r)
 | parL {x ns bs r p} : (x, p) ∈ bs → lW ns bs r → lW ((x, .local) :: ns) bs ((x, .loc false (some p)) :: r)
 | parC {x ns bs r p} : (x, p) ∈ bs → lW ns bs r → lW ((x, .cell) :: ns) bs ((x, .loc true (some p)) :: r)
 | locL {x ns bs r} : lW ns bs r → lW ((x, .local) :: ns) bs ((x, .loc false none) :: r)
 | locC {x ns bs r} : lW ns bs r → lW ((x, .cell) :: ns) bs ((x, .loc true none) :: r)
theorem lW.keys {ns bs r} (h : lW ns bs r) : r.map ai = ns.map ai := by
 induction h with
 | nil => rfl
 | glb _ ih => simp only [aC, ih]
 | parL _ _ ih => simp only [aC, ih]
 | parC _ _ ih => simp only [aC, ih]
 | locL _ ih => simp only [aC, ih]
 | locC _ ih => simp only [aC, ih]
inductive uE (ns : List (Str × NameKind)) (bs : List (Str × PV)) (x : Str) (b : Bd) : Prop
 | g (e : b = .glb) (h : (x, fZ) ∈ ns)
 | l (c : Bool) (ov : Option PV) (e : b = .loc c ov) (k : (c = false ∧ (x, NameKind.local) ∈ ns) ∨ (c = true ∧ (x, fQ) ∈ ns)) (p : ∀ p, ov = some p → (x, p) ∈ bs)
theorem uE.tl {ns bs x b p} (h : uE ns bs x b) : uE (p :: ns) bs x b := by
 cases h with
 | g e h => exact .g e (.tail _ h)
 | l c ov e k q => exact .l c ov e (k.imp (fun h => ⟨h.1, .tail _ h.2⟩) (fun h => ⟨h.1, .tail _ h.2⟩)) q
theorem lW.mem {ns bs r} (h : lW ns bs r) {x b} (hm : (x, b) ∈ r) : uE ns bs x b := by
 induction h with
 | nil => cases hm
 | glb _ ih => cases hm with
  | head => exact .g rfl (.head _)
  | tail _ hm => exact (ih hm).tl
 | parL hb _ ih => cases hm with
  | head => exact .l _ _ rfl (.inl ⟨rfl, .head _⟩) fun p e => by cases e; exact hb
  | tail _ hm => exact (ih hm).tl
 | parC hb _ ih => cases hm with
  | head => exact .l _ _ rfl (.inr ⟨rfl, .head _⟩) fun p e => by cases e; exact hb
  | tail _ hm => exact (ih hm).tl
 | locL _ ih => cases hm with
  | head => exact .l _ _ rfl (.inl ⟨rfl, .head _⟩) nofun
  | tail _ hm => exact (ih hm).tl
 | locC _ ih => cases hm with
  | head => exact .l _ _ rfl (.inr ⟨rfl, .head _⟩) nofun
  | tail _ hm => exact (ih hm).tl
theorem jE {α : Type} {ns : List (Str × α)} (hn : (ns.map ai).Nodup) {x : Str} {k : α} (h : (x, k) ∈ ns) : ns.lookup x = some k := by
 induction ns with
 | nil => cases h
 | cons p r ih =>
  rw [aC, aY] at hn
  obtain ⟨y, k'⟩ := p
  rw [dH]
  rcases au.mp h with e | h'
  ·cases e; simp
  ·have : (x == y) = false := beq_eq_false_iff_ne.mpr fun e => hn.1 (az.mpr ⟨_, h', e⟩)
   rw [this]; exact ih hn.2 h'
theorem pY : ∀ (names : List (Str × NameKind)) (n : Nat) (acc : List (Str × Addr)), (names.map ai).Nodup → (acc.map ai).Nodup → (∀ x ∈ names.map ai, x ∉ acc.map ai) → ((cellsFrom n names acc).map ai).Nodup
 | [], n, acc, _, h, _ => h
 | (y, k) :: r, n, acc, h1, h2, h3 => by
  rw [aC, aY] at h1
  unfold cellsFrom
  split
  ·refine pY r (n + 1) _ h1.2 (by rw [aC, aY]; exact ⟨h3 y (.head _), h2⟩) fun x hx hq => ?_
   rw [aC] at hq
   rcases au.mp hq with e | hq
   ·exact h1.1 (e ▸ hx)
   ·exact h3 x (.tail _ hx) hq
  ·exact pY r n acc h1.2 h2 fun x hx => h3 x (.tail _ hx)
theorem rE {names : List (Str × NameKind)} {n : Nat} (h : (names.map ai).Nodup) : ((cellsFrom n names []).map ai).Nodup := pY names n [] h (by simp) (fun _ _ => by simp)
theorem wG {W G} : ∀ {ns : List Str} {ps : List PV} {vs : List Value}, j0 W G ps vs → ∀ {x p}, (x, p) ∈ ns.zip ps → ∃ v, (x, v) ∈ ns.zip vs ∧ RV W G p v
 | [], ps, vs, _, x, p, h => by simp at h
 | n :: ns, [], vs, _, x, p, h => by simp at h
 | n :: ns, q :: ps, vs, hv, x, p, h => by
  obtain ⟨v, r, e, h1, h2⟩ := hv
  subst e
  rw [dg] at h ⊢
  rcases au.mp h with e | h
  ·cases e; exact ⟨v, .head _, h1⟩
  ·obtain ⟨w, q1, q2⟩ := wG h2 h
   exact ⟨w, .tail _ q1, q2⟩
theorem ly : ∀ (names : List (Str × NameKind)) (n : Nat) (acc : List (Str × Addr)) {x : Str} {c : Addr}, (x, c) ∈ cellsFrom n names acc → (x, c) ∈ acc ∨ n ≤ c
 | [], n, acc, x, c, h => .inl h
 | (y, k) :: r, n, acc, x, c, h => by
  unfold cellsFrom at h
  split at h
  ·rcases ly r (n + 1) _ h with h | h
   ·rcases au.mp h with e | h
    ·cases e; exact .inr (aU _)
    ·exact .inl h
   ·exact .inr (by exact J0 9 h)
  ·exact ly r n acc h
noncomputable def vA (Q : CV) : jJ := fun fl _ H' => match fl with
 | .ret p => Q p H'
 | .next => Q .none H'
 | _ => False
theorem lg.deeper {A n env} (x : lg A (n + 1)) : lg (A.deeper env) n := ⟨x.hd, by have := x.depth; show A.depth + 1 + _ < _; exact J6 8 this, by have := x.units; show A.units + 3 + _ + _ < _; exact J13 18 this⟩
theorem qT {W : Wd} {n : Nat} {H : HH} {Q : CV} {f : Addr} {name qual : Str} {ps : List Arg} {es : List Expr} {body : List Stmt} {scope : Scope} {kV doc pm cdv ct oc : Value} {an od : Option Addr} {osl : Array (Option Value)} {dV : Value} {pvs pvs0 : List PV} {r0 : jt}
  (ho : W.K.lookup f = some ⟨oc, od, .func (fnX name qual ⟨[], ps, none, [], [], none, es⟩ body scope [] dV kV doc pm an cdv ct), osl⟩) (hcd : codeIn W.K cdv qual = true)
  (hn : (ps.map (·.arg)).Nodup) (hnn : (scope.names.map ai).Nodup) (hkd : ((ps.map (·.arg)).all fun y => scope.names.lookup y == some .local || scope.names.lookup y == some .cell) = true)
  (hl : pvs.length = ps.length)
  (hB : ∀ G s vs0, HR W G H s → j0 W G pvs0 vs0 → ∃ vs, j0 W G pvs vs ∧ BindsTo s (fnX name qual ⟨[], ps, none, [], [], none, es⟩ body scope [] dV kV doc pm an cdv ct) ⟨vs0, []⟩ ((ps.map (·.arg)).zip vs)) (hr0 : lW scope.names ((ps.map (·.arg)).zip pvs) r0) (h : lm W n r0 H body (vA Q))
  (hk : autoParam (scope.kind = .function) aF) (hco : autoParam (scope.isCoroutine = false) aF) (hgen : autoParam (scope.isGenerator = false) aF) :
  jZ W (n + 1) H (.ref f) pvs0 Q := fun A G s vs0 R hr hv0 => by
 obtain ⟨vs, hv, hbnd⟩ := hB G s vs0 hr hv0
 have hlv : vs.length = ps.length := by rw [hv.length, hl]
 have hcr := codeRec_of (W.inK.keeps hr.base) hcd
 refine codeAny_call_function R.dlt (hr.base _ _ (W.inK _ _ ho)) rfl hco hgen rfl hcr ?_
 refine hbnd _ _ _ _ ?_
 have hkk : ∀ n, ∀ x ∈ (ps.map (·.arg)).zip vs, scope.names.lookup x.1 = some .local ∨ (scope.names.lookup x.1 = some .cell ∧ ((cellsFrom n scope.names []).lookup x.1).isSome = true) :=
  kindsX (by
   rw [aV] at hkd ⊢
   intro x hx
   exact hkd x.1 (List.of_mem_zip hx).1)
 refine wpAny_newFunctionEnv_cells hk (hkk _) fun env he s' x => ?_
 subst he
 refine ⟨(W.nolimit.keeps hr.base).keeps x.toInCall.keep, codeAny_func ?_⟩
 obtain ⟨h₁, tk, rfl, hk1⟩ := x.done
 have hns := x.toInCall.ns
 have hsz : s.heap.objs.size < h₁.objs.size := bq hns.choose_spec.choose_spec.choose_spec.1
 have hns' : h₁.Ns s.heap.objs.size _ := hns
 have hr1 : HR W G H { s with heap := h₁, toks := tk } := hr.kept (dr := s.drawn) hk1
 have he1 : kA [] G s G { s with heap := h₁, toks := tk } := kA.kept (dr := s.drawn) hk1
 generalize hE : newEnv scope s.heap.objs.size mainGlobals (cellsFrom (s.heap.objs.size + 1) scope.names []) (qual ++ ".<locals>.") (some f) cdv none builtinsNs = env at *
 have hsc : env.scope = scope := by rw [← hE]; rfl
 have hL : env.locals = s.heap.objs.size := by rw [← hE]; rfl
 have hC : env.cells = cellsFrom (s.heap.objs.size + 1) scope.names [] := by rw [← hE]; rfl
 have hkof : ∀ y, env.kindOf y = scope.names.lookup y := fun y => by unfold Env.kindOf; rw [hsc]
 have hzk : ((ps.map (·.arg)).zip vs).map ai = ps.map (·.arg) := by
  rw [List.map_fst_zip]; simp [hlv]
 let fa : List Addr := env.locals :: env.cells.map bB
 have hfr : FR W env fa r0 G h₁ := by
  refine { kind := by rw [hsc]; exact hk, glo := by rw [← hE]; rfl, blt := by rw [← hE]; rfl, nodup := by rw [show (r0.map fun x => x.1) = r0.map ai from rfl, hr0.keys]; exact hnn, ns := ⟨_, hns, fun y yb v hy hkl => ?_⟩, glb := fun y hy => ?_, loc := fun y yb ov hy => ?_, fre := fun y w hy => ?_, locf := .head _, ownf := fun a ha => ?_, apart := fun y z c h1 h2 => ?_ }
  ·rcases hr0.mem hy with ⟨q, _⟩ | ⟨_, ov, q, _, hp⟩
   ·cases q
   ·cases q
    obtain ⟨cv, q1, q2⟩ := wG hv (hp v rfl)
    exact ⟨cv, t9 hkl (by rw [hzk]; exact hn) q1, q2⟩
  ·rcases hr0.mem hy with ⟨_, q⟩ | ⟨_, ov, q, _⟩
   ·rw [hkof]; exact jE hnn q
   ·cases q
  ·rcases hr0.mem hy with ⟨q, _⟩ | ⟨_, ov', q, hq, hp⟩
   ·cases q
   ·cases q
    rcases hq with ⟨hb, hq⟩ | ⟨hb, hq⟩
    ·left; refine ⟨hb, ?_⟩; rw [hkof]; exact jE hnn hq
    ·right
     have hkc : env.kindOf y = some .cell := by rw [hkof]; exact jE hnn hq
     have hsome : (env.cells.lookup y).isSome = true := by
      rw [hC]; exact cellsFrom_some _ _ _ (.inl (jE hnn hq))
     obtain ⟨c, hc⟩ := fR.mp hsome
     refine ⟨hb, hkc, c, _, hc, x.cell y c hc, .tail _ (aO (f := bB) (mem_of_lookup hc)), fun v e => ?_⟩
     obtain ⟨cv, q1, q2⟩ := wG hv (hp v e)
     exact ⟨cv, ua hkc (by rw [hzk]; exact hn) q1, q2⟩
  ·rcases hr0.mem hy with ⟨q, _⟩ | ⟨_, ov', q, _⟩ <;> cases q
  ·have hge : s.heap.objs.size ≤ a ∧ ld h₁ a := by
    rcases au.mp ha with e | ha
    ·rw [e, hL]; exact ⟨aU _, sv hns'⟩
    ·obtain ⟨⟨y, c⟩, hm, rfl⟩ := az.mp ha
     refine ⟨?_, ?_⟩
     ·rw [hC] at hm
      rcases ly _ _ _ hm with hm | hm
      ·cases hm
      ·exact bj (cY _) hm
     ·have hnd : (env.cells.map ai).Nodup := by
       rw [hC]; exact rE hnn
      exact nV (x.cell y c (jE hnd hm))
   exact ⟨hr.noOwn (ki hge.1), hr.noG (ki hge.1), hr.noB (ki hge.1), hge.2⟩
  ·exact name_of_addr x.apart (mem_of_lookup h1) (mem_of_lookup h2)
 refine ay (h (A.deeper env) env fa G _ R.deeper hr1 hfr) (fun fl s2 h2 => ?_) fun _ _ q => q.elim
 obtain ⟨G2, fl2, r2, H2, e2, hr2, f2, hfl, q2⟩ := h2
 have e3 : kA [] G s G2 s2 := by
  refine ⟨e2.gle, fun b hb => e2.own b (he1.there b hb), fun b hb => e2.gnew b (he1.there b hb), fun b o e ho _ => e2.keep b o (hk1 b o e) ho fun hf => ?_, fun b hb => e2.there b (he1.there b hb)⟩
  have := bq e
  rcases au.mp hf with q | hf
  ·rw [q, hL] at this; exact dq _ this
  ·obtain ⟨⟨y, c⟩, hm, rfl⟩ := az.mp hf
   rw [hC] at hm
   rcases ly _ _ _ hm with hm | hm
   ·cases hm
   ·exact absurd (cg this (bj (cY _) hm)) (dq _)
 cases fl2 with
 | next => cases hfl; exact ⟨_, rfl, G2, .none, H2, e3, hr2, by wtm_at "rv", q2⟩
 | brk => exact q2.elim
 | cont => exact q2.elim
 | ret p => obtain ⟨v, rfl, hv2⟩ := hfl; exact ⟨_, rfl, G2, p, H2, e3, hr2, hv2, q2⟩
theorem AM {W : Wd} {n : Nat} {H : HH} {Q : CV} {f : Addr} {name qual : Str} {ps : List Arg} {es : List Expr} {body : List Stmt} {scope : Scope} {kV doc pm cdv ct oc : Value} {an od : Option Addr} {osl : Array (Option Value)} {pvs : List PV} {r0 : jt}
  (ho : W.K.lookup f = some ⟨oc, od, .func (fnX name qual ⟨[], ps, none, [], [], none, es⟩ body scope [] .none kV doc pm an cdv ct), osl⟩) (hcd : codeIn W.K cdv qual = true)
  (hn : (ps.map (·.arg)).Nodup) (hnn : (scope.names.map ai).Nodup) (hkd : ((ps.map (·.arg)).all fun y => scope.names.lookup y == some .local || scope.names.lookup y == some .cell) = true)
  (hl : pvs.length = ps.length) (hr0 : lW scope.names ((ps.map (·.arg)).zip pvs) r0) (h : lm W n r0 H body (vA Q))
  (hk : autoParam (scope.kind = .function) aF) (hco : autoParam (scope.isCoroutine = false) aF) (hgen : autoParam (scope.isGenerator = false) aF) :
  jZ W (n + 1) H (.ref f) pvs Q :=
 qT ho hcd hn hnn hkd hl (fun G s vs hr hv => ⟨vs, hv, wF (s := s) rfl rfl hn (by rw [hv.length, hl])⟩) hr0 h hk hco hgen
section
variable {W : Wd} {n : Nat} {r : jt} {H : HH} {Q : CV}
theorem kM {M A E s env} {f : Value} {es : List Expr} {P : Args → Shared → Prop} (h : wpAny M A (spliced (pP es env)) (fun vs s' => P ⟨vs, []⟩ s') E s) : wpAny M A (evalArgs f true (pP es env) []) P E s := by
 cases es with
 | nil =>
  unfold evalArgs
  show wpAny M A (spliced [] >>= _) P E s
  refine aj (ay h (fun vs s' h' => ?_) fun _ _ x => x)
  refine aj (aB ?_)
  refine bv ?_
  exact aj (aB (aj (aB (aB h'))))
 | cons e es => exact Calls.evalArgs_plain h
noncomputable def EB (W : Wd) (x : Str) (f : Addr) : Prop := W.mg x = some (.ref f) ∧ ∃ o fd, W.B0.get? f = some o ∧ o.data = .func fd
noncomputable def HI (W : Wd) (f : Addr) : Prop := ∃ o fd, W.B0.get? f = some o ∧ o.data = .func fd
theorem mz {M A E s env} {x : Str} {p pos : Pos} {args : List Expr} {P : Value → Shared → Prop} (hs : args.all jG = true)
  (h : wpAny M A (eval (.Name x p) env) (fun f s₁ => wpAny M A (callWith pos f [] (pP args env) []) P E s₁) E s) : wpAny M A (eval (.Call (.Name x p) args [] pos) env) P E s :=
 PyProof.Rows.Call_Name (nW hs) h
noncomputable abbrev FO (W : Wd) (n : Nat) (f : Value) (Q : CV) : CL := fun ps H => jZ W n H f ps Q
noncomputable abbrev xK (W : Wd) (n : Nat) (f : Value) (Q : CV) : CL := fun ps H => mP W n H (fun vs => call f vs) ps Q
theorem vB {x p args pos f} (hm : (x, Bd.glb) ∈ r) (hf : EB W x f) (hs : args.all jG = true) (h : nT W n r H args (FO W n (.ref f) Q)) (hd : autoParam ((x == ("__debug__" : Str)) = false) aD) :
  Ev W n r H (.Call (.Name x p) args [] pos) Q := fun A env fa G s R hr fr => by
 obtain ⟨hmg, o, fd, hb, hfd⟩ := hf
 refine mz hs (pz hr fr hm hmg ?_ p hd)
 refine dT (o := o) (fd := fd) (kM (ay (h A env fa G s R hr fr) (fun vs s1 h1 => ?_) fun _ _ x => x))
 obtain ⟨G1, ps, H1, e1, r1, v1, q1⟩ := h1
 exact ⟨⟨r1.base _ _ hb, hfd⟩, ay (q1.toN A G1 s1 vs R r1 v1) (fun _ _ h => h.trans e1) fun _ _ x => x⟩
theorem nZ {x p args pos id} (hm : (x, Bd.glb) ∈ r) (hv : W.mg x = none) (hb : bootBuiltins x = some (.builtin id)) (hs : args.all jG = true) (h : nT W n r H args (xK W n (.builtin id) Q)) (hne : x ≠ "__name__") (hd : autoParam ((x == ("__debug__" : Str)) = false) aD) :
  Ev W n r H (.Call (.Name x p) args [] pos) Q := fun A env fa G s R hr fr => by
 refine mz hs (pV hr fr hm hv hb ?_ p hne hd)
 refine gl nX (kM (ay (h A env fa G s R hr fr) (fun vs s1 h1 => ?_) fun _ _ x => x))
 obtain ⟨G1, ps, H1, e1, r1, v1, q1⟩ := h1
 exact ay (q1 A G1 s1 vs R r1 v1) (fun _ _ h => h.trans e1) fun _ _ x => x
theorem n0 {x p args pos T} (hm : (x, Bd.glb) ∈ r) (hv : W.mg x = none) (hb : bootBuiltins x = some (.type T)) (hs : args.all jG = true) (h : nT W n r H args (xK W n (.type T) Q)) (hne : x ≠ "__name__") (hd : autoParam ((x == ("__debug__" : Str)) = false) aD) :
  Ev W n r H (.Call (.Name x p) args [] pos) Q := fun A env fa G s R hr fr => by
 refine mz hs (pV hr fr hm hv hb ?_ p hne hd)
 refine fo nX (kM (ay (h A env fa G s R hr fr) (fun vs s1 h1 => ?_) fun _ _ x => x))
 obtain ⟨G1, ps, H1, e1, r1, v1, q1⟩ := h1
 exact ay (q1 A G1 s1 vs R r1 v1) (fun _ _ h => h.trans e1) fun _ _ x => x
theorem sG {x p args pos C} (hm : (x, Bd.glb) ∈ r) (hmg : W.mg x = some (.ref C)) (hk : keepIn W.K (.ref C) = true) (hs : args.all jG = true) (h : nT W n r H args (FO W n (.ref C) Q)) (hd : autoParam ((x == ("__debug__" : Str)) = false) aD) :
  Ev W n r H (.Call (.Name x p) args [] pos) Q := fun A env fa G s R hr fr => by
 refine mz hs (pz hr fr hm hmg ?_ p hd)
 refine callWith_of (P := W.K.In) (by rw [nX]; rfl) (keeps_K hk) (kM (ay (h A env fa G s R hr fr) (fun vs s1 h1 => ?_) fun _ _ x => x))
 obtain ⟨G1, ps, H1, e1, r1, v1, q1⟩ := h1
 exact ⟨W.inK.keeps r1.base, ay (q1.toN A G1 s1 vs R r1 v1) (fun _ _ h => h.trans e1) fun _ _ x => x⟩
theorem qo {c : Str} {C fI : Addr} {ps : List PV} (hmg : W.mg c = some (.ref C)) (hm : makesIn W.K C = true) (hi : findIn W.K (.ref C) "__init__" = some (some (.ref fI))) (hf : typeIn W.K (.ref fI) = some (.type "function"))
  (h : ∀ a, jZ W n ((a, .ins c []) :: H) (.ref fI) (.ref a :: ps) fun p H1 => p = .none ∧ Q (.ref a) H1) : jZ W (n + 1) H (.ref C) ps Q := fun A G s vs R hr hv => by
 obtain ⟨hh, g, d, t, os⟩ := s
 have X := W.inK.keeps hr.base
 refine make_core (makes_of X hm) (looks_findIn X hi) (fun self => bind_fn X self hf) (.inl rfl) ?_
 have hnh : ¬ ld hh hh.objs.size := ki (aU _)
 have a1 : HR W (G.addO hh.objs.size (hh.objs.size + 1)) H ⟨hh.push emptyDict, g, d, t, os⟩ := by
  have hn := hr.noG hnh
  refine ⟨hr.bas, fun b i e => ?_, fun b ob e => ⟨jw _ _ _ (hr.imm b ob e).1, ?_⟩, hr.nodup, fun a ob hm => ?_, hr.os, hr.gens⟩
  ·have e' : (if b = hh.objs.size then some (hh.objs.size + 1) else G.own b) = some i := e
   by_cases hb : b = hh.objs.size
   ·rw [hb]; exact ⟨hr.noB hnh, _, aW _ rfl⟩
   ·rw [if_neg hb] at e'; exact ⟨(hr.bown b i e').1, qj (hr.bown b i e').2⟩
  ·have e' : G.g b = some ob := e
   show (if b = _ then _ else _) = _
   rw [if_neg (fun q => by rw [q, hn] at e'; cases e')]; exact (hr.imm b ob e').2
  ·refine (hr.slot a ob hm).mono (fun _ _ e => e) (fun b ob _ e => jw _ _ _ e) fun b e => ?_
   show (if b = _ then _ else _) = _
   rw [if_neg (fun q => hnh (by rw [← q]; exact (hr.bown b a e).2))]; exact e
 have hsz1 : (hh.push emptyDict).objs.size = hh.objs.size + 1 := cN _ _
 have a2 := HR.allocO (s := ⟨hh.push emptyDict, g, d, t, os⟩) a1 (instObj C hh.objs.size) (.ins c []) (tk := t) (by
  show kH W _ ((hh.push emptyDict).push _) (hh.push emptyDict).objs.size _
  refine ⟨C, hh.objs.size, [], 0, hmg, aW _ rfl, jw _ _ _ (aW _ rfl), if_pos rfl, ?_, by simp, rfl⟩
  show (if hh.objs.size = (hh.push emptyDict).objs.size then _ else if hh.objs.size = hh.objs.size then some (hh.objs.size + 1) else _) = some (hh.push emptyDict).objs.size
  rw [hsz1, if_neg (by exact J13 19), if_pos rfl])
 obtain ⟨a2, e2⟩ := a2
 have e1 : kA [] G ⟨hh, g, d, t, os⟩ (G.addO hh.objs.size (hh.objs.size + 1)) ⟨hh.push emptyDict, g, d, t, os⟩ := by
  refine ⟨fun _ _ e => e, fun b hb => .inl ?_, fun _ _ _ => rfl, fun b ob e _ _ => jw _ _ _ e, fun b hb => qj hb⟩
  show (if b = _ then _ else _) = _
  rw [if_neg (fun q => hnh (by rw [← q]; exact hb))]
 have e12 := e1.trans e2
 have hq : (⟨hh.push emptyDict, g, d, t, os⟩ : Shared).heap.objs.size = hh.objs.size + 1 := hsz1
 rw [hq] at a2 e12
 have Rm : lg (A.under (.builtin "type.__call__" ⟨.ref C :: vs, []⟩)) n := by
  refine ⟨R.hd, ?_, ?_⟩
  ·have := R.depth; show A.depth + 1 + _ < _; exact J6 8 this
  ·have := R.units
   have hc : (gn "type.__call__" ⟨.ref C :: vs, []⟩).cUnits ≤ 4 := by
    show 1 + 3 * (gn "type.__call__" ⟨.ref C :: vs, []⟩).frames ≤ 4
    have : (gn "type.__call__" ⟨.ref C :: vs, []⟩).frames = 0 := rfl
    exact J13 20 this
   show A.units + (gn "type.__call__" ⟨.ref C :: vs, []⟩).cUnits + _ + _ < _; exact J13 21 hc this
 have := h (hh.objs.size + 1) _ _ _ (.ref (hh.objs.size + 1) :: vs) Rm a2 (j0.cons (by wtm_at "rv") (hv.mono (G' := _) e12.gle))
 refine gj this fun r s' ⟨v, e, G', p, H', e3, hr', hv', hp, hq'⟩ => ?_
 subst e; subst hp
 have : v = .none := by exact hv'
 subst this
 exact ⟨rfl, _, rfl, G', .ref (hh.objs.size + 1), H', e12.trans e3, hr', by wtm_at "rv", hq'⟩
end
noncomputable def pZ (K : Frag) (C : Addr) (name : Str) : Bool :=
 plainGet K C name && hasDictIn K C && (findIn K (.ref C) name == some none) && (findIn K (.ref C) "__setattr__" == some (some (.builtin "object.__setattr__"))) && plainOver K C && (takerIn K C name == some none)
noncomputable def nL (W : Wd) (c : Str) (name : Str) : Prop := ∃ C, W.mg c = some (.ref C) ∧ pZ W.K C name = true
noncomputable def uF (K : Frag) (C : Addr) (name : Str) (f : Addr) : Bool :=
 plainGet K C name && (findIn K (.ref C) name == some (some (.ref f))) && (typeIn K (.ref f) == some (.type "function")) && fnIn K f
noncomputable def sH (W : Wd) (c : Str) (name : Str) (f : Addr) : Prop := ∃ C, W.mg c = some (.ref C) ∧ uF W.K C name f = true
inductive rF (W : Wd) (H : HH) (p : PV) (attr : Str) (K : PV → Prop) : Prop
 | mk (c : Str) (fs : List (Str × PV)) (v : PV) (w : Vw H p (.ins c fs)) (m : (attr, v) ∈ fs) (a : nL W c attr) (k : K v)
inductive oV (W : Wd) (H : HH) (p : PV) (name : Str) (K : Addr → Prop) : Prop
 | mk (c : Str) (fs : List (Str × PV)) (f : Addr) (w : Vw H p (.ins c fs)) (m : (fs.map ai).contains name = false) (a : sH W c name f) (k : K f)
theorem uG {K : Frag} {h : Heap} {f : Addr} (X : K.In h) (e : fnIn K f = true) : ∃ o fd, h.get? f = some o ∧ o.data = .func fd := by
 unfold fnIn at e
 rcases q : K.lookup f with _ | ⟨c, d, dt, sl⟩
 ·rw [q] at e; cases e
 ·rw [q] at e
  cases dt <;> first | exact ⟨_, _, X _ _ q, rfl⟩ | cases e
theorem yO {W G} {p : PV} {v : Value} (h : RV W G p v) : handedIn v = true := by
 cases p with
 | none => subst h; rfl
 | bool b => subst h; rfl
 | int i => obtain ⟨t, e⟩ := h; subst e; rfl
 | str i => obtain ⟨t, e⟩ := h; subst e; rfl
 | tup xs => obtain ⟨a, _, e, _⟩ := h; subst e; rfl
 | lst xs => obtain ⟨a, _, _, e, _⟩ := h; subst e; rfl
 | dct xs => obtain ⟨a, _, _, e, _⟩ := h; subst e; rfl
 | ins c xs => obtain ⟨a, _, _, _, _, e, _⟩ := h; subst e; rfl
 | rng x y => obtain ⟨a, _, _, _, e, _⟩ := h; subst e; rfl
 | ref a => subst h; rfl
theorem qU {W G} : ∀ {fs : List (Str × PV)} {ds : List DictEntry}, qi W G fs ds → ds.any (·.refKey) = false
 | [], ds, h => by subst h; rfl
 | (k, x) :: fs, ds, h => by
  obtain ⟨d, r, t, e, h1, h2, h3, h4⟩ := h
  subst e
  rw [jd, qU h4, je]
  unfold DictEntry.refKey
  rw [h2]
theorem vC {W G} {name : Str} : ∀ {fs : List (Str × PV)} {ds : List DictEntry}, qi W G fs ds → (fs.map ai).Nodup → ∀ {v}, (name, v) ∈ fs → ∃ e, ds.find? (·.key.isStr name) = some e ∧ RV W G v e.val
 | (k, x) :: fs, ds, h, nd, v, hm => by
  obtain ⟨d, r, t, e, h1, h2, h3, h4⟩ := h
  subst e
  rw [aC, aY] at nd
  rcases au.mp hm with e | hm
  ·cases e
   refine ⟨d, ?_, h3⟩
   rw [cI (by rw [h2]; simp [eJ])]
  ·have hne : name ≠ k := fun e => nd.1 (az.mpr ⟨_, hm, e⟩)
   rw [ba (by rw [h2]; simp [eJ]; exact fun e => hne e.symm)]
   exact vC h4 nd.2 hm
theorem vD {W G} {name : Str} : ∀ {fs : List (Str × PV)} {ds : List DictEntry}, qi W G fs ds → name ∉ fs.map ai → ds.find? (·.key.isStr name) = none
 | [], ds, h, _ => by subst h; rfl
 | (k, x) :: fs, ds, h, hm => by
  obtain ⟨d, r, t, e, h1, h2, h3, h4⟩ := h
  subst e
  rw [aC, au, not_or] at hm
  rw [ba (by rw [h2]; simp [eJ]; exact fun e => hm.1 e.symm)]
  exact vD h4 hm.2
theorem AN {W G} {name : Str} {fs : List (Str × PV)} {ds : List DictEntry} (h : qi W G fs ds) (nd : (fs.map ai).Nodup) {v} (hm : (name, v) ∈ fs) : ∃ cv, getL name ds = some (some cv) ∧ RV W G v cv := by
 obtain ⟨e, h1, h2⟩ := vC h nd hm
 exact ⟨e.val, by unfold getL; rw [h1], h2⟩
theorem tO {W G} {name : Str} {fs : List (Str × PV)} {ds : List DictEntry} (h : qi W G fs ds) (hm : name ∉ fs.map ai) : getL name ds = some none := by
 unfold getL
 rw [vD h hm]
 simp [qU h]
inductive sI (name : Str) (v : PV) : List (Str × PV) → List (Str × PV) → Prop
 | head {o r} : sI name v ((name, o) :: r) ((name, v) :: r)
 | tail {p r r'} : sI name v r r' → sI name v (p :: r) (p :: r')
theorem sI.keys {name v r r'} (h : sI name v r r') : r'.map ai = r.map ai := by
 induction h with
 | head => rfl
 | tail _ ih => simp only [aC, ih]
theorem sI.there {name v r r'} (h : sI name v r r') : ∃ o, (name, o) ∈ r := by
 induction h with
 | head => exact ⟨_, .head _⟩
 | tail _ ih => obtain ⟨o, h⟩ := ih; exact ⟨o, .tail _ h⟩
theorem AO {W G} {name : Str} {v : PV} {cv : Value} {tk : Tok} (hv : RV W G v cv) {fs fs'} {ds : List DictEntry} (U : sI name v fs fs') (nd : (fs.map ai).Nodup) (h : qi W G fs ds) : qi W G fs' (putL name (bE W.w.params name) (.str name tk) cv ds) := by
 induction U generalizing ds with
 | head =>
  obtain ⟨d, r, t, e, h1, h2, h3, h4⟩ := h
  subst e
  unfold putL
  rw [if_pos (by rw [h2]; simp [eJ])]
  exact t6.mk _ _ t rfl h1 h2 hv h4
 | tail U ih =>
  obtain ⟨d, r, t, e, h1, h2, h3, h4⟩ := h
  subst e
  rw [aC, aY] at nd
  obtain ⟨o, ho⟩ := U.there
  have hne : name ≠ _ := fun e => nd.1 (az.mpr ⟨_, ho, e⟩)
  unfold putL
  rw [if_neg (by rw [h2]; simp [eJ]; exact fun e => hne e.symm)]
  exact t6.mk d _ t rfl h1 h2 h3 (ih nd.2 h4)
theorem sJ {W G} {name : Str} {v : PV} {cv : Value} {tk : Tok} (hv : RV W G v cv) : ∀ {fs} {ds : List DictEntry}, name ∉ fs.map ai → qi W G fs ds → qi W G (fs ++ [(name, v)]) (putL name (bE W.w.params name) (.str name tk) cv ds)
 | [], ds, nd, h => by
  subst h
  simp only [eM, putL, qi]
  exact ⟨_, _, tk, rfl, rfl, rfl, hv, rfl⟩
 | (k, x) :: fs, ds, nd, h => by
  obtain ⟨d, r, t, e, h1, h2, h3, h4⟩ := h
  subst e
  rw [aC, au, not_or] at nd
  unfold putL
  rw [if_neg (by rw [h2]; simp [eJ]; exact fun e => nd.1 e.symm)]
  simp only [eu, qi]
  exact ⟨d, _, t, rfl, h1, h2, h3, sJ hv nd.2 h4⟩
theorem rG (name : Str) (k : Int) (key v : Value) : ∀ ds : List DictEntry, (putL name k key v ds).length ≤ ds.length + 1
 | [] => aU _
 | d :: ds => by
  unfold putL
  split
  ·simp
  ·have := rG name k key v ds; simp; exact J10 6 this
theorem sK {W G} : ∀ {fs : List (Str × PV)} {ds : List DictEntry}, qi W G fs ds → ds.length = fs.length
 | [], ds, h => by subst h; rfl
 | (k, x) :: fs, ds, h => by
  obtain ⟨d, r, t, e, h1, h2, h3, h4⟩ := h
  subst e
  simp [sK h4]
section
variable {W : Wd} {n : Nat} {r : jt} {H : HH} {Q : CV}
theorem pB {h : Heap} {a C dx : Addr} {ds m} (e1 : h.get? a = some (instObj C dx)) (e2 : h.get? dx = some (nU ds m)) : InstAt h a (instObj C dx) C (some (dictOf ds m)) := ⟨e1, rfl, rfl, e2⟩
theorem wH {A G s} {p v : PV} {c : Str} {fs : List (Str × PV)} {cv : Value} {attr : Str} {expr : Bool} (hr : HR W G H s) (hv : RV W G p cv) (w : Vw H p (.ins c fs)) (hm : (attr, v) ∈ fs) (ha : nL W c attr) (h : Q v H) :
  wpAny (model W.prog W.w) A (getAttr cv attr expr) (Fin W Q G s) mO s := by
 obtain ⟨a, C, dx, ds, m, e, e0, e1, e2, nd, rs⟩ := w.insAt hr hv
 obtain ⟨C', q0, q1⟩ := ha
 rw [q0] at e0; cases e0
 unfold pZ at q1
 simp only [a9, beq_iff_eq] at q1
 obtain ⟨⟨⟨⟨⟨a1, a2⟩, a3⟩, a4⟩, a5⟩, a6⟩ := q1
 obtain ⟨u, u1, u2⟩ := AN rs nd hm
 subst e
 exact get_value (W.inK.keeps hr.base) (pB e1 e2) (iP a1).1 (findObj_own a2 a3 rfl u1) (yO u2) (og hr u2 h)
theorem CF {x xp attr pos} {c : Str} (h : Ev W n r H (.Name x xp) fun p H1 => rF W H1 p attr fun v => Q v H1) : Ev W n r H (.Attribute (.Name x xp) attr pos) Q := fun A env fa G s R hr fr => by
 refine Attribute_name (ay (h A env fa G s R hr fr) (fun cv s1 h1 => ?_) fun _ _ x => x)
 obtain ⟨G1, p, H1, e1, r1, v1, ⟨c, fs, v, q1, q2, q3, q4⟩⟩ := h1
 exact ay (wH r1 v1 q1 q2 q3 q4) (fun _ _ h => h.trans e1) fun _ _ x => x
theorem CG {A s} {C dx x : Addr} {ds : List DictEntry} {m : Nat} {name : Str} {tk : Tok} {v : Value} {R : Result → Shared → Prop} (X : W.K.In s.heap) (e1 : s.heap.get? x = some (instObj C dx)) (e2 : s.heap.get? dx = some (nU ds m))
  (ha : pZ W.K C name = true) (hl : ds.any (·.refKey) = false) (hz : ds.length ≤ 1000)
  (h : R (.ok (.ret .none)) { s with heap := s.heap.update dx (gG name (bE W.w.params name) (.str name s.toks) v), toks := s.toks + 1 }) :
  codeAny (model W.prog W.w) A (.call (.builtin "object.__setattr__") ⟨[.ref x, .str name tk, v], []⟩) R s := by
 unfold pZ at ha
 simp only [a9, beq_iff_eq] at ha
 obtain ⟨⟨⟨⟨⟨a1, a2⟩, a3⟩, a4⟩, a5⟩, a6⟩ := ha
 refine osa_open X (pB e1 e2) a5 a6 fun b => ?_
 obtain ⟨cd, hc, hd'⟩ := any_some a2
 refine aj (aB (aj (aj (wpAny_loadPart e1 (aj ((looks_clsIn X hc).here ?_))))))
 rw [hd']
 refine aB (a := some dx) (aj (aB (aj ?_)))
 unfold nsSet
 refine aj (aj (wpAny_askSetting (aB (aj (wpAny_mkText (aj (wpAny_loadPart e2 ?_)))))))
 dsimp only
 have c : (!ds.toArray.any (·.key.isStr name) && ds.toArray.any (·.refKey)) = false := by
  rw [iF, iF, hl, i8]
 rw [aRefKeyMayBeTheName_at, c]
 have hp := putName_dict name (bE W.w.params name) (.str name s.toks) v ds m
 refine wpAny_updatePart e2 ?_
 refine aj (wpAny_lookBehind (o := dictOf (putL name (bE W.w.params name) (.str name s.toks) v ds) (putN name ds m)) ?_ ?_ ?_)
 ·have := cA (h := s.heap) (gG name (bE W.w.params name) (.str name s.toks) v) e2 (by rw [hp]; rfl)
  rw [hp] at this; exact this
 ·refine pastItsLine_dict ?_
  rw [aH]
  have : (putL name (bE W.w.params name) (.str name s.toks) v ds).length ≤ ds.length + 1 := rG _ _ _ _ _
  rw [am]; exact J10 7 this hz
 ·exact aB h
theorem sL {A G s} {a : Addr} {c : Str} {fs fs' : List (Str × PV)} {attr : Str} {v : PV} {cv : Value} {H' : HH} {P : HH → Prop} (hr : HR W G H s) (hv : RV W G v cv) (ha : nL W c attr) (hz : fs.length ≤ 1000) (U : kQ a (.ins c fs) (.ins c fs') H H') (nd' : (fs'.map ai).Nodup)
  (hf : ∀ ds tk, (fs.map ai).Nodup → qi W G fs ds → qi W G fs' (putL attr (bE W.w.params attr) (.str attr tk) cv ds)) (h : P H') : wpAny (model W.prog W.w) A (setAttr (.ref a) attr cv) (yK W P G s) mO s := by
 obtain ⟨C, dx, ds, m, e0, e1, e2, o1, o2, nd, rs⟩ := hr.slot _ _ U.there
 obtain ⟨C', q0, q1⟩ := ha
 rw [q0] at e0; cases e0
 have X := W.inK.keeps hr.base
 have q1' := q1
 unfold pZ at q1'
 simp only [a9, beq_iff_eq] at q1'
 obtain ⟨⟨⟨⟨⟨a1, a2⟩, a3⟩, a4⟩, a5⟩, a6⟩ := q1'
 refine set_plain X (pB e1 e2) a4 (CG (s := { s with toks := s.toks + 1 }) X e1 e2 q1 (qU rs) (by rw [sK rs]; exact hz) ?_)
 have hp := putName_dict attr (bE W.w.params attr) (.str attr (s.toks + 1)) cv ds m
 have hfin := cA (h := s.heap) (gG attr (bE W.w.params attr) (.str attr (s.toks + 1)) cv) e2 (by rw [hp]; rfl)
 rw [hp] at hfin
 have hne : a ≠ dx := fun q => by subst q; rw [e1] at e2; cases e2
 obtain ⟨y, e⟩ := hr.upd (tk := s.toks + 1 + 1) U (h' := s.heap.update dx (gG attr (bE W.w.params attr) (.str attr (s.toks + 1)) cv))
  (fun b ob q hb => (cy _ _ _ _ (fun z => hb (by subst z; exact o2))).trans q)
  ⟨C, dx, _, _, q0, (cy _ _ _ _ (fun z => hne (by first | exact z | exact z.symm))).trans e1, hfin, o1, o2, nd', hf ds _ nd rs⟩ (fun b hb => sx ⟨_, hfin⟩ hb)
 exact ⟨G, H', e, y, h⟩
theorem AP {a : Addr} {c : Str} {fs fs' : List (Str × PV)} {attr : Str} {v : PV} {H' : HH} {P : HH → Prop} (U : kQ a (.ins c fs) (.ins c fs') H H') (V : sI attr v fs fs') (ha : nL W c attr) (hz : fs.length ≤ 1000) (h : P H') : vu W n H (.ref a) attr v P := fun A G s cv co R hr vv vo => by
 have e0 : co = .ref a := by exact vo
 subst e0
 have nd := hr.slot _ _ U.there
 obtain ⟨_, _, _, _, _, _, _, _, _, nd, _⟩ := nd
 exact sL hr vv ha hz U (by rw [V.keys]; exact nd) (fun ds tk nd rs => AO vv V nd rs) h
theorem AQ {a : Addr} {c : Str} {fs : List (Str × PV)} {attr : Str} {v : PV} {H' : HH} {P : HH → Prop} (U : kQ a (.ins c fs) (.ins c (fs ++ [(attr, v)])) H H') (V : attr ∉ fs.map ai) (ha : nL W c attr) (hz : fs.length ≤ 1000) (h : P H') : vu W n H (.ref a) attr v P := fun A G s cv co R hr vv vo => by
 have e0 : co = .ref a := by exact vo
 subst e0
 have nd := hr.slot _ _ U.there
 obtain ⟨_, _, _, _, _, _, _, _, _, nd, _⟩ := nd
 refine sL hr vv ha hz U ?_ (fun ds tk nd rs => sJ vv V rs) h
 rw [aJ, dy]
 refine ⟨nd, by simp, fun x hx y hy => ?_⟩
 simp at hy
 subst hy
 exact fun q => V (q ▸ hx)
noncomputable def k6 : Expr → Bool
 | .Call (.Name ..) [] [] _ => false
 | _ => true
theorem yP {f as ks p} {name : Str} {env : Env} {whole : Sem Value} (h : k6 (.Call f as ks p) = true) : attributeBase (.Call f as ks p) name env whole = whole := by
 cases f with
 | Name a b =>
  cases as with
  | nil => cases ks with
   | nil => cases h
   | cons _ _ => rfl
  | cons _ _ => rfl
 | _ => rfl
theorem wI {o : Expr} {name : Str} {env : Env} {whole : Sem Value} (h : k6 o = true) : attributeBase o name env whole = whole := by
 cases o with
 | Call f as ks p => exact yP h
 | _ => rfl
theorem oW {A E s env} {o : Expr} {name : Str} {apos pos : Pos} {args : List Expr} {P : Value → Shared → Prop} (hb : k6 o = true) (hl : (apos.endLine == pos.line) = true) (hs : args.all jG = true) (hn : args.length < 29)
  (h : wpAny (model W.prog W.w) A (eval o env) (fun ov s₁ => ∀ pl, wpAny (model W.prog W.w) A (getMethod ov name pl) (fun fx s₂ => wpAny (model W.prog W.w) A (callWith pos fx.1 fx.2 (pP args env) []) P E s₂) E s₁) E s) :
  wpAny (model W.prog W.w) A (eval (.Call (.Attribute o name apos) args [] pos) env) P E s := by
 have hform : methodCallForm (args.length + ([] : List Keyword).length) (backTo pos (starEach args env)) (backToKw pos (keywordEach [] env)) = true := by
  rw [nW hs]
  unfold methodCallForm
  have h1 : (pP args env).all (fun x => !x.1) = true := by
   rw [aV]; intro x hx
   simp only [pP, az] at hx
   obtain ⟨e, _, rfl⟩ := hx; rfl
  rw [h1]
  show (true && (List.all [] _) && decide (args.length + 0 + 0 < 30)) = true
  simp; exact J10 8 hn
 have hpos : methodCallPos true o env apos pos = pure pos := by unfold methodCallPos; simp [hl]
 rw [arm_eval_Call, wI hb]
 refine aj (ay h (fun ov s₁ h₁ => ?_) fun _ _ e => e)
 refine aj (cJ ?_)
 unfold methodCall
 rw [hform]
 refine aj (bv (ay (h₁ _) (fun fx s₂ h₂ => ?_) fun _ _ e => e))
 obtain ⟨f, first⟩ := fx
 refine aj (wpAny_of_eq hpos ?_)
 rw [nW hs] at *
 exact h₂
theorem CH {o name apos pos} {args : List Expr} (hb : k6 o = true) (hl : (apos.endLine == pos.line) = true) (hs : args.all jG = true) (hn : args.length < 29)
  (h : Ev W n r H o fun p H1 => oV W H1 p name fun f => nT W n r H1 args fun ps H2 => jZ W n H2 (.ref f) (p :: ps) Q) : Ev W n r H (.Call (.Attribute o name apos) args [] pos) Q := fun A env fa G s R hr fr => by
 refine oW hb hl hs hn (ay (h A env fa G s R hr fr) (fun cv s1 h1 pl => ?_) fun _ _ x => x)
 obtain ⟨G1, p, H1, e1, r1, v1, c, fs, f, q1, q2, q3, q4⟩ := h1
 obtain ⟨a, C, dx, ds, m, e, e0, ee1, ee2, nd, rs⟩ := q1.insAt r1 v1
 obtain ⟨C', z0, z1⟩ := q3
 rw [z0] at e0; cases e0
 unfold uF at z1
 simp only [a9, beq_iff_eq] at z1
 obtain ⟨⟨⟨a1, a2⟩, a3⟩, a4⟩ := z1
 have X := W.inK.keeps r1.base
 subst e
 refine method_fn X (pB ee1 ee2) (iP a1).1 (iP a1).2 a2 a3 (by show (lookIn name (dictOf ds m)).map _ = _; rw [lookIn_dict, tO rs (fun hm => fX (q2.symm.trans (eg.mpr hm)))]; rfl) ?_
 obtain ⟨ob, fd, hb1, hb2⟩ := uG W.inK a4
 refine dT (o := ob) (fd := fd) (kM (ay (q4 A env fa G1 s1 R r1 (fr.ext e1)) (fun vs s2 h2 => ?_) fun _ _ x => x))
 obtain ⟨G2, ps, H2, e2, r2, v2, qq⟩ := h2
 exact ⟨⟨r2.base _ _ hb1, hb2⟩, ay (qq.toN A G2 s2 (.ref a :: vs) R r2 (j0.cons (e2.rv v1) v2)) (fun _ _ h => (h.trans e2).trans e1) fun _ _ x => x⟩
structure sM (W : Wd) (H : HH) (T : String) (p : PV) : Prop where
 ok : ∀ G s v, HR W G H s → RV W G p v → s.TypeIs v T ∧ ∀ a, v = .ref a → ∃ ob, s.heap.get? a = some ob ∧ ob.dict = none
theorem EC {p : PV} {xs} (w : Vw H p (.lst xs)) : sM W H "list" p := ⟨fun G s v hr hv => by
 obtain ⟨a, vs, m, e, e1, _⟩ := w.lstAt hr hv
 subst e
 exact ⟨⟨_, e1, rfl⟩, fun b q => by cases q; exact ⟨_, e1, rfl⟩⟩⟩
theorem ED {p : PV} {xs} (w : Vw H p (.dct xs)) : sM W H "dict" p := ⟨fun G s v hr hv => by
 obtain ⟨a, vs, m, e, e1, _⟩ := w.dctAt hr hv
 subst e
 exact ⟨⟨_, e1, rfl⟩, fun b q => by cases q; exact ⟨_, e1, rfl⟩⟩⟩
theorem sN {o name apos pos} {args : List Expr} (T id : String) (pa : PlainAttrs T) (slot : Slot T name id) (hty : typeOf (.builtin id) = pure (.type "method_descriptor")) (hb : k6 o = true) (hl : (apos.endLine == pos.line) = true) (hs : args.all jG = true) (hn : args.length < 29)
  (h : Ev W n r H o fun p H1 => sM W H1 T p ∧ nT W n r H1 args fun ps H2 => mP W n H2 (fun vs => call (.builtin id) vs) (p :: ps) Q) : Ev W n r H (.Call (.Attribute o name apos) args [] pos) Q := fun A env fa G s R hr fr => by
 refine oW hb hl hs hn (ay (h A env fa G s R hr fr) (fun cv s1 h1 pl => ?_) fun _ _ x => x)
 obtain ⟨G1, p, H1, e1, r1, v1, q1, q4⟩ := h1
 obtain ⟨hT, hd⟩ := q1.ok G1 s1 cv r1 v1
 refine getMethod_builtin hT pa slot hty hd ?_
 refine gl nX (kM (ay (q4 A env fa G1 s1 R r1 (fr.ext e1)) (fun vs s2 h2 => ?_) fun _ _ x => x))
 obtain ⟨G2, ps, H2, e2, r2, v2, qq⟩ := h2
 exact ay (qq A G2 s2 (cv :: vs) R r2 (j0.cons (e2.rv v1) v2)) (fun _ _ h => (h.trans e2).trans e1) fun _ _ x => x
end
noncomputable def mG (W : Wd) (r : jt) (H : HH) (r' : jt) (H' : HH) : Prop := ∀ env fa G s, HR W G H s → FR W env fa r G s.heap → ∃ G', kA [] G s G' s ∧ HR W G' H' s ∧ FR W env fa r' G' s.heap
inductive mH (S : HH) : jt → jt → Prop
 | nil : mH S [] []
 | same {p r r'} : mH S r r' → mH S (p :: r) (p :: r')
 | rfy {x c p q r r'} : pA S p q → mH S r r' → mH S ((x, .loc c (some p)) :: r) ((x, .loc c (some q)) :: r')
 | drop {x c p r r'} : mH S r r' → mH S ((x, .loc c p) :: r) ((x, .loc c none) :: r')
theorem mH.keys {S r r'} (h : mH S r r') : r'.map ai = r.map ai := by
 induction h with
 | nil => rfl
 | same _ ih => simp only [aC, ih]
 | rfy _ _ ih => simp only [aC, ih]
 | drop _ ih => simp only [aC, ih]
theorem mH.refl {S} : ∀ {r : jt}, mH S r r
 | [] => .nil
 | _ :: _ => .same mH.refl
inductive CI (S : HH) (r : jt) (x : Str) (b : Bd) : Prop
 | same (h : (x, b) ∈ r)
 | rfy (c : Bool) (p q : PV) (e : b = .loc c (some q)) (h : (x, Bd.loc c (some p)) ∈ r) (k : pA S p q)
 | drop (c : Bool) (e : b = .loc c none) (p : Option PV) (h : (x, Bd.loc c p) ∈ r)
theorem CI.tl {S r x b p} (h : CI S r x b) : CI S (p :: r) x b := by
 cases h with
 | same h => exact .same (.tail _ h)
 | rfy c p q e h k => exact .rfy c p q e (.tail _ h) k
 | drop c e p h => exact .drop c e p (.tail _ h)
theorem mH.mem {S r r'} (h : mH S r r') {x b} (hm : (x, b) ∈ r') : CI S r x b := by
 induction h with
 | nil => cases hm
 | same _ ih => cases hm with
  | head => exact .same (.head _)
  | tail _ hm => exact (ih hm).tl
 | rfy hr _ ih => cases hm with
  | head => exact .rfy _ _ _ rfl (.head _) hr
  | tail _ hm => exact (ih hm).tl
 | drop _ ih => cases hm with
  | head => exact .drop _ rfl _ (.head _)
  | tail _ hm => exact (ih hm).tl
theorem FR.reread {W env fa r r' G S h} (x : FR W env fa r G h) (w : mH S r r') (hr : ∀ p t v, pA S p t → RV W G p v → RV W G t v) : FR W env fa r' G h where
 kind := x.kind
 glo := x.glo
 blt := x.blt
 nodup := by rw [show (r'.map fun y => y.1) = r'.map ai from rfl, w.keys]; exact x.nodup
 ns := by
  obtain ⟨m, hn, hm⟩ := x.ns
  refine ⟨m, hn, fun y yb v hy hk => ?_⟩
  rcases w.mem hy with a | ⟨z, p, q, a, b, c⟩ | ⟨z, a, p, b⟩
  ·exact hm y yb v a hk
  ·cases a
   obtain ⟨cv, q1, q2⟩ := hm y _ p b hk
   exact ⟨cv, q1, hr _ _ _ c q2⟩
  ·cases a
 glb := fun y hy => by
  rcases w.mem hy with a | ⟨z, p, q, a, b, c⟩ | ⟨z, a, p, b⟩
  ·exact x.glb y a
  ·cases a
  ·cases a
 loc := fun y yb ov hy => by
  rcases w.mem hy with a | ⟨z, p, q, a, b, c⟩ | ⟨z, a, p, b⟩
  ·exact x.loc y yb ov a
  ·cases a
   rcases x.loc y _ _ b with h | ⟨hb, hk, c', u, h1, h2, h6, h7⟩
   ·exact .inl h
   ·refine .inr ⟨hb, hk, c', u, h1, h2, h6, fun v e => ?_⟩
    cases e
    obtain ⟨cv, q1, q2⟩ := h7 p rfl
    exact ⟨cv, q1, hr _ _ _ c q2⟩
  ·cases a
   rcases x.loc y _ _ b with h | ⟨hb, hk, c', u, h1, h2, h6, h7⟩
   ·exact .inl h
   ·exact .inr ⟨hb, hk, c', u, h1, h2, h6, fun v e => by cases e⟩
 fre := fun y v hy => by
  rcases w.mem hy with a | ⟨z, p, q, a, b, c⟩ | ⟨z, a, p, b⟩
  ·exact x.fre y v a
  ·cases a
  ·cases a
 locf := x.locf
 ownf := x.ownf
 apart := x.apart
inductive mV (S : HH) : HH → HH → Prop
 | nil : mV S [] []
 | same {p r r'} : mV S r r' → mV S (p :: r) (p :: r')
 | lst {a xs ys r r'} : nA S xs ys → mV S r r' → mV S ((a, .lst xs) :: r) ((a, .lst ys) :: r')
 | dct {a xs ys r r'} : tL S xs ys → mV S r r' → mV S ((a, .dct xs) :: r) ((a, .dct ys) :: r')
 | ins {a c xs ys r r'} : tM S xs ys → mV S r r' → mV S ((a, .ins c xs) :: r) ((a, .ins c ys) :: r')
theorem mV.keys {S r r'} (h : mV S r r') : r'.map ai = r.map ai := by
 induction h with
 | nil => rfl
 | same _ ih => simp only [aC, ih]
 | lst _ _ ih => simp only [aC, ih]
 | dct _ _ ih => simp only [aC, ih]
 | ins _ _ ih => simp only [aC, ih]
theorem mV.refl {S} : ∀ {r : HH}, mV S r r
 | [] => .nil
 | _ :: _ => .same mV.refl
theorem nA.rv' {W G S} (hr : ∀ p t v, pA S p t → RV W G p v → RV W G t v) : ∀ {xs ys : List PV} {vs}, nA S xs ys → j0 W G xs vs → j0 W G ys vs := fun {xs} => by
 induction xs with
 | nil => intro ys vs q h; cases q; exact h
 | cons x xs ih =>
  intro ys vs q h
  cases q with
  | refl => exact h
  | cons h1 h2 => obtain ⟨u, r, e, q1, q2⟩ := h; exact t5.mk u r e (hr _ _ _ h1 q1) (ih h2 q2)
theorem tL.rv' {W G S} (hr : ∀ p t v, pA S p t → RV W G p v → RV W G t v) : ∀ {xs ys : List (PV × PV)} {vs}, tL S xs ys → oO W G xs vs → oO W G ys vs := fun {xs} => by
 induction xs with
 | nil => intro ys vs q h; cases q; exact h
 | cons x xs ih =>
  intro ys vs q h
  cases q with
  | refl => exact h
  | cons h1 h2 => obtain ⟨u, r, e, q0, q1, q2, q3⟩ := h; exact xz.mk u r e q0 q1 (hr _ _ _ h1 q2) (ih h2 q3)
theorem tM.rv' {W G S} (hr : ∀ p t v, pA S p t → RV W G p v → RV W G t v) : ∀ {xs ys : List (Str × PV)} {vs}, tM S xs ys → qi W G xs vs → qi W G ys vs := fun {xs} => by
 induction xs with
 | nil => intro ys vs q h; cases q; exact h
 | cons x xs ih =>
  intro ys vs q h
  cases q with
  | refl => exact h
  | cons h1 h2 => obtain ⟨u, r, t, e, q0, q1, q2, q3⟩ := h; exact t6.mk u r t e q0 q1 (hr _ _ _ h1 q2) (ih h2 q3)
theorem mV.slot {W G S} {h : Heap} (hr : ∀ p t v, pA S p t → RV W G p v → RV W G t v) {K K' : HH} (w : mV S K K') : (∀ a o, (a, o) ∈ K → kH W G h a o) → ∀ a o, (a, o) ∈ K' → kH W G h a o := by
 have go : ∀ {a : Addr} {o o' : HO} {r r' : HH}, (kH W G h a o → kH W G h a o') → ((∀ a o, (a, o) ∈ r → kH W G h a o) → ∀ a o, (a, o) ∈ r' → kH W G h a o) → (∀ b u, (b, u) ∈ (a, o) :: r → kH W G h b u) → ∀ b u, (b, u) ∈ (a, o') :: r' → kH W G h b u := fun q ih hs b u hm => by
  rcases au.mp hm with e | hm
  ·cases e; exact q (hs _ _ (.head _))
  ·exact ih (fun a o hm => hs a o (.tail _ hm)) b u hm
 induction w with
 | nil => exact fun hs => hs
 | same _ ih => exact go id ih
 | lst q _ ih => exact go (fun ⟨vs, n, h1, h2, h3⟩ => ⟨vs, n, h1, h2, q.rv' hr h3⟩) ih
 | dct q _ ih => exact go (fun ⟨vs, n, h1, h2, nd, h3⟩ => ⟨vs, n, h1, h2, by rw [q.keys]; exact nd, q.rv' hr h3⟩) ih
 | ins q _ ih => exact go (fun ⟨C, dx, vs, n, h0, h1, h1', h2, h2', nd, h3⟩ => ⟨C, dx, vs, n, h0, h1, h1', h2, h2', by rw [q.keys]; exact nd, q.rv' hr h3⟩) ih
theorem HR.freeze2 {W G H K K' S} {s : Shared} (x : HR W G H s) (sp : jK H K S) (k : mV S K K') : kA [] G s (G.frz s.heap S) s ∧ HR W (G.frz s.heap S) K' s ∧ (∀ p t v, pA S p t → RV W G p v → RV W (G.frz s.heap S) t v) ∧ ∀ p t v, pA S p t → RV W (G.frz s.heap S) p v → RV W (G.frz s.heap S) t v := by
 obtain ⟨e, y, hr⟩ := x.freeze sp
 have hrr : ∀ p t v, pA S p t → RV W (G.frz s.heap S) p v → RV W (G.frz s.heap S) t v := fun p t v h1 h2 =>
  pA.rv ⟨fun _ _ e => e, fun a xs hm => hr (.ref a) (.lst xs) (.ref a) (.lst hm .refl) rfl, fun a xs hm => hr (.ref a) (.dct xs) (.ref a) (.dct hm .refl) rfl, fun a c xs hm => hr (.ref a) (.ins c xs) (.ref a) (.ins hm .refl) rfl⟩ h1 h2
 exact ⟨e, ⟨y.bas, y.bown, y.imm, by rw [show (K'.map fun z => z.1) = K'.map ai from rfl, k.keys]; exact y.nodup, k.slot hrr y.slot, y.os, y.gens⟩, hr, hrr⟩
theorem mG.frz {W r r' H K S K'} (sp : jK H K S) (w : mH S r r') (k : mV S K K') : mG W r H r' K' := fun env fa G s x f => by
 obtain ⟨e, y, _, hrr⟩ := x.freeze2 sp k
 exact ⟨_, e, y, (f.ext e).reread w hrr⟩
theorem mI {W n r H r' H' c Q} (w : mG W r H r' H') (h : lm W n r' H' c Q) : lm W n r H c Q := fun A env fa G s R hr f => by
 obtain ⟨G1, e1, r1, f1⟩ := w env fa G s hr f
 exact ay (h A env fa G1 s R r1 f1) (fun _ _ h => h.trans e1.weak) fun _ _ x => x
theorem CJ {W n r H c} {Q Q' : jJ} (h : Ex W n r H c Q') (hq : ∀ fl r' H', Q' fl r' H' → Q fl r' H' ∨ (fl = .next ∨ fl = .cont ∨ fl = .brk) ∧ ∃ r2 H2, mG W r' H' r2 H2 ∧ Q fl r2 H2) : Ex W n r H c Q := fun A env fa G s R hr f => by
 refine ay (h A env fa G s R hr f) (fun v s1 ⟨G1, fl, r1, H1, e1, hr1, f1, hf, q⟩ => ?_) fun _ _ x => x
 rcases hq _ _ _ q with q | ⟨hfl, r2, H2, w, q⟩
 ·exact ⟨G1, fl, r1, H1, e1, hr1, f1, hf, q⟩
 ·obtain ⟨G2, e2, hr2, f2⟩ := w env fa G1 s1 hr1 f1
  refine ⟨G2, fl, r2, H2, e1.trans e2.weak, hr2, f2, ?_, q⟩
  rcases hfl with rfl | rfl | rfl <;> exact hf
theorem uH {W n r H c} {Q Q' : jJ} (h : Ex W n r H c Q') (hq : ∀ fl r' H', Q' fl r' H' → Q fl r' H') : Ex W n r H c Q := fun A env fa G s R hr f =>
 ay (h A env fa G s R hr f) (fun v s1 ⟨G1, fl, r1, H1, e1, hr1, f1, hf, q⟩ => ⟨G1, fl, r1, H1, e1, hr1, f1, hf, hq _ _ _ q⟩) fun _ _ x => x
set_option backward.match.sparseCases true
inductive lN : List Str → List PV → jt → jt → Prop
 | nil {r} : lN [] [] r r
 | cons {x p xs ps r r1 r2} : lp x p r r1 → lN xs ps r1 r2 → lN (x :: xs) (p :: ps) r r2
theorem lp.swap {x y p q} (hne : x ≠ y) {r r1 r2} (a : lp x p r r1) (b : lp y q r1 r2) : ∃ r1', lp y q r r1' ∧ lp x p r1' r2 := by
 induction a generalizing r2 with
 | head => cases b with
  | head => exact absurd rfl hne
  | tail b => exact ⟨_, .tail b, .head⟩
 | tail a ih => cases b with
  | head => exact ⟨_, .head, .tail a⟩
  | tail b => obtain ⟨r1', c, d⟩ := ih b; exact ⟨_, .tail c, .tail d⟩
theorem lN.snoc {y q xs ps r r1 r2} (a : lN xs ps r r1) (b : lp y q r1 r2) : lN (xs ++ [y]) (ps ++ [q]) r r2 := by
 induction a with
 | nil => exact .cons b .nil
 | cons a c ih => exact .cons a (ih b)
theorem lN.push {y q xs ps r r1 r2} (a : lp y q r r1) (b : lN xs ps r1 r2) (h : y ∉ xs) : ∃ r1', lN xs ps r r1' ∧ lp y q r1' r2 := by
 induction b generalizing r with
 | nil => exact ⟨_, .nil, a⟩
 | cons b c ih =>
  rw [au, not_or] at h
  obtain ⟨r', d, e⟩ := lp.swap h.1 a b
  obtain ⟨r'', f, g⟩ := ih e h.2
  exact ⟨_, .cons d f, g⟩
theorem lN.rev {xs ps r r'} (b : lN xs ps r r') (h : xs.Nodup) : lN xs.reverse ps.reverse r r' := by
 induction b with
 | nil => exact .nil
 | cons a b ih =>
  rw [aY] at h
  rw [dY, dY]
  obtain ⟨r1, c, d⟩ := lN.push a (ih h.2) (fun q => h.1 (List.mem_reverse.mp q))
  exact c.snoc d
theorem lN.length {xs ps r r'} (h : lN xs ps r r') : ps.length = xs.length := by
 induction h with
 | nil => rfl
 | cons _ _ ih => exact congrArg ij ih
theorem j0.reverse {W G} : ∀ {ps : List PV} {vs : List Value}, j0 W G ps vs → j0 W G ps.reverse vs.reverse
 | [], vs, h => by subst h; exact j0.nil
 | p :: ps, vs, h => by
  obtain ⟨v, r, e, h1, h2⟩ := h
  subst e
  rw [dY, dY]
  exact (j0.reverse h2).append (j0.one h1)
noncomputable def oX : Expr → Option Str
 | .Name x _ => some x
 | _ => none
section
variable {W : Wd} {n : Nat} {r : jt} {H : HH}
noncomputable def Ft (W : Wd) (n : Nat) (t : Expr) (p : PV) (r : jt) (H : HH) (Q : CR) : Prop :=
 ∀ A env fa G s cv, lg A n → HR W G H s → FR W env fa r G s.heap → RV W G p cv → wpAny (model W.prog W.w) A (assign t env cv) (fun _ s' => ∃ G' r' H', kA fa G s G' s' ∧ HR W G' H' s' ∧ FR W env fa r' G' s'.heap ∧ Q r' H') mO s
theorem m8 {x pos p r'} {Q : CR} (U : lp x p r r') (h : Q r' H) : Ft W n (.Name x pos) p r H Q := fun A env fa G s cv R hr f hv =>
 dZ (mv hr f U hv fun s' e hr' f' => ⟨G, r', H, e, hr', f', h⟩)
theorem yQ {A env fa} {xs : List Str} {ps : List PV} {r r' : jt} {G} {s : Shared} {vs : List Value} {P : Unit → Shared → Prop} (u : lN xs ps r r') (hr : HR W G H s) (f : FR W env fa r G s.heap) (hv : j0 W G ps vs) (h : ∀ s', kA fa G s G s' → HR W G H s' → FR W env fa r' G s'.heap → P () s') :
  wpAny (model W.prog W.w) A (assignInOrder (xs.map fun x => bindName env x) vs) P mO s := by
 induction u generalizing s vs with
 | nil => cases (show vs = [] from hv); exact fS (h s kA.refl hr f)
 | cons U _ ih =>
  obtain ⟨v, vs', e, h1, h2⟩ := hv
  subst e
  refine fU (wpAny_bindName (mv hr f U h1 fun s1 e1 hr1 f1 => ?_))
  exact ih hr1 f1 h2 fun s2 e2 hr2 f2 => h s2 (e1.trans e2) hr2 f2
theorem yR {α : Type} {x : α} {P : Prop} (h : none = some x) : P := nomatch h
theorem p0 {t : Expr} {x : Str} (h : oX t = some x) : ∃ p, t = .Name x p := by
 cases t with
 | Name y p => cases h; exact ⟨p, rfl⟩
 | _ => exact yR h
theorem qV {env : Env} {ts : List Expr} : ∀ {xs : List Str}, ts.map oX = xs.map some → (assignEach ts env).map (·.2) = ts.map fun t => assign t env := by
 induction ts with
 | nil => exact fun _ => rfl
 | cons t ts ih =>
  intro xs h
  cases xs with
  | nil => cases h
  | cons x xs =>
   obtain ⟨h1, h2⟩ := fV h
   obtain ⟨p, rfl⟩ := p0 h1
   show _ :: _ = _ :: _; rw [ih h2]
theorem qW {env : Env} {ts : List Expr} : ∀ {xs : List Str}, ts.map oX = xs.map some → (assignEach ts env).findIdx? (·.1) = none ∧ (assignEach ts env).length = ts.length := by
 induction ts with
 | nil => exact fun _ => ⟨rfl, rfl⟩
 | cons t ts ih =>
  intro xs h
  cases xs with
  | nil => cases h
  | cons x xs =>
   obtain ⟨h1, h2⟩ := fV h
   obtain ⟨p, rfl⟩ := p0 h1
   obtain ⟨i1, i2⟩ := ih h2
   show ((false, _) :: assignEach ts env).findIdx? _ = none ∧ ((false, _) :: assignEach ts env).length = _
   rw [List.findIdx?_cons, i1]
   exact ⟨rfl, congrArg ij i2⟩
theorem wJ {A env fa} {ts : List Expr} {xs : List Str} {ps : List PV} {r r' : jt} {G} {s : Shared} {vs : List Value} {P : Unit → Shared → Prop} (hn : ts.map oX = xs.map some) (u : lN xs ps r r') (hr : HR W G H s) (f : FR W env fa r G s.heap) (hv : j0 W G ps vs) (h : ∀ s', kA fa G s G s' → HR W G H s' → FR W env fa r' G s'.heap → P () s') :
  wpAny (model W.prog W.w) A (assignInOrder (ts.map fun t => assign t env) vs) P mO s := by
 induction u generalizing s vs ts with
 | nil => cases (show vs = [] from hv); cases (eT.mp hn); exact fS (h s kA.refl hr f)
 | cons U _ ih =>
  obtain ⟨v, vs', e, h1, h2⟩ := hv
  subst e
  cases ts with
  | nil => cases hn
  | cons t ts =>
   obtain ⟨hn1, hn2⟩ := fV hn
   cases t with
   | Name y p =>
    cases hn1
    refine fU (dZ (mv hr f U h1 fun s1 e1 hr1 f1 => ?_))
    exact ih hn2 hr1 f1 h2 fun s2 e2 hr2 f2 => h s2 (e1.trans e2) hr2 f2
   | _ => cases hn1
theorem mW {ts : List Expr} {k pos p} {xs : List Str} {ps : List PV} {r' : jt} {Q : CR} (w : Vw H p (.tup ps)) (hn : ts.map oX = xs.map some) (U : lN xs ps r r') (h : Q r' H) : Ft W n (.Tuple ts k pos) p r H Q := fun A env fa G s cv R hr f hv => by
 obtain ⟨a, vs, e, e1, rs⟩ := w.tupAt hr hv
 subst e
 show wpAny _ _ (do standAt pos; unpack (.ref a) (assignEach ts env)) _ _ _
 refine aj (cJ ?_)
 unfold PySem.unpack
 obtain ⟨q1, q2⟩ := qW (env := env) hn
 rw [q1, q2, qV hn]
 have hlen : vs.length = ts.length := by
  rw [rs.length, U.length]
  have := congrArg eI hn
  simpa using this.symm
 have hk : vs.toArray.size = ts.length := by simpa using hlen
 rw [← hk]
 refine aj (bv (eB R.hd e1 fun h' hx => ?_))
 have hk : ∀ b o, s.heap.get? b = some o → h'.get? b = some o := fun b o e => hx b o (bK (bq e)) e
 have e1 : kA [] G s G { s with heap := h' } := kA.kept (tk := s.toks) (dr := s.drawn) hk
 rw [b7]
 exact wJ hn U (hr.kept (tk := s.toks) (dr := s.drawn) hk) (f.ext e1) rs fun s' e' hr' f' => ⟨G, r', H, e1.weak.trans e', hr', f', h⟩
noncomputable def EE : Expr → Bool
 | .Tuple .. => true
 | _ => false
theorem p4 {t value line env} (h : nK value = true) : swapsWithSole [t] value line env = pure false := lM h
theorem om {ts k tpos e pos} {Q : jJ} (hc : nK e = true) (ht : EE e = false) (h : Ev W n r H e fun p H1 => Ft W n (.Tuple ts k tpos) p r H1 fun r' H' => Q .next r' H') : Ex W n r H (.Assign [.Tuple ts k tpos] e pos) Q := fun A env fa G s R hr f => by
 refine fC (ay (h A env fa G s R hr f) (fun v s1 h1 => ?_) fun _ _ x => x) (p4 hc) ?_
 ·obtain ⟨G1, p, H1, e1, r1, v1, q1⟩ := h1
  refine ay (q1 A env fa G1 s1 v R r1 (f.ext e1) v1) (fun _ s2 h2 => ?_) fun _ _ x => x
  obtain ⟨G2, r2, H2, e2, hr2, f2, q2⟩ := h2
  exact ⟨G2, .next, r2, H2, e1.weak.trans e2, hr2, f2, rfl, q2⟩
 ·cases e <;> first | rfl | cases ht
theorem AS {g : Expr → Option Str} {f : Str → Pos → Bool} (hg : ∀ x p, g (.Name x p) = if f x p = true then some x else none) {ts : List Expr} : ∀ {xs : List Str}, ts.map oX = xs.map some → (ts.filterMap g).length = ts.length → ts.filterMap g = xs := by
 induction ts with
 | nil => intro xs h _; cases xs with | nil => rfl | cons _ _ => cases h
 | cons t ts ih =>
  intro xs h
  cases xs with
  | nil => cases h
  | cons x xs =>
   obtain ⟨h1, h2⟩ := fV h
   obtain ⟨p, rfl⟩ := p0 h1
   cases hf : f x p with
   | true => rw [List.filterMap_cons_some (b := x) (by rw [hg, hf]; rfl)]; intro q; rw [ih h2 (ii q)]
   | false => rw [List.filterMap_cons_none (by rw [hg, hf]; rfl)]; intro q; exact absurd (fW g ts) (Nat.not_le.mpr (by rw [q]; exact f0 _))
theorem GZ {α : Type} {c : Prop} [Decidable c] {N S b : α} (h : ¬ c → b = N ∨ b = S) : (if c then N else b) = N ∨ (if c then N else b) = S := by
 by_cases q : c
 ·exact .inl (if_pos q)
 ·rw [if_neg q]; exact h q
theorem nb1 {a b : Nat} {c : Bool} (q : ¬ ((a != b || c) = true)) : a = b := fD fun h => q (by rw [bne_iff_ne.mpr h]; rfl)
theorem vE {ts vs : List Expr} {k tpos k2 vpos env} {xs : List Str} (hk : env.scope.kind = .function) (hn : ts.map oX = xs.map some) (hc : vs.all (foldedForSure 8) = true ∨ vs.all (constantsAlone 8) = false) :
  swappedStores [.Tuple ts k tpos] (.Tuple vs k2 vpos) env = pure none ∨ swappedStores [.Tuple ts k tpos] (.Tuple vs k2 vpos) env = pure (some xs) := by
 refine GZ (N := (pure none : Sem (Option (List Str)))) (S := pure (some xs)) fun _ => GZ (N := (pure none : Sem (Option (List Str)))) (S := pure (some xs)) fun _ => GZ (N := (pure none : Sem (Option (List Str)))) (S := pure (some xs)) fun q => GZ (N := (pure none : Sem (Option (List Str)))) (S := pure (some xs)) fun hf => ?_
 rcases hc with hc | hc
 ·exact absurd hc hf
 ·refine .inr ((if_neg (by rw [hc]; exact cD)).trans (congrArg (fun l => (pure (some l) : Sem (Option (List Str)))) (AS (f := fun id pos => env.kindOf id == some .local && pos.line == (ts.head?.map (·.pos.line)).getD 0) (fun _ _ => rfl) hn (nb1 q))))
theorem k7 {ts vs : List Expr} {k tpos k2 vpos pos} {xs : List Str} {Q : jJ} (hn : ts.map oX = xs.map some) (hnd : xs.Nodup) (hc : vs.all (foldedForSure 8) = true ∨ vs.all (constantsAlone 8) = false)
  (h : Ev W n r H (.Tuple vs k2 vpos) fun p H1 => ∃ ps r', p = .tup ps ∧ lN xs ps r r' ∧ Q .next r' H1) : Ex W n r H (.Assign [.Tuple ts k tpos] (.Tuple vs k2 vpos) pos) Q := fun A env fa G s R hr f => by
 rcases vE (k := k) (tpos := tpos) (k2 := k2) (vpos := vpos) f.kind hn hc with hw | hw
 ·refine fC (ay (h A env fa G s R hr f) (fun v s1 h1 => ?_) fun _ _ x => x) (p4 rfl) hw
  obtain ⟨G1, p, H1, e1, r1, v1, ps, r', hp, U, q1⟩ := h1
  subst hp
  have := mW (W := W) (n := n) (H := H1) (k := k) (pos := tpos) (Q := fun r' H' => Q .next r' H') (p := .tup ps) .refl hn U q1
  refine ay (this A env fa G1 s1 v R r1 (f.ext e1) v1) (fun _ s2 h2 => ?_) fun _ _ x => x
  obtain ⟨G2, r2, H2, e2, hr2, f2, q2⟩ := h2
  exact ⟨G2, .next, r2, H2, e1.weak.trans e2, hr2, f2, rfl, q2⟩
 ·refine PyProof.Rows.Assign_Tuple_swapped (ay (h A env fa G s R hr f) (fun v s1 h1 => ?_) fun _ _ x => x) (p4 rfl) hw
  obtain ⟨G1, p, H1, e1, r1, v1, ps, r', hp, U, q1⟩ := h1
  subst hp
  obtain ⟨a, us, e, ee, rs⟩ := (Vw.refl : Vw H1 (.tup ps) (.tup ps)).tupAt r1 v1
  subst e
  have hk : us.toArray.size = xs.length := by rw [aH, rs.length, U.length]
  rw [← hk]
  refine eB R.hd ee fun h' hx => ?_
  have hk : ∀ b o, s1.heap.get? b = some o → h'.get? b = some o := fun b o e => hx b o (bK (bq e)) e
  have e2 : kA [] G1 s1 G1 { s1 with heap := h' } := kA.kept (tk := s1.toks) (dr := s1.drawn) hk
  rw [b7]
  exact yQ (U.rev hnd) (r1.kept (tk := s1.toks) (dr := s1.drawn) hk) ((f.ext e1).ext e2) rs.reverse fun s' e' hr' f' => ⟨G1, .next, r', H1, (e1.trans e2).weak.trans e', hr', f', rfl, q1⟩
end
set_option backward.match.sparseCases false
structure yS (wr : List Addr) (G : Gh) (s : Shared) (G' : Gh) (s' : Shared) : Prop where
 gle : ∀ b o, G.g b = some o → G'.g b = some o
 own : ∀ b, ld s.heap b → G'.own b = G.own b ∨ G'.own b = none
 gnew : ∀ b, ld s.heap b → G.own b = none → G'.g b = G.g b
 keep : ∀ b o, b ∉ wr → s.heap.get? b = some o → s'.heap.get? b = some o
theorem kA.turn {fa wr G s G1 s1 G2 s2} (x : kA fa G s G1 s1) (y : yS wr G1 s1 G2 s2) (hw : ∀ b ∈ wr, ¬ ld s.heap b) : kA fa G s G2 s2 where
 gle := fun b o e => y.gle b o (x.gle b o e)
 own := fun b hb => by
  rcases x.own b hb with h | h <;> rcases y.own b (x.there b hb) with h' | h' <;> first | exact .inr h' | (rw [h] at h'; first | exact .inl h' | exact .inr h')
 gnew := fun b hb ho => by
  refine (y.gnew b (x.there b hb) ?_).trans (x.gnew b hb ho)
  rcases x.own b hb with h | h
  ·rw [h, ho]
  ·exact h
 keep := fun b o e ho hf => y.keep b o (fun hm => hw b hm ⟨o, e⟩) (x.keep b o e ho hf)
 there := fun b hb => by
  obtain ⟨o, ho⟩ := x.there b hb
  exact ⟨o, y.keep b o (fun hm => hw b hm hb) ho⟩
structure uI (W : Wd) (G : Gh) (wr : List Addr) : Prop where
 own : ∀ b ∈ wr, G.own b = none
 g : ∀ b ∈ wr, G.g b = none
 B0 : ∀ b ∈ wr, W.B0.get? b = none
theorem HR.turn {W G H} {s : Shared} {wr : List Addr} {h' : Heap} {tk : Nat} (x : HR W G H s) (f : uI W G wr) (hk : ∀ b o, b ∉ wr → s.heap.get? b = some o → h'.get? b = some o) : HR W G H { s with heap := h', toks := tk } where
 bas := x.bas
 bown := fun b i e => ⟨(x.bown b i e).1, let ⟨o, ho⟩ := (x.bown b i e).2; ⟨o, hk b o (fun hm => by rw [f.own b hm] at e; cases e) ho⟩⟩
 imm := fun b o e => ⟨hk b o (fun hm => by rw [f.g b hm] at e; cases e) (x.imm b o e).1, (x.imm b o e).2⟩
 nodup := x.nodup
 slot := fun a o hm => (x.slot a o hm).mono (fun _ _ e => e) (fun b ob e q => hk b ob (fun hm => by rw [f.own b hm] at e; cases e) q) fun _ e => e
 os := x.os
 gens := x.gens
theorem FR.turn {W env fa r G G'} {s s' : Shared} {wr : List Addr} (x : FR W env fa r G s.heap) (e : yS wr G s G' s') (hf : ∀ b ∈ wr, b ∉ fa) (hc : ∀ b ∈ wr, ∀ u, ¬ s.heap.IsCell b u) : FR W env fa r G' s'.heap where
 kind := x.kind
 glo := x.glo
 blt := x.blt
 nodup := x.nodup
 ns := by
  obtain ⟨m, hn, hm⟩ := x.ns
  refine ⟨m, hn.at' fun o ho => e.keep _ _ (fun hm => hf _ hm x.locf) ho, fun y yb v hy hk => ?_⟩
  obtain ⟨cv, a, b⟩ := hm y yb v hy hk
  exact ⟨cv, a, b.mono e.gle⟩
 glb := x.glb
 loc := fun y yb ov hy => by
  rcases x.loc y yb ov hy with h | ⟨hb, hk, c, u, h1, h2, h6, h7⟩
  ·exact .inl h
  ·have h2' := h2
   obtain ⟨o, ho, hd⟩ := h2
   refine .inr ⟨hb, hk, c, u, h1, ⟨o, e.keep _ _ (fun hm => hf _ hm h6) ho, hd⟩, h6, fun v hv => ?_⟩
   obtain ⟨cv, a, b⟩ := h7 v hv
   exact ⟨cv, a, b.mono e.gle⟩
 fre := fun y v hy => by
  obtain ⟨hk, c, cv, h1, h2, h3, h4, h5, h6, h7⟩ := x.fre y v hy
  have hcw : c ∉ wr := fun hm => hc c hm _ h2
  obtain ⟨o, ho, hd⟩ := h2
  have hlt : ld s.heap c := ⟨o, ho⟩
  refine ⟨hk, c, cv, h1, ⟨o, e.keep _ _ hcw ho, hd⟩, ?_, by rw [e.gnew c hlt h3, h4], h5, h6, h7.mono e.gle⟩
  rcases e.own c hlt with q | q
  ·rw [q, h3]
  ·exact q
 locf := x.locf
 ownf := fun a ha => by
  obtain ⟨h1, h2, h3, o, h4⟩ := x.ownf a ha
  refine ⟨?_, ?_, h3, ⟨o, e.keep _ _ (fun hm => hf _ hm ha) h4⟩⟩
  ·rcases e.own a ⟨o, h4⟩ with q | q
   ·rw [q, h1]
   ·exact q
  ·rw [e.gnew a ⟨o, h4⟩ h1, h2]
 apart := x.apart
noncomputable def AT : Expr → Bool
 | .Tuple .. => true
 | _ => false
structure Wk (W : Wd) (A : Around) (tt : Bool) (G0 : Gh) (I : Addr) (fp wr : List Addr) (xs : List PV) (St : Nat → Heap → Prop) : Prop where
 sub : ∀ b ∈ wr, b ∈ fp
 frame : ∀ i h h', St i h → (∀ b ∈ fp, ∀ o, h.get? b = some o → h'.get? b = some o) → St i h'
 cell : ∀ i h, St i h → ∀ b ∈ wr, ∀ u, ¬ h.IsCell b u
 has : ∀ i h, St i h → ∀ b ∈ fp, ld h b
 self : ∀ i s (Q : Value → Shared → Prop) (E : Value → Shared → Prop), St i s.heap → Q (.ref I) s → wpAny (model W.prog W.w) A (pyIter (.ref I)) Q E s
 item : ∀ tgt i H G s x, (tt = true → AT tgt = true) → HR W G H s → (∀ b o, G0.g b = some o → G.g b = some o) → uI W G wr → St i s.heap → xs[i]? = some x →
  wpAny (model W.prog W.w) A (pyNext (.ref I)) (fun r s1 => ∃ v, r = some v ∧ wpAny (model W.prog W.w) A (letOwnedTupleGo tgt (.ref I) v) (fun _ s2 => ∃ G2, yS wr G s G2 s2 ∧ HR W G2 H s2 ∧ RV W G2 x v ∧ St (i + 1) s2.heap) mO s1) mO s
 done : ∀ H G s, HR W G H s → (∀ b o, G0.g b = some o → G.g b = some o) → uI W G wr → St xs.length s.heap →
  wpAny (model W.prog W.w) A (pyNext (.ref I)) (fun r s1 => r = none ∧ ∃ G2, yS wr G s G2 s1 ∧ HR W G2 H s1) mO s
inductive vF (W : Wd) (A : Around) (tt : Bool) (Q : CL) (G : Gh) (s : Shared) (it : Value) (s' : Shared) : Prop
 | mk (G' : Gh) (I : Addr) (fp wr : List Addr) (xs : List PV) (H' : HH) (St : Nat → Heap → Prop) (ei : it = .ref I) (e : kA [] G s G' s') (hr : HR W G' H' s') (hn : ∀ b ∈ wr, ¬ ld s.heap b) (ho : ∀ b ∈ fp, G'.own b = none) (hz : ∀ b ∈ fp, ld s.heap b → ∃ o, G'.g b = some o) (hg : ∀ b ∈ wr, G'.g b = none)
  (wk : Wk W A tt G' I fp wr xs St) (st : St 0 s'.heap) (q : Q xs H')
noncomputable def tP (W : Wd) (tt : Bool) (n : Nat) (r : jt) (H : HH) (e : Expr) (Q : CL) : Prop :=
 ∀ A env fa G s, lg A n → HR W G H s → FR W env fa r G s.heap → wpAny (model W.prog W.w) A (eval e env) (fun v s1 => wpAny (model W.prog W.w) A (pyIter v) (vF W A tt Q G s) mO s1) mO s
noncomputable def FP (W : Wd) (n : Nat) (H : HH) (p : PV) (Q : CL) : Prop :=
 ∀ A G s v, lg A n → HR W G H s → RV W G p v → wpAny (model W.prog W.w) A (pyIter v) (vF W A false Q G s) mO s
theorem vF.mono {W A tt} {Q Q' : CL} {G s v s'} (x : vF W A tt Q G s v s') (hq : ∀ xs H, Q xs H → Q' xs H) : vF W A tt Q' G s v s' := by
 obtain ⟨G', I, fp, wr, xs, H', St, a, b, c, d, f, g, h, i, j, k⟩ := x
 exact ⟨G', I, fp, wr, xs, H', St, a, b, c, d, f, g, h, i, j, hq _ _ k⟩
theorem vF.trans {W A tt Q G s G1 s1 v s'} (e : kA [] G s G1 s1) (x : vF W A tt Q G1 s1 v s') : vF W A tt Q G s v s' := by
 obtain ⟨G', I, fp, wr, xs, H', St, a, b, c, d, f, g, h, i, j, k⟩ := x
 exact ⟨G', I, fp, wr, xs, H', St, a, e.trans b, c, fun q hq hh => d q hq (e.there q hh), f, fun q hq hh => g q hq (e.there q hh), h, i, j, k⟩
section
variable {W : Wd} {n : Nat} {r : jt} {H : HH}
theorem uJ {e} {Q : CL} (h : Ev W n r H e fun p H1 => FP W n H1 p Q) : tP W false n r H e Q := fun A env fa G s R hr f => by
 refine ay (h A env fa G s R hr f) (fun v s1 h1 => ?_) fun _ _ x => x
 obtain ⟨G1, p, H1, e1, r1, v1, q1⟩ := h1
 exact ay (q1 A G1 s1 v R r1 v1) (fun _ _ h => h.trans e1) fun _ _ x => x
theorem jH {α : Type} {M A s} {m : Sem α} {Q Q' : α → Shared → Prop} {E : Value → Shared → Prop} (h : wpAny M A m Q mO s) (hq : ∀ v s', Q v s' → Q' v s') : wpAny M A m Q' E s := ay h hq fun _ _ x => x.elim
inductive D4 (W : Wd) (Inv : CR) (r : jt) (H : HH) : Prop
 | mk (r4 : jt) (H4 : HH) (w : mG W r H r4 H4) (i : Inv r4 H4)
theorem tP.mono {W n r H} {tt : Bool} {e : Expr} {Q Q' : CL} (h : tP W tt n r H e Q) (hq : ∀ xs H, Q xs H → Q' xs H) : tP W tt n r H e Q' := fun A env fa G s R hr f =>
 jH (h A env fa G s R hr f) fun _ _ h1 => jH h1 fun _ _ x => x.mono hq
noncomputable def jx (W : Wd) (Inv : CR) (Q : jJ) : jJ := fun fl r3 H3 => match fl with
 | .next => D4 W Inv r3 H3
 | .cont => D4 W Inv r3 H3
 | .brk => Q .next r3 H3
 | .ret p => Q (.ret p) r3 H3
theorem kA.fp {G s G' s'} {fa fp : List Addr} (e : kA fa G s G' s') (ho : ∀ b ∈ fp, G.own b = none) (hf : ∀ b ∈ fp, b ∉ fa) : ∀ b ∈ fp, ∀ o, s.heap.get? b = some o → s'.heap.get? b = some o := fun b hb o q => e.keep b o q (ho b hb) (hf b hb)
noncomputable def Of {α : Type} (I : (α → HH → Prop) → Prop) : α → HH → Prop := fun a H => ∀ C, I C → C a H
theorem Of.eq {α : Type} {I : (α → HH → Prop) → Prop} {a a' : α} {H} (e : a = a') (h : Of I a' H) : Of I a H := e ▸ h
theorem Of.eqH {α : Type} {I : (α → HH → Prop) → Prop} {a : α} {H H'} (e : H = H') (h : Of I a H') : Of I a H := e ▸ h
noncomputable abbrev IT (α : Type) := Nat → (α → HH → Prop) → Prop
noncomputable abbrev kEx (W : Wd) (n : Nat) (H : HH) (c : List Stmt) (Q : jJ) : jt → Prop := fun r => lm W n r H c Q
noncomputable abbrev CK (W : Wd) (n : Nat) (x : Str) (v : PV) (c : List Stmt) (Q : jJ) : CR := fun r H => lL x v r (kEx W n H c Q)
inductive uK (W : Wd) (n : Nat) (r : jt) (tgt : Expr) (body : List Stmt) (Q : jJ) (xs : List PV) (H1 : HH) : Prop
 | mk (Inv : Nat → CR) (i0 : Inv 0 r H1)
   (step : ∀ i x r' H', xs[i]? = some x → Inv i r' H' → Ft W n tgt x r' H' fun r2 H2 => lm W n r2 H2 body (jx W (Inv (i + 1)) Q))
   (fin : ∀ r' H', Inv xs.length r' H' → Q .next r' H')
inductive FQ (W : Wd) (env : Env) (fa fp wr : List Addr) (xs : List PV) (St : Nat → Heap → Prop) (G G1 : Gh) (s : Shared) (Inv : Nat → CR) (k : Nat) (s' : Shared) : Prop
 | mk (i : Nat) (G' : Gh) (r' : jt) (H' : HH) (ek : k = xs.length + 1 - i) (hi : i ≤ xs.length) (st : St i s'.heap) (e : kA fa G s G' s') (hr : HR W G' H' s') (f : FR W env fa r' G' s'.heap) (gle : ∀ b o, G1.g b = some o → G'.g b = some o) (ow : ∀ b ∈ fp, G'.own b = none) (fr : uI W G' wr) (iv : Inv i r' H')
theorem m9 {tgt iter body pos} {tt : Bool} {Q : jJ} (htt : tt = true → AT tgt = true) (h : tP W tt n r H iter (uK W n r tgt body Q))
  (hs : autoParam (∀ env x, foldedSetIterable iter env x = pure x) aI) : Ex W n r H (.For tgt iter body [] pos) Q := fun A env fa G s R hr f => by
 refine wpAny_For (ay (h A env fa G s R hr f) (fun xv s1 h1 => ay h1 (fun it s2 h2 => ?_) fun _ _ x => x) fun _ _ x => x) (hs env)
 obtain ⟨G1, I, fp, wr, xs, H1, St, rfl, e1, hr1, hnew, hown, hfz, hg, wk, st0, ⟨Inv, i0, step, fin⟩⟩ := h2
 have hfa : ∀ b ∈ fp, b ∉ fa := fun b hb hm => by
  obtain ⟨o, ho⟩ := hfz b hb (f.ownf b hm).2.2.2
  have := ((f.ext e1).ownf b hm).2.1
  rw [ho] at this; cases this
 refine codeAny_forLoop_any
  (FQ W env fa fp wr xs St G G1 s Inv)
  ?_ (xs.length + 1) ⟨0, G1, r, H1, rfl, bF _, st0, e1.weak, hr1, f.ext e1, fun _ _ e => e, hown, ⟨fun b hb => hown b (wk.sub b hb), hg, fun b hb => hr.noB (hnew b hb)⟩, i0⟩
 rintro k s' ⟨i, G', r', H', rfl, hi, st, e', hr', f', gle, ow, fr, iv⟩
 by_cases hlt : i < xs.length
 ·obtain ⟨x, hx⟩ : ∃ x, xs[i]? = some x := ⟨xs[i], aG hlt⟩
  refine jH (wk.item tgt i H' G' s' x htt hr' gle fr st hx) ?_
  rintro _ s3 ⟨v, rfl, h3⟩
  refine jH h3 ?_
  rintro _ s4 ⟨G4, e4, hr4, v4, st4⟩
  have e4' := e'.turn e4 hnew
  have f4 := f'.turn e4 (fun b hb => hfa b (wk.sub b hb)) (wk.cell _ _ st)
  have hh4 : ∀ b ∈ fp, ld s'.heap b := wk.has _ _ st
  have ow4 : ∀ b ∈ fp, G4.own b = none := fun b hb => by
   rcases e4.own b (hh4 b hb) with q | q
   ·rw [q]; exact ow b hb
   ·exact q
  refine jH (step i x r' H' hx iv A env fa G4 s4 v R hr4 f4 v4) ?_
  rintro _ s5 ⟨G5, r5, H5, e5, hr5, f5, b5⟩
  refine jH (b5 A env fa G5 s5 R hr5 f5) ?_
  rintro fl s6 ⟨G6, fl', r6, H6, e6, hr6, f6, hfl, q6⟩
  have e46 := e5.trans e6
  have e06 := e4'.trans e46
  have fin6 : ∀ r7 H7, mG W r6 H6 r7 H7 → Inv (i + 1) r7 H7 → ∃ m, m < xs.length + 1 - i ∧ FQ W env fa fp wr xs St G G1 s Inv m s6 := by
   intro r7 H7 w iv7
   obtain ⟨G7, e7, hr7, f7⟩ := w env fa G6 s6 hr6 f6
   have e47 := e46.trans e7.weak
   have h4 := wk.has _ _ st4
   have own7 : ∀ b ∈ fp, G7.own b = none := fun b hb => by
    rcases e47.own b (h4 b hb) with z | z
    ·rw [z]; exact ow4 b hb
    ·exact z
   have g7 : ∀ b ∈ wr, G7.g b = none := fun b hb => by
    rw [e47.gnew b (h4 b (wk.sub b hb)) (ow4 b (wk.sub b hb)), e4.gnew b (hh4 b (wk.sub b hb)) (ow b (wk.sub b hb))]
    exact fr.g b hb
   exact ⟨xs.length + 1 - (i + 1), by exact J5 4 hlt, i + 1, G7, r7, H7, rfl, hlt, wk.frame _ _ _ st4 (e47.fp ow4 hfa), e06.trans e7.weak, hr7, f7, fun b o q => e47.gle b o (e4.gle b o (gle b o q)), own7, ⟨fun b hb => own7 b (wk.sub b hb), g7, fr.B0⟩, iv7⟩
  cases fl' with
  | next =>
   cases hfl
   obtain ⟨r7, H7, w, iv7⟩ := q6
   exact fin6 r7 H7 w iv7
  | cont =>
   cases hfl
   obtain ⟨r7, H7, w, iv7⟩ := q6
   exact fin6 r7 H7 w iv7
  | brk => cases hfl; exact ⟨G6, .next, r6, H6, e06, hr6, f6, rfl, q6⟩
  | ret p =>
   have hfl' := hfl
   obtain ⟨v, e, hv⟩ := hfl
   subst e
   exact ⟨G6, .ret p, r6, H6, e06, hr6, f6, hfl', q6⟩
 ·have : i = xs.length := by exact J3 7 hi hlt
  subst this
  refine jH (wk.done H' G' s' hr' gle fr st) ?_
  rintro _ s3 ⟨rfl, G3, e3, hr3⟩
  refine gv ⟨G3, .next, r', H', e'.turn e3 hnew, hr3, f'.turn e3 (fun b hb => hfa b (wk.sub b hb)) (wk.cell _ _ st), rfl, fin _ _ iv⟩
end
set_option backward.match.sparseCases true
noncomputable def uL (T : String) : Bool := !(["enumerate", "zip", "dict_itemiterator", "dict_reverseitemiterator", "odict_iterator", "itertools.zip_longest", "itertools.pairwise"].contains T)
theorem FS {prog : Program} {w : World} {A : Around} {E : Value → Shared → Prop} {s : Shared} {tgt : Expr} {I : Addr} {v : Value} {Q : Unit → Shared → Prop} {o : Obj} {T : String} {fs : Array Value} (ho : s.heap.get? I = some o) (hc : o.cls = .type T) (hd : o.data = .fields fs) (hp : uL T = true) (h : Q () s) :
  wpAny (model prog w) A (letOwnedTupleGo tgt (.ref I) v) Q E s := by
 have key : ∀ a : Addr, wpAny (model prog w) A (do
   let o ← load I
   match o.cls, o.data with
   | .type n, .fields vs =>
    if ["enumerate", "zip", "dict_itemiterator", "dict_reverseitemiterator", "odict_iterator", "itertools.zip_longest", "itertools.pairwise"].contains n && vs[0]? == some (rawInt a) then
     rule "for.unpacks-the-owned-tuple"
     updateField I 0 .none
   | _, _ => pure ()) Q E s := by
  intro a
  refine aj (wpAny_load ho ?_)
  rw [hc, hd]
  have : (["enumerate", "zip", "dict_itemiterator", "dict_reverseitemiterator", "odict_iterator", "itertools.zip_longest", "itertools.pairwise"].contains T) = false := by
   unfold uL at hp
   simpa using hp
  show wpAny _ A (if (["enumerate", "zip", "dict_itemiterator", "dict_reverseitemiterator", "odict_iterator", "itertools.zip_longest", "itertools.pairwise"].contains T && _ == _) = true then _ else _) Q E s
  rw [this, d5, if_neg (by simp)]
  exact aB h
 unfold letOwnedTupleGo
 cases tgt <;> first | exact aB h | (cases v <;> first | exact aB h | exact key _)
section
variable {W : Wd} {A : Around}
theorem Wk.of_walks {G0 : Gh} {I : Addr} {fp : List Addr} {n : Nat} {P : Nat → Value → Prop} {St : Nat → Heap → Prop} {xs : List PV} (Wa : Walks W.prog W.w A I fp [I] n P St) (hn : n = xs.length)
  (hP : ∀ i x v, xs[i]? = some x → P i v → RV W G0 x v) (hcls : ∀ i h, St i h → (∃ o T fs, h.get? I = some o ∧ o.cls = .type T ∧ o.data = .fields fs ∧ uL T = true)) (hhas : ∀ i h, St i h → ∀ b ∈ fp, ld h b) : Wk W A false G0 I fp [I] xs St where
 sub := Wa.sub
 frame := Wa.frame
 cell := fun i h st b hb u => by
  have : b = I := by simpa using hb
  subst this
  obtain ⟨o, T, fs, ho, _, hd, _⟩ := hcls i h st
  rintro ⟨o', ho', hd'⟩
  rw [ho] at ho'; cases ho'; rw [hd] at hd'; cases hd'
 has := hhas
 self := Wa.self
 item := fun tgt i H G s x _ hr gle fr st hx => by
  have hi : i < n := by rw [hn]; exact (aA.mp hx).1
  refine Wa.item i s _ _ hi st fun v h' tk pv st' hk => ⟨v, rfl, ?_⟩
  obtain ⟨o, T, fs, ho, hc, hd, hp⟩ := hcls _ _ st'
  refine FS (s := { s with heap := h', toks := tk }) ho hc hd hp ⟨G, ⟨fun _ _ e => e, fun _ _ => .inl rfl, fun _ _ _ => rfl, hk⟩, hr.turn fr hk, (hP i x v hx pv).mono gle, st'⟩
 done := fun H G s hr gle fr st => Wa.done s _ _ (hn ▸ st) fun h' tk hk => ⟨rfl, G, ⟨fun _ _ e => e, fun _ _ => .inl rfl, fun _ _ _ => rfl, hk⟩, hr.turn fr hk⟩
end
section
variable {W : Wd} {n : Nat} {r : jt} {H : HH} {Q : CL}
theorem oo {G s} {o : Obj} (hr : HR W G H s) (hf : o.isFreed = false) : ∀ tk, HR W G H { s with heap := s.heap.push o, toks := tk } ∧ kA [] G s G { s with heap := s.heap.push o, toks := tk } := fun tk =>
 ⟨hr.kept (dr := s.drawn) (jw o), kA.kept (dr := s.drawn) (jw o)⟩
theorem CM {xs : List PV} (h : Q xs H) : FP W n H (.lst xs) Q := fun A G s v R hr hv => by
 obtain ⟨a, vs, m, rfl, e1, rs⟩ := hv
 have e2 := (hr.imm _ _ e1).1
 have ho := (hr.imm _ _ e1).2
 refine fO (js e2) ?_
 obtain ⟨x, y⟩ := oo (o := { cls := .type "list_iterator", data := .fields #[.ref a, .int 0 0] }) hr rfl s.toks
 have hnh : ¬ ld s.heap s.heap.objs.size := ki (aU _)
 have hne : a ≠ s.heap.objs.size := fun q => hnh ⟨_, q ▸ e2⟩
 refine ⟨G, s.heap.objs.size, [s.heap.objs.size, a], [s.heap.objs.size], xs, H, _, rfl, y, x, fun b hb => ?_, fun b hb => ?_, fun b hb hh => ?_, fun b hb => ?_, Wk.of_walks (hY R.hd s.heap.objs.size a hne vs.toArray) ?_ ?_ ?_ ?_, ⟨⟨_, aW _ rfl, rfl, rfl⟩, js (jw _ _ _ e2)⟩, h⟩
 ·rw [aP.mp hb]; exact hnh
 ·rcases au.mp hb with q | hb
  ·rw [q]; exact hr.noOwn hnh
  ·have : b = a := by simpa using hb
   rw [this]; exact ho
 ·rcases au.mp hb with q | hb
  ·rw [q] at hh; exact absurd hh hnh
  ·have : b = a := by simpa using hb
   rw [this]; exact ⟨_, e1⟩
 ·rw [aP.mp hb]; exact hr.noG hnh
 ·rw [aH, rs.length]
 ·intro i x v hx hv
  obtain ⟨u, hu, ru⟩ := rs.get hx
  have : vs[i]? = some v := by simpa using hv
  rw [hu] at this; cases this; exact ru
 ·rintro i h ⟨⟨o, a1, a2, a3⟩, _⟩; exact ⟨o, _, _, a1, a2, a3, by decide⟩
 ·rintro i h ⟨⟨o, a1, a2, a3⟩, ⟨o', b1, _⟩⟩ b hb
  rcases au.mp hb with q | hb
  ·rw [q]; exact ⟨_, a1⟩
  ·have : b = a := by simpa using hb
   rw [this]; exact ⟨_, b1⟩
theorem CN {xs : List PV} (h : Q xs H) : FP W n H (.tup xs) Q := fun A G s v R hr hv => by
 obtain ⟨a, vs, rfl, ⟨o, e1, hc, k, hd⟩, rs⟩ := hv
 have e2 := (hr.imm _ _ e1).1
 have ho := (hr.imm _ _ e1).2
 have ht : s.heap.IsTuple a vs.toArray := ⟨_, e2, hc, k, hd⟩
 refine wpAny_pyIter_tuple ht ?_
 obtain ⟨x, y⟩ := oo (o := { cls := .type "tuple_iterator", data := .fields #[.ref a, .int 0 0] }) hr rfl s.toks
 have hnh : ¬ ld s.heap s.heap.objs.size := ki (aU _)
 have hne : a ≠ s.heap.objs.size := fun q => hnh ⟨_, q ▸ e2⟩
 refine ⟨G, s.heap.objs.size, [s.heap.objs.size, a], [s.heap.objs.size], xs, H, _, rfl, y, x, fun b hb => ?_, fun b hb => ?_, fun b hb hh => ?_, fun b hb => ?_, Wk.of_walks (Walks.tuple R.hd s.heap.objs.size a hne vs.toArray) ?_ ?_ ?_ ?_, ⟨⟨_, aW _ rfl, rfl, rfl⟩, ⟨_, jw _ _ _ e2, hc, k, hd⟩⟩, h⟩
 ·rw [aP.mp hb]; exact hnh
 ·rcases au.mp hb with q | hb
  ·rw [q]; exact hr.noOwn hnh
  ·have : b = a := by simpa using hb
   rw [this]; exact ho
 ·rcases au.mp hb with q | hb
  ·rw [q] at hh; exact absurd hh hnh
  ·have : b = a := by simpa using hb
   rw [this]; exact ⟨_, e1⟩
 ·rw [aP.mp hb]; exact hr.noG hnh
 ·rw [aH, rs.length]
 ·intro i x v hx hv
  obtain ⟨u, hu, ru⟩ := rs.get hx
  have : vs[i]? = some v := by simpa using hv
  rw [hu] at this; cases this; exact ru
 ·rintro i h ⟨⟨o, a1, a2, a3⟩, _⟩; exact ⟨o, _, _, a1, a2, a3, by decide⟩
 ·rintro i h ⟨⟨o, a1, a2, a3⟩, ⟨o', b1, _⟩⟩ b hb
  rcases au.mp hb with q | hb
  ·rw [q]; exact ⟨_, a1⟩
  ·have : b = a := by simpa using hb
   rw [this]; exact ⟨_, b1⟩
noncomputable def tQ (lo hi : Int) : List Int := (av (hi - lo).toNat).map fun (i : Nat) => lo + (i : Int)
theorem k8 {lo hi} : (tQ lo hi).length = (hi - lo).toNat := by simp [tQ]
theorem sO {lo hi : Int} {i : Nat} (h : i < (hi - lo).toNat) : (tQ lo hi)[i]? = some (lo + i) := by simp [tQ, h]
theorem yT {lo hi : Int} (h0 : -(2 ^ 62) ≤ lo) (h1 : lo < 2 ^ 62) (h2 : -(2 ^ 62) ≤ hi) (h3 : hi < 2 ^ 62) : gW lo hi 1 = true := by
 unfold gW Builtin.Range.rangeFitsLong
 rw [rangeSize_nat]
 simp only [a9, decide_eq_true_eq, cQ, beq_iff_eq]
 refine ⟨⟨⟨⟨⟨?_, ?_⟩, ?_, ?_⟩, ?_⟩, ?_, ?_⟩, ?_⟩ <;> first | lia | decide | skip
 right; simp; lia
theorem CO {lo hi : Int} (h0 : -(2 ^ 62) ≤ lo) (h1 : lo < 2 ^ 62) (h2 : -(2 ^ 62) ≤ hi) (h3 : hi < 2 ^ 62) (h : Q ((tQ lo hi).map .int) H) : FP W n H (.rng lo hi) Q := fun A G s v R hr hv => by
 obtain ⟨a, t, u, z, rfl, e1⟩ := hv
 have e2 := (hr.imm _ _ e1).1
 refine wpAny_pyIter_range e2 (yT h0 h1 h2 h3) ?_
 rw [rangeSize_nat]
 obtain ⟨x, y⟩ := oo (o := { cls := .type "range_iterator", data := .fields #[rawInt lo, rawInt ((hi - lo).toNat : Int), rawInt 1] }) hr rfl s.toks
 have hnh : ¬ ld s.heap s.heap.objs.size := ki (aU _)
 refine ⟨G, s.heap.objs.size, [s.heap.objs.size], [s.heap.objs.size], _, H, _, rfl, y, x, fun b hb => ?_, fun b hb => ?_, fun b hb hh => ?_, fun b hb => ?_, Wk.of_walks (Walks.range R.hd s.heap.objs.size lo 1 (hi - lo).toNat) ?_ ?_ ?_ ?_, ?_, h⟩
 ·rw [aP.mp hb]; exact hnh
 ·rw [aP.mp hb]; exact hr.noOwn hnh
 ·rw [aP.mp hb] at hh; exact absurd hh hnh
 ·rw [aP.mp hb]; exact hr.noG hnh
 ·rw [aa, k8]
 ·rintro i x v hx ⟨t, hv⟩
  rw [ax] at hx
  have hi : i < (hi - lo).toNat := by
   refine fD fun q => ?_
   rw [a8 (by rw [k8]; exact J10 10 q)] at hx; cases hx
  rw [sO hi] at hx
  cases hx
  exact show ∃ _, _ = _ from ⟨t, by rw [hv]; congr 1; exact J10 11⟩
 ·rintro i h st; exact ⟨_, _, _, st, rfl, rfl, by decide⟩
 ·rintro i h st b hb
  rw [aP.mp hb]; exact ⟨_, st⟩
 ·show IsRangeIter _ _ _ _ _
  have := aW s.heap (o := { cls := .type "range_iterator", data := .fields #[rawInt lo, rawInt ((hi - lo).toNat : Int), rawInt 1] }) rfl
  simpa using this
theorem CP {α : Type} {f : α → PV} {d : List (Int × α)} (h : Q (d.map fun p => .int p.1) H) : FP W n H (.dct (Dk f d)) Q := fun A G s v R hr hv => by
 obtain ⟨a, ds, m, rfl, e1, ⟨hsys, nd⟩, rs⟩ := hv
 have e2 := (hr.imm _ _ e1).1
 have ho := (hr.imm _ _ e1).2
 obtain ⟨kvs, kv, dof⟩ := kc (W := W) (f := f) e2 nd rs
 obtain ⟨ep, dat⟩ := dof.dictAt
 refine wpAny_pyIter_dict hsys dat ?_
 obtain ⟨x, y⟩ := oo (o := { cls := .type "dict_keyiterator", data := .fields #[.ref a, .int 0 0, .int kvs.length 0, .int ep 0] }) hr rfl s.toks
 have hnh : ¬ ld s.heap s.heap.objs.size := ki (aU _)
 have hne : a ≠ s.heap.objs.size := fun q => hnh ⟨_, q ▸ e2⟩
 refine ⟨G, s.heap.objs.size, [s.heap.objs.size, a], [s.heap.objs.size], _, H, _, rfl, y, x, fun b hb => ?_, fun b hb => ?_, fun b hb hh => ?_, fun b hb => ?_, Wk.of_walks (Walks.dictKeys R.hd s.heap.objs.size a hne kvs ep) ?_ ?_ ?_ ?_, ⟨⟨_, aW _ rfl, rfl, rfl⟩, dat.push _⟩, h⟩
 ·rw [aP.mp hb]; exact hnh
 ·rcases au.mp hb with q | hb
  ·rw [q]; exact hr.noOwn hnh
  ·have : b = a := by simpa using hb
   rw [this]; exact ho
 ·rcases au.mp hb with q | hb
  ·rw [q] at hh; exact absurd hh hnh
  ·have : b = a := by simpa using hb
   rw [this]; exact ⟨_, e1⟩
 ·rw [aP.mp hb]; exact hr.noG hnh
 ·rw [kv.length, aa]
 ·rintro i x v hx ⟨k, w, hk, hkv⟩
  have h1 : (kvs.map ai)[i]? = some k := by rw [ax, hk]; rfl
  rw [kv.keys, ax] at h1
  rw [ax] at hx
  cases hd : d[i]? with
  | none => rw [hd] at hx; cases hx
  | some p =>
   rw [hd] at hx h1
   simp only [gx, im] at hx h1
   subst hx; subst h1
   exact fN hkv
 ·rintro i h ⟨⟨o, a1, a2, a3⟩, _⟩; exact ⟨o, _, _, a1, a2, a3, by decide⟩
 ·rintro i h ⟨⟨o, a1, a2, a3⟩, ⟨o', es, b1, _⟩⟩ b hb
  rcases au.mp hb with q | hb
  ·rw [q]; exact ⟨_, a1⟩
  ·have : b = a := by simpa using hb
   rw [this]; exact ⟨_, b1⟩
end
set_option backward.match.sparseCases false
section
variable {W : Wd} {n : Nat} {r : jt} {H : HH}
inductive AU (Inv : Nat → CR) (k : Nat) (r : jt) (H : HH) : Prop
 | mk (j : Nat) (hj : j < k) (i : Inv j r H)
inductive WhI (W : Wd) (env : Env) (fa : List Addr) (G : Gh) (s : Shared) (Inv : Nat → CR) (k : Nat) (s' : Shared) : Prop
 | mk (G' : Gh) (r' : jt) (H' : HH) (e : kA fa G s G' s') (hr : HR W G' H' s') (f : FR W env fa r' G' s'.heap) (iv : Inv k r' H')
theorem AV {test body pos} {Q : jJ} (Inv : Nat → CR) (m : Nat) (h0 : Inv m r H)
  (step : ∀ k r' H', Inv k r' H' → Tv W n r' H' test fun b H1 => jC b (lm W n r' H1 body (jx W (AU Inv k) Q)) (Q .next r' H1)) : Ex W n r H (.While test body [] pos) Q := fun A env fa G s R hr f => by
 refine wpAny_While ?_
 refine codeAny_whileLoop (WhI W env fa G s Inv) ?_ m ⟨G, r, H, kA.refl, hr, f, h0⟩
 rintro k s' ⟨G', r', H', e', hr', f', iv⟩
 refine jH (step k r' H' iv A env fa G' s' R hr' f') ?_
 rintro b s1 ⟨G1, H1, e1, hr1, q1⟩
 cases b with
 | true =>
  skip
  refine jH (q1.1 rfl A env fa G1 s1 R hr1 (f'.ext e1)) ?_
  rintro fl s2 ⟨G2, fl', r2, H2, e2, hr2, f2, hfl, q2⟩
  have e02 := (e'.trans e1.weak).trans e2
  have fin2 : ∀ r3 H3, mG W r2 H2 r3 H3 → AU Inv k r3 H3 → ∃ m, m < k ∧ WhI W env fa G s Inv m s2 := by
   rintro r3 H3 w ⟨j, hj, iv3⟩
   obtain ⟨G3, e3, hr3, f3⟩ := w env fa G2 s2 hr2 f2
   exact ⟨j, hj, G3, r3, H3, e02.trans e3.weak, hr3, f3, iv3⟩
  cases fl' with
  | next => cases hfl; obtain ⟨r7, H7, w, iv7⟩ := q2; exact fin2 r7 H7 w iv7
  | cont => cases hfl; obtain ⟨r7, H7, w, iv7⟩ := q2; exact fin2 r7 H7 w iv7
  | brk => cases hfl; exact ⟨G2, .next, r2, H2, e02, hr2, f2, rfl, q2⟩
  | ret p =>
   have hfl' := hfl
   obtain ⟨v, e, hv⟩ := hfl
   subst e
   exact ⟨G2, .ret p, r2, H2, e02, hr2, f2, hfl', q2⟩
 | false =>
  skip
  exact gv ⟨G1, .next, r', H1, e'.trans e1.weak, hr1, f'.ext e1, rfl, q1.2 rfl⟩
theorem HR.addAt {G} {s : Shared} {T : Addr} {o : Obj} (x : HR W G H s) (ho : s.heap.get? T = some o) (hn : G.own T = none) (hg : G.g T = none) : HR W (G.addG T o) H s where
 bas := fun b ob e => by
  show (if b = T then some o else G.g b) = some ob
  rw [if_neg (fun q => by have := x.bas b ob e; rw [q, hg] at this; cases this)]; exact x.bas b ob e
 bown := x.bown
 imm := fun b ob e => by
  have e' : (if b = T then some o else G.g b) = some ob := e
  by_cases hb : b = T
  ·rw [if_pos hb] at e'; cases e'; subst hb; exact ⟨ho, hn⟩
  ·rw [if_neg hb] at e'; exact x.imm b ob e'
 nodup := x.nodup
 slot := fun c ob hm => (x.slot c ob hm).mono (fun b ob e => by
  show (if b = _ then _ else _) = _
  rw [if_neg (fun q => by rw [q, hg] at e; cases e)]; exact e) (fun b ob _ e => e) fun _ e => e
 os := x.os
 gens := x.gens
noncomputable def sP (xs : List PV) : List PV := (xs.zip (av xs.length)).map fun q => .tup [.int (q.2 : Int), q.1]
theorem mX {xs} : (sP xs).length = xs.length := by simp [sP]
theorem qX {xs : List PV} {i : Nat} {p : PV} (h : (sP xs)[i]? = some p) : ∃ x, xs[i]? = some x ∧ p = .tup [.int (i : Int), x] := by
 have hi : i < xs.length := by rw [← mX]; exact (aA.mp h).1
 refine ⟨xs[i], aG hi, ?_⟩
 have : (sP xs)[i]? = some (.tup [.int (i : Int), xs[i]]) := by
  simp [sP, ax, fE, hi]
 rw [h] at this; exact bD this
inductive FT (ps : List PV) (K : List PV → Prop) : Prop
 | mk (xs : List PV) (e : ps = [.lst xs]) (q : K xs)
theorem vG {x p args pos} {Q : CL} (hm : (x, Bd.glb) ∈ r) (hv : W.mg x = none) (hb : bootBuiltins x = some (.type "enumerate")) (hs : args.all jG = true)
  (h : nT W n r H args fun ps H1 => FT ps fun xs => Q (sP xs) H1) (hne : x ≠ "__name__") (hd : autoParam ((x == ("__debug__" : Str)) = false) aD) :
  tP W true n r H (.Call (.Name x p) args [] pos) Q := fun A env fa G s R hr fr => by
 refine mz hs (pV hr fr hm hv hb ?_ p hne hd)
 refine fo nX (kM (ay (h A env fa G s R hr fr) (fun vs s1 h1 => ?_) fun _ _ x => x))
 obtain ⟨G1, ps, H1, e1, r1, v1, ⟨xs, rfl, q1⟩⟩ := h1
 obtain ⟨v, _, rfl, v1, rfl⟩ := v1
 obtain ⟨l, vs, m, rfl, hg, rs⟩ := v1
 have hl := (r1.imm _ _ hg).1
 have ho := (r1.imm _ _ hg).2
 refine call_enumerate_1 hl fun h' hE hI hsz hk => ?_
 refine wpAny_pyIter_enum hE ?_
 have hr' : HR W G1 H1 { s1 with heap := h' } := r1.kept (tk := s1.toks) (dr := s1.drawn) hk
 have hi0 : ¬ ld s1.heap s1.heap.objs.size := ki (aU _)
 have he0 : ¬ ld s1.heap (s1.heap.objs.size + 1) := ki (cY _)
 have hl0 : ld s1.heap l := ⟨_, hl⟩
 have hle : l ≠ s1.heap.objs.size + 1 := fun q => he0 (q ▸ hl0)
 have hli : l ≠ s1.heap.objs.size := fun q => hi0 (q ▸ hl0)
 have hee : s1.heap.objs.size + 1 ≠ s1.heap.objs.size := iG _
 have Wt := WalksT.enumerate (prog := W.prog) (w := W.w) R.hd (s1.heap.objs.size + 1) s1.heap.objs.size l hee hle hli vs.toArray
 have wrn : ∀ b ∈ [s1.heap.objs.size + 1, s1.heap.objs.size], ¬ ld s1.heap b := fun b hb => by
  rcases au.mp hb with q | hb
  ·rw [q]; exact he0
  ·rw [aP.mp hb]; exact hi0
 have fpn : ∀ b ∈ [s1.heap.objs.size + 1, s1.heap.objs.size, l], ¬ ld s1.heap b ∨ b = l := fun b hb => by
  rcases au.mp hb with q | hb
  ·rw [q]; exact .inl he0
  ·rcases au.mp hb with q | hb
   ·rw [q]; exact .inl hi0
   ·rw [aP.mp hb]; exact .inr rfl
 refine ⟨G1, s1.heap.objs.size + 1, [s1.heap.objs.size + 1, s1.heap.objs.size, l], [s1.heap.objs.size + 1, s1.heap.objs.size], sP xs, H1, fun i h => (∃ old, IsEnum h (s1.heap.objs.size + 1) s1.heap.objs.size (((i : Nat) : Int)) old) ∧ h.IsListIter s1.heap.objs.size l i ∧ h.IsList l vs.toArray, rfl, e1.trans (kA.kept (tk := s1.toks) (dr := s1.drawn) hk), hr', fun b hb hh => wrn b hb (e1.there b hh), fun b hb => ?_, fun b hb hh => ?_, fun b hb => r1.noG (wrn b hb), ?_, ⟨⟨_, hE⟩, hI, js (hk _ _ hl)⟩, q1⟩
 ·rcases fpn b hb with q | q
  ·exact r1.noOwn q
  ·rw [q]; exact ho
 ·rcases fpn b hb with q | q
  ·exact absurd (e1.there b hh) q
  ·rw [q]; exact ⟨_, hg⟩
 ·refine { sub := Wt.sub, frame := Wt.frame, self := Wt.self, cell := fun i h st b hb u => ?_, has := fun i h st b hb => ?_, item := fun tgt i H G s x htt hr gle fr st hx => ?_, done := fun H G s hr gle fr st => ?_ }
  ·obtain ⟨⟨old, a⟩, ⟨o, b1, b2, b3⟩, c⟩ := st
   rintro ⟨oc, hc, hd⟩
   rcases au.mp hb with q | hb
   ·rw [q, a] at hc; cases hc; cases hd
   ·rw [aP.mp hb, b1] at hc; cases hc; rw [b3] at hd; cases hd
  ·obtain ⟨⟨old, a⟩, ⟨o, b1, b2, b3⟩, ⟨oc, c1, _⟩⟩ := st
   rcases au.mp hb with q | hb
   ·rw [q]; exact ⟨_, a⟩
   ·rcases au.mp hb with q | hb
    ·rw [q]; exact ⟨_, b1⟩
    ·rw [aP.mp hb]; exact ⟨_, c1⟩
  ·have htt' := htt rfl
   obtain ⟨x, hx', rfl⟩ := qX hx
   obtain ⟨v, hv, rv⟩ := rs.get hx'
   have hi : i < vs.toArray.size := by
    rw [aH]; exact (aA.mp hv).1
   refine Wt.item i s _ _ hi st fun T vals h' tk pt hT ht hmid hk => ⟨_, rfl, ?_⟩
   cases tgt with
   | Tuple elts k pos =>
    refine Wt.go elts k pos i T _ _ _ hmid fun h'' st'' hk'' => ?_
    obtain ⟨o, ho, hoc, ho'⟩ := ht
    have hTw := Wt.apart _ _ _ hmid
    have hk2 : ∀ b o, b ∉ [s1.heap.objs.size + 1, s1.heap.objs.size] → s.heap.get? b = some o → h''.get? b = some o := fun b o hb e => hk'' b o hb (hk b o hb e)
    have hT' : ¬ ld s.heap T := ki hT
    refine ⟨G.addG T o, ⟨fun b ob e => ?_, fun _ _ => .inl rfl, fun b hb _ => ?_, hk2⟩, (hr.turn (tk := tk) fr hk2).addAt (hk'' T o hTw ho) (hr.noOwn hT') (hr.noG hT'), ?_, st''⟩
    ·show (if b = _ then _ else _) = _
     rw [if_neg (fun q => by rw [q, hr.noG hT'] at e; cases e)]; exact e
    ·show (if b = _ then _ else _) = _
     rw [if_neg (fun q => hT' (by rw [← q]; exact hb))]
    ·obtain ⟨t, x', hx2, rfl⟩ := pt
     have : x' = v := by
      have h2 : vs[i]? = some x' := by simpa using hx2
      rw [hv] at h2; exact (bD h2).symm
     subst this
     refine vn.mk T [.int i t, x'] rfl ⟨o, if_pos rfl, hoc, ho'⟩ ?_
     refine j0.cons (show ∃ _, _ = _ from ⟨t, rfl⟩) (j0.one (rv.mono fun b ob e => ?_))
     show (if b = _ then _ else _) = _
     have e := gle b ob e
     rw [if_neg (fun q => by rw [q, hr.noG hT'] at e; cases e)]; exact e
   | _ => exact absurd (htt rfl) cD
  ·rw [mX, ← rs.length] at st
   exact Wt.done s _ _ (by simpa using st) fun h' tk hk => ⟨rfl, G, ⟨fun _ _ e => e, fun _ _ => .inl rfl, fun _ _ _ => rfl, hk⟩, hr.turn fr hk⟩
end
theorem FR.hid {W env fa r G h} (x : FR W env fa r G h) (R : HH) : FR W env fa r (G.hid R) h where
 kind := x.kind
 glo := x.glo
 blt := x.blt
 nodup := x.nodup
 ns := by
  obtain ⟨m, hn, hm⟩ := x.ns
  exact ⟨m, hn, fun y c v a b => by obtain ⟨cv, p, q⟩ := hm y c v a b; exact ⟨cv, p, q.mono (G' := G.hid R) fun b o (e : G.g b = some o) => e⟩⟩
 glb := x.glb
 loc := fun y b ov hy => by
  rcases x.loc y b ov hy with h | ⟨hb, hk, c, u, h1, h2, h6, h7⟩
  ·exact .inl h
  ·exact .inr ⟨hb, hk, c, u, h1, h2, h6, fun v e => by obtain ⟨cv, p, q⟩ := h7 v e; exact ⟨cv, p, q.mono (G' := G.hid R) fun b o (e : G.g b = some o) => e⟩⟩
 fre := fun y v hy => by
  obtain ⟨hk, c, cv, h1, h2, h3, h4, h5, h6, h7⟩ := x.fre y v hy
  exact ⟨hk, c, cv, h1, h2, Gh.hid_none h3, h4, h5, h6, h7.mono (G' := G.hid R) fun b o (e : G.g b = some o) => e⟩
 locf := x.locf
 ownf := fun a ha => by
  obtain ⟨h1, h2, h3, h4⟩ := x.ownf a ha
  exact ⟨Gh.hid_none h1, h2, h3, h4⟩
 apart := x.apart
section
variable {W : Wd} {n : Nat} {r : jt} {H : HH}
theorem Ev.frame {P R e} {Q : CV} (sp : jK H P R) (h : Ev W n r P e fun p P' => Q p (P' ++ R)) : Ev W n r H e Q := fun A env fa G s Rm hr f => by
 refine jH (h A env fa (G.hid R) s Rm (hr.hide sp) (f.hid R)) fun v s1 ⟨G1, p, P', e1, r1, v1, q1⟩ => ?_
 obtain ⟨e2, r2⟩ := hr.unhide sp e1 r1
 exact ⟨_, p, _, e2, r2, v1.mono (G' := G1.show_ G R) (fun b o (e : G1.g b = some o) => e), q1⟩
theorem Tv.frame {P R e} {Q : CB} (sp : jK H P R) (h : Tv W n r P e fun p P' => Q p (P' ++ R)) : Tv W n r H e Q := fun A env fa G s Rm hr f => by
 refine jH (h A env fa (G.hid R) s Rm (hr.hide sp) (f.hid R)) fun v s1 ⟨G1, P', e1, r1, q1⟩ => ?_
 obtain ⟨e2, r2⟩ := hr.unhide sp e1 r1
 exact ⟨_, _, e2, r2, q1⟩
inductive EF (Q : CV) (p : PV) (H1 : HH) : Prop
 | mk (K S K' : HH) (q : PV) (sp : jK H1 K S) (rf : pA S p q) (hw : mV S K K') (k : Q q K')
theorem Ev.frz {e} {Q : CV} (h : Ev W n r H e (EF Q)) : Ev W n r H e Q := fun A env fa G s Rm hr f => by
 refine jH (h A env fa G s Rm hr f) fun v s1 h1 => ?_
 obtain ⟨G1, p, P', e1, r1, v1, ⟨K, S, K', q, sp, rf, hw, q1⟩⟩ := h1
 obtain ⟨e2, y, hy, _⟩ := r1.freeze2 sp hw
 exact ⟨_, q, K', e1.trans e2, y, hy _ _ _ rf v1, q1⟩
end
theorem HR.perm {W G H H' s} (x : HR W G H s) (p : H.Perm H') : HR W G H' s where
 bas := x.bas
 bown := x.bown
 imm := x.imm
 nodup := (p.map _).nodup_iff.mp x.nodup
 slot := fun a o hm => x.slot a o (p.mem_iff.mpr hm)
 os := x.os
 gens := x.gens
theorem jK.snoc {H : HH} {d} : jK (H ++ [d]) H [d] := by
 induction H with
 | nil => exact .r .nil
 | cons _ _ ih => exact .l ih
theorem kQ.snoc {H : HH} {a o o'} : kQ a o o' (H ++ [(a, o)]) (H ++ [(a, o')]) := by
 induction H with
 | nil => exact .head
 | cons _ _ ih => exact .tail ih
theorem lp.again {x p q} {r r1 r2 : jt} (a : lp x p r r1) (b : lp x q r r2) (hn : (r.map ai).Nodup) : lp x q r1 r2 := by
 induction a generalizing r2 with
 | head =>
  rw [aC, aY] at hn
  cases b with
  | head => exact .head
  | tail b => obtain ⟨_, _, h, _⟩ := b.there; exact absurd (aO (f := ai) h) hn.1
 | tail a ih =>
  rw [aC, aY] at hn
  cases b with
  | head => obtain ⟨_, _, h, _⟩ := a.there; exact absurd (aO (f := ai) h) hn.1
  | tail b => exact .tail (ih b hn.2)
inductive k9 (r : jt) : List (Str × NameKind) → jt → Prop
 | nil : k9 r [] []
 | glb {x ns r'} : k9 r ns r' → k9 r ((x, .globalImplicit) :: ns) ((x, .glb) :: r')
 | loc {x ns r'} : k9 r ns r' → k9 r ((x, .local) :: ns) ((x, .loc false none) :: r')
 | cel {x ns r'} : k9 r ns r' → k9 r ((x, .cell) :: ns) ((x, .loc true none) :: r')
 | capL {x v ns r'} : (x, Bd.loc true (some v)) ∈ r → k9 r ns r' → k9 r ((x, .free) :: ns) ((x, .fre v) :: r')
 | capF {x v ns r'} : (x, Bd.fre v) ∈ r → k9 r ns r' → k9 r ((x, .free) :: ns) ((x, .fre v) :: r')
theorem k9.keys {r ns r'} (h : k9 r ns r') : r'.map ai = ns.map ai := by
 induction h with
 | nil => rfl
 | glb _ ih => simp only [aC, ih]
 | loc _ ih => simp only [aC, ih]
 | cel _ ih => simp only [aC, ih]
 | capL _ _ ih => simp only [aC, ih]
 | capF _ _ ih => simp only [aC, ih]
inductive xL (r : jt) (ns : List (Str × NameKind)) (x : Str) (b : Bd) : Prop
 | g (e : b = .glb) (h : (x, fZ) ∈ ns)
 | l (e : b = .loc false none) (h : (x, NameKind.local) ∈ ns)
 | c (e : b = .loc true none) (h : (x, fQ) ∈ ns)
 | f (v : PV) (e : b = .fre v) (h : (x, cw) ∈ ns) (k : (x, Bd.loc true (some v)) ∈ r ∨ (x, Bd.fre v) ∈ r)
theorem xL.tl {r ns x b p} (h : xL r ns x b) : xL r (p :: ns) x b := by
 cases h with
 | g e h => exact .g e (.tail _ h)
 | l e h => exact .l e (.tail _ h)
 | c e h => exact .c e (.tail _ h)
 | f v e h k => exact .f v e (.tail _ h) k
theorem k9.mem {r ns r'} (h : k9 r ns r') {x b} (hm : (x, b) ∈ r') : xL r ns x b := by
 induction h with
 | nil => cases hm
 | glb _ ih => cases hm with
  | head => exact .g rfl (.head _)
  | tail _ hm => exact (ih hm).tl
 | loc _ ih => cases hm with
  | head => exact .l rfl (.head _)
  | tail _ hm => exact (ih hm).tl
 | cel _ ih => cases hm with
  | head => exact .c rfl (.head _)
  | tail _ hm => exact (ih hm).tl
 | capL h0 _ ih => cases hm with
  | head => exact .f _ rfl (.head _) (.inl h0)
  | tail _ hm => exact (ih hm).tl
 | capF h0 _ ih => cases hm with
  | head => exact .f _ rfl (.head _) (.inr h0)
  | tail _ hm => exact (ih hm).tl
theorem k9.free {r ns r'} (h : k9 r ns r') {x} (hm : (x, cw) ∈ ns) : ∃ v, ((x, Bd.loc true (some v)) ∈ r ∨ (x, Bd.fre v) ∈ r) := by
 induction h with
 | nil => cases hm
 | glb _ ih => rcases au.mp hm with e | hm; cases e; exact ih hm
 | loc _ ih => rcases au.mp hm with e | hm; cases e; exact ih hm
 | cel _ ih => rcases au.mp hm with e | hm; cases e; exact ih hm
 | capL h0 _ ih =>
  rcases au.mp hm with e | hm
  ·cases e; exact ⟨_, .inl h0⟩
  ·exact ih hm
 | capF h0 _ ih =>
  rcases au.mp hm with e | hm
  ·cases e; exact ⟨_, .inr h0⟩
  ·exact ih hm
theorem FR.cap {W env fa r G h} (f : FR W env fa r G h) {x v} (hm : (x, Bd.loc true (some v)) ∈ r ∨ (x, Bd.fre v) ∈ r) :
  env.kindOf x = some .cell ∧ ∃ c cv, env.cells.lookup x = some c ∧ h.IsCell c (some cv) ∧ G.own c = none ∧ G.g c = none ∧ W.B0.get? c = none ∧ RV W G v cv := by
 rcases hm with hm | hm
 ·rcases f.loc x _ _ hm with ⟨q, _⟩ | ⟨_, hk, c, u, h1, h2, h6, h7⟩
  ·cases q
  ·obtain ⟨cv, q1, q2⟩ := h7 v rfl
   obtain ⟨a1, a2, a3, a4⟩ := f.ownf c h6
   exact ⟨hk, c, cv, h1, q1 ▸ h2, a1, a2, a3, q2⟩
 ·obtain ⟨hk, c, cv, h1, h2, h3, h4, h5, h6, h7⟩ := f.fre x v hm
  exact ⟨hk, c, cv, h1, h2, h3, h4, h5, h7⟩
noncomputable def kn (env : Env) : List (Str × NameKind) → List (Str × Addr) → List (Str × Addr)
 | [], acc => acc
 | (x, k) :: r, acc => kn env r (if k == .free then (x, (env.cells.lookup x).getD 0) :: acc else acc)
theorem nM {env : Env} {x k r acc} : kn env ((x, k) :: r) acc = kn env r (if k == .free then (x, (env.cells.lookup x).getD 0) :: acc else acc) := rfl
theorem qY {env : Env} (F : Str × NameKind → List (Str × Addr) → Sem (ForInStep (List (Str × Addr))))
  (hF : ∀ x k cs, F (x, k) cs = if k == .free then (do let a ← cellOf env x; pure (.yield ((x, a) :: cs))) else pure (.yield cs)) :
  ∀ (names : List (Str × NameKind)) (acc : List (Str × Addr)), (∀ x, (x, cw) ∈ names → ∃ c, env.cells.lookup x = some c) → (forIn names acc F : Sem _) = pure (kn env names acc)
 | [], acc, _ => by rw [gH]; rfl
 | (x, k) :: r, acc, h => by
  rw [eL, hF, nM]
  split
  ·rename_i hk
   have hk' : k = .free := by simpa using hk
   subst hk'
   obtain ⟨c, hc⟩ := h x (.head _)
   have : cellOf env x = pure c := by unfold cellOf; rw [hc]
   rw [this, hc]
   show (forIn r _ F : Sem _) = _
   exact qY F hF r _ fun y hy => h y (.tail _ hy)
  ·show (forIn r _ F : Sem _) = _
   exact qY F hF r _ fun y hy => h y (.tail _ hy)
theorem wK {scope : Scope} {env : Env} (h : ∀ x, (x, cw) ∈ scope.names → ∃ c, env.cells.lookup x = some c) : closureFor scope env = pure (kn env scope.names []) := by
 unfold closureFor
 refine (congrArg (fun m : Sem (List (Str × Addr)) => m >>= fun cs => pure cs) (qY _ (fun x k cs => ?_) scope.names [] h)).trans rfl
 cases hk : k == cw <;> simp [hk]
theorem qp {env : Env} : ∀ {names : List (Str × NameKind)} {acc : List (Str × Addr)}, (∀ x, (x, cw) ∈ names → ∃ c, env.cells.lookup x = some c) → ∀ {x c}, (x, c) ∈ kn env names acc → (x, c) ∈ acc ∨ ((x, cw) ∈ names ∧ env.cells.lookup x = some c)
 | [], acc, _, x, c, h => .inl h
 | (y, k) :: r, acc, hc, x, c, h => by
  rw [nM] at h
  rcases qp (fun z hz => hc z (.tail _ hz)) h with h | ⟨h, h'⟩
  ·by_cases hk : (k == cw) = true
   ·have hk' : k = .free := by simpa using hk
    subst hk'
    rw [if_pos hk] at h
    rcases au.mp h with e | h
    ·cases e
     obtain ⟨c', hc'⟩ := hc _ (.head _)
     exact .inr ⟨.head _, by rw [hc']; rfl⟩
    ·exact .inl h
   ·rw [if_neg hk] at h; exact .inl h
  ·exact .inr ⟨.tail _ h, h'⟩
theorem sh {env : Env} : ∀ {names : List (Str × NameKind)} {acc : List (Str × Addr)} {x c}, ((x, c) ∈ acc ∨ ((x, cw) ∈ names ∧ env.cells.lookup x = some c)) → (x, c) ∈ kn env names acc
 | [], acc, x, c, h => by
  rcases h with h | ⟨h, _⟩
  ·exact h
  ·cases h
 | (y, k) :: r, acc, x, c, h => by
  rw [nM]
  rcases h with h | ⟨h, h'⟩
  ·refine sh (.inl ?_)
   split
   ·exact .tail _ h
   ·exact h
  ·rcases au.mp h with e | h
   ·cases e
    refine sh (.inl ?_)
    rw [if_pos (by rfl), h']
    exact .head _
   ·exact sh (.inr ⟨h, h'⟩)
theorem mq : ∀ (names : List (Str × NameKind)) (n : Nat) (acc : List (Str × Addr)), cellsFrom n names acc = cellsFrom n names [] ++ acc
 | [], n, acc => rfl
 | (x, k) :: r, n, acc => by
  show (if k == .cell then cellsFrom (n + 1) r ((x, n) :: acc) else cellsFrom n r acc) = (if k == .cell then cellsFrom (n + 1) r [(x, n)] else cellsFrom n r []) ++ acc
  split
  ·rw [mq r _ ((x, n) :: acc), mq r _ [(x, n)], d6]; rfl
  ·exact mq r n acc
theorem q7 : ∀ (names : List (Str × NameKind)) (n : Nat) (acc : List (Str × Addr)) {x c}, (x, c) ∈ cellsFrom n names acc → (x, c) ∈ acc ∨ (x, fQ) ∈ names
 | [], n, acc, x, c, h => .inl h
 | (y, k) :: r, n, acc, x, c, h => by
  have h : (x, c) ∈ (if k == .cell then cellsFrom (n + 1) r ((y, n) :: acc) else cellsFrom n r acc) := h
  split at h
  ·rename_i hk
   have hk' : k = .cell := by simpa using hk
   subst hk'
   rcases q7 r _ _ h with h | h
   ·rcases au.mp h with e | h
    ·cases e; exact .inr (.head _)
    ·exact .inl h
   ·exact .inr (.tail _ h)
  ·exact (q7 r _ _ h).imp id (.tail _)
theorem sQ {l : List (Str × Addr)} {x : Str} {c : Addr} (h1 : (x, c) ∈ l) (h2 : ∀ c', (x, c') ∈ l → c' = c) : l.lookup x = some c := by
 induction l with
 | nil => cases h1
 | cons p l ih =>
  obtain ⟨y, d⟩ := p
  rw [dH]
  cases hy : x == y with
  | true =>
   have : x = y := by simpa using hy
   subst this
   rw [h2 d (.head _)]
  | false =>
   refine ih ?_ fun c' h => h2 c' (.tail _ h)
   rcases au.mp h1 with e | h
   ·cases e; simp at hy
   ·exact h
theorem tR {M : Model} {A : Around} {E : Value → Shared → Prop} {s : Shared} {scope : Scope} {globals : Addr} {cl : List (Str × Addr)} {qual : Str} {env : Env} {Q : Env → Shared → Prop}
  (h : Q { scope := scope, locals := s.heap.objs.size, globals := globals, cells := cellsFrom (s.heap.objs.size + 1) scope.names cl, qual := qual, func := none, code := env.code, frame := env.frame, builtins := env.builtins } { s with heap := pushCells (s.heap.push { cls := .type "dict", data := .dict #[] }) scope.names }) :
  wpAny M A (newFunctionEnv scope globals cl [] qual none .none (some env)) Q E s := by
 simp only [newFunctionEnv, ia, if_true]
 refine aj (wpAny_alloc ?_)
 refine aj (wpAny_layCells _ (fun name kind cells => by cases hkc : kind == fQ <;> simp [hkc]) _ _ _ _ ?_)
 rw [show ({ s with heap := s.heap.push { cls := .type "dict", data := .dict #[] } } : Shared).heap.objs.size = s.heap.objs.size + 1 from cN ..]
 exact aj (aB (aB h))
noncomputable def oY (scope : Scope) (cl : List (Str × Addr)) (L : Addr) (env : Env) : Env :=
 { scope := relabel scope env, locals := L, globals := env.globals, cells := cellsFrom (L + 1) scope.names cl, qual := env.qual, func := none, code := env.code, frame := env.frame, builtins := env.builtins }
theorem mY {scope : Scope} {env : Env} (hn : (scope.names.map ai).Nodup) {x k} (h : (x, k) ∈ scope.names) :
  (relabel scope env).names.lookup x = some (if (k == .free && env.scope.kind == .function && env.kindOf x == some .cell) = true then .cell else k) := by
 have hk : ((relabel scope env).names.map ai) = scope.names.map ai := by
  show (cV _ (cV _ _)) = _
  rw [aX]
  refine bQ fun a ha => ?_
  show (if _ then _ else _ : Str × NameKind).1 = a.1
  split <;> rfl
 refine jE (by rw [hk]; exact hn) ?_
 show _ ∈ cV _ _
 refine az.mpr ⟨(x, k), h, ?_⟩
 show (if _ then _ else _ : Str × NameKind) = _
 split <;> rfl
section
variable {W : Wd} {n : Nat} {r : jt} {H : HH}
theorem CQ {env fa G} {s : Shared} {scope : Scope} {cr : jt} (hr : HR W G H s) (f : FR W env fa r G s.heap) (hk : scope.kind = .function) (hn : (scope.names.map ai).Nodup) (cp : k9 r scope.names cr) :
  (∀ b o, s.heap.get? b = some o → (pushCells (s.heap.push { cls := .type "dict", data := .dict #[] }) scope.names).get? b = some o) ∧
  ∃ fc, (∀ a ∈ fc, ¬ ld s.heap a) ∧ FR W (oY scope (kn env scope.names []) s.heap.objs.size env) fc cr G (pushCells (s.heap.push { cls := .type "dict", data := .dict #[] }) scope.names) := by
 have hfree : ∀ x, (x, cw) ∈ scope.names → ∃ c, env.cells.lookup x = some c := fun x hx => by
  obtain ⟨v, hv⟩ := cp.free hx
  obtain ⟨_, c, _, h, _⟩ := f.cap hv
  exact ⟨c, h⟩
 have hkp : ∀ b o, s.heap.get? b = some o → (pushCells (s.heap.push { cls := .type "dict", data := .dict #[] }) scope.names).get? b = some o := fun b o e => pushCells_keeps _ _ b o (be _ e)
 refine ⟨hkp, ?_⟩
 have ok := cellsFrom_ok scope.names (s.heap.push { cls := .type "dict", data := .dict #[] }) (s.heap.objs.size + 1) [] ⟨fun _ _ hm => (nomatch hm), List.Pairwise.nil⟩ (by rw [cN]; exact aU _)
 rw [cN] at ok
 have hns : (pushCells (s.heap.push { cls := .type "dict", data := .dict #[] }) scope.names).Ns s.heap.objs.size (fun _ => none) := (Heap.Ns.new s.heap (.type "dict")).keeps (pushCells_keeps _ _)
 have e1 : kA [] G s G { s with heap := pushCells (s.heap.push { cls := .type "dict", data := .dict #[] }) scope.names } := kA.kept (tk := s.toks) (dr := s.drawn) hkp
 generalize pushCells (s.heap.push { cls := .type "dict", data := .dict #[] }) scope.names = h1 at *
 have hcells : (oY scope (kn env scope.names []) s.heap.objs.size env).cells = cellsFrom (s.heap.objs.size + 1) scope.names [] ++ kn env scope.names [] := mq _ _ _
 have hkof : ∀ y, (oY scope (kn env scope.names []) s.heap.objs.size env).kindOf y = (relabel scope env).names.lookup y := fun y => rfl
 have hnotcell : ∀ {x c}, (x, cw) ∈ scope.names → (x, c) ∉ cellsFrom (s.heap.objs.size + 1) scope.names [] := fun {x c} hx hm => by
  rcases q7 _ _ _ hm with q | q
  ·cases q
  ·have a := jE hn hx
   rw [jE hn q] at a; cases a
 have hfr : ∀ a ∈ s.heap.objs.size :: (cellsFrom (s.heap.objs.size + 1) scope.names []).map bB, ¬ ld s.heap a ∧ ld h1 a := fun a ha => by
  rcases au.mp ha with e | ha
  ·rw [e]; exact ⟨ki (aU _), sv hns⟩
  ·obtain ⟨⟨y, c⟩, hm, rfl⟩ := az.mp ha
   obtain ⟨q1, q2⟩ := ok.empty y c hm
   exact ⟨ki (bj (cY _) q2), nV q1⟩
 refine ⟨s.heap.objs.size :: (cellsFrom (s.heap.objs.size + 1) scope.names []).map bB, fun a ha => (hfr a ha).1, ?_⟩
 refine { kind := hk, glo := f.glo, blt := f.blt, nodup := by rw [show (cr.map fun x => x.1) = cr.map ai from rfl, cp.keys]; exact hn, ns := ⟨_, hns, fun y yb v hy hkl => ?_⟩, glb := fun y hy => ?_, loc := fun y yb ov hy => ?_, fre := fun y v hy => ?_, locf := .head _, ownf := fun a ha => ⟨hr.noOwn (hfr a ha).1, hr.noG (hfr a ha).1, hr.noB (hfr a ha).1, (hfr a ha).2⟩, apart := fun y z c h1 h2 => ?_ }
 ·rcases cp.mem hy with ⟨q, _⟩ | ⟨q, _⟩ | ⟨q, _⟩ | ⟨_, q, _⟩ <;> cases q
 ·rcases cp.mem hy with ⟨_, q⟩ | ⟨q, _⟩ | ⟨q, _⟩ | ⟨_, q, _⟩
  ·rw [hkof, mY hn q]; rfl
  all_goals cases q
 ·rcases cp.mem hy with ⟨q, _⟩ | ⟨q, h⟩ | ⟨q, h⟩ | ⟨_, q, _⟩
  ·cases q
  ·cases q
   left; refine ⟨rfl, ?_⟩; rw [hkof, mY hn h]; rfl
  ·cases q
   have hsome : ((cellsFrom (s.heap.objs.size + 1) scope.names []).lookup y).isSome = true := cellsFrom_some _ _ _ (.inl (jE hn h))
   obtain ⟨c, hc⟩ := fR.mp hsome
   have hm := mem_of_lookup hc
   refine .inr ⟨rfl, by rw [hkof, mY hn h]; rfl, c, none, ?_, (ok.empty y c hm).1, .tail _ (aO (f := bB) hm), fun v e => by cases e⟩
   rw [hcells]
   refine sQ (bu _ hm) fun c' h' => ?_
   rcases aQ.mp h' with h' | h'
   ·have hnd : ((cellsFrom (s.heap.objs.size + 1) scope.names []).map ai).Nodup := rE hn
    have := jE hnd h'
    rw [hc] at this; exact (bD this).symm
   ·rcases qp hfree h' with q | ⟨q, _⟩
    ·cases q
    ·have a := jE hn q
     rw [jE hn h] at a; cases a
  ·cases q
 ·rcases cp.mem hy with ⟨q, _⟩ | ⟨q, _⟩ | ⟨q, _⟩ | ⟨v', q, h, hc⟩
  ·cases q
  ·cases q
  ·cases q
  ·cases q
   obtain ⟨hkc, c, cv, h1', h2, h3, h4, h5, h7⟩ := f.cap hc
   refine ⟨?_, c, cv, ?_, ?_, h3, h4, h5, ?_, h7⟩
   ·rw [hkof, mY hn h, f.kind, hkc]; rfl
   ·rw [hcells]
    refine sQ (cz _ (sh (.inr ⟨h, h1'⟩))) fun c' h' => ?_
    rcases aQ.mp h' with h' | h'
    ·exact absurd h' (hnotcell h)
    ·rcases qp hfree h' with q | ⟨_, q⟩
     ·cases q
     ·rw [h1'] at q; exact (bD q).symm
   ·obtain ⟨o, ho, hd⟩ := h2; exact ⟨o, hkp _ _ ho, hd⟩
   ·obtain ⟨o, ho, hd⟩ := h2
    exact fun hm => (hfr c hm).1 ⟨o, ho⟩
 ·rw [hcells] at h1 h2
  have m1 := aQ.mp (mem_of_lookup h1)
  have m2 := aQ.mp (mem_of_lookup h2)
  have old : ∀ {x c}, (x, c) ∈ kn env scope.names [] → ld s.heap c ∧ env.cells.lookup x = some c := fun {x c} h => by
   rcases qp hfree h with q | ⟨q, q'⟩
   ·cases q
   ·refine ⟨?_, q'⟩
    obtain ⟨v, hv⟩ := cp.free q
    obtain ⟨_, c', cv, h1', h2, _⟩ := f.cap hv
    rw [h1'] at q'; cases q'
    exact nV h2
  rcases m1 with m1 | m1 <;> rcases m2 with m2 | m2
  ·exact name_of_addr ok.apart m1 m2
  ·exact absurd (old m2).1 (hfr c (.tail _ (aO (f := bB) m1))).1
  ·exact absurd (old m1).1 (hfr c (.tail _ (aO (f := bB) m2))).1
  ·exact f.apart _ _ _ (old m1).2 (old m2).2
noncomputable def yU (W : Wd) (n : Nat) (r : jt) (H : HH) : List Expr → (CB) → Prop
 | [], Q => Q true H
 | [c], Q => Tv W n r H c Q
 | _, _ => False
theorem AW {A env fa G s ifs} {Q : CB} (h : yU W n r H ifs Q) (R : lg A n) (hr : HR W G H s) (f : FR W env fa r G s.heap) :
  wpAny (model W.prog W.w) A (forIn ifs true fun c r => if r = true then do let ok ← isTrue c env (eval c env); pure (iT ok) else pure (iT r)) (uy W Q G s) mO s := by
 match ifs, h with
 | [], h => rw [gH]; exact aB ⟨G, H, kA.refl, hr, h⟩
 | [c], h => exact wpAny_tests_one (h A env fa G s R hr f)
theorem yU.frame {P R ifs} {Q : CB} (sp : jK H P R) (h : yU W n r P ifs fun p P' => Q p (P' ++ R)) (h0 : Q true (P ++ R) → Q true H) : yU W n r H ifs Q := by
 match ifs, h with
 | [], h => exact h0 h
 | [c], h => exact Tv.frame sp h
theorem yU.mono {ifs} {Q Q' : CB} (h : yU W n r H ifs Q) (hq : ∀ b H', Q b H' → Q' b H') : yU W n r H ifs Q' := by
 match ifs, h with
 | [], h => exact hq _ _ h
 | [c], h => exact fun A env fa G s R hr f => jH (h A env fa G s R hr f) fun v s1 ⟨G1, P', e1, r1, q1⟩ => ⟨G1, P', e1, r1, hq _ _ q1⟩
inductive FU (W : Wd) (cenv : Env) (fc fp wr : List Addr) (xs : List PV) (St : Nat → Heap → Prop) (G0 G : Gh) (s0 : Shared) (D : Addr) (x : Str) (cr : jt) (Inv : Nat → CL) (k : Nat) (s' : Shared) : Prop
 | mk (i : Nat) (G' : Gh) (ys : List PV) (H' : HH) (rr : jt) (ek : k = xs.length + 1 - i) (hi : i ≤ xs.length) (st : St i s'.heap) (e : kA [] G0 s0 G' s') (hr : HR W G' (H' ++ [(D, .lst ys)]) s') (f : FR W cenv fc rr G' s'.heap) (hrr : rr = cr ∨ ∃ p, lp x p cr rr) (gle : ∀ b o, G.g b = some o → G'.g b = some o) (ow : ∀ b ∈ fp, G'.own b = none) (fr : uI W G' wr) (iv : Inv i ys H')
inductive CS (W : Wd) (n : Nat) (D : Addr) (ys : List PV) (K : HH → Prop) (P : HH) : Prop
 | mk (H2 : HH) (e : P = H2 ++ [(D, .lst ys)]) (k : K H2)
theorem vH {A env fa} {s0 s : Shared} {G0 G : Gh} {I : Addr} {fp wr : List Addr} {xs : List PV} {St : Nat → Heap → Prop} {elt iter : Expr} {x : Str} {px pos : Pos} {ifs : List Expr} {scope : Scope} {cr : jt} {use : Option (Value → Sem Unit)} {QQ : Value → Shared → Prop} {Inv : Nat → CL}
  (R : lg A n) (hr : HR W G H s) (f : FR W env fa r G s.heap) (e0 : kA [] G0 s0 G s) (hnew : ∀ b ∈ wr, ¬ ld s0.heap b) (hB0 : ∀ b ∈ wr, W.B0.get? b = none) (hown : ∀ b ∈ fp, G.own b = none) (hfz : ∀ b ∈ fp, ld s0.heap b → ∃ o, G.g b = some o) (hg : ∀ b ∈ wr, G.g b = none) (wk : Wk W A false G I fp wr xs St) (st0 : St 0 s.heap)
  (hk : scope.kind = .function) (hn : (scope.names.map ai).Nodup) (cp : k9 r scope.names cr) (i0 : Inv 0 [] H) (hsz : ∀ i ys H', Inv i ys H' → ys.length ≤ sizeLine)
  (step : ∀ i p ys H', xs[i]? = some p → Inv i ys H' → lL x p cr fun r2 => yU W n r2 H' ifs fun ok H2 => jC ok (Ev W n r2 H2 elt fun q H3 => Inv (i + 1) (ys ++ [q]) H3) (Inv (i + 1) ys H2))
  (hR : ∀ D C G' s' ys H' m, kA [] G0 s0 G' s' → HR W G' (H' ++ [(D, .lst ys)]) s' → uI W G' [C] → ¬ ld s0.heap C → s'.heap.Ns C m → Inv xs.length ys H' → compPost (model W.prog W.w) A mO use QQ (.ref D) C (.ok .next) s') :
  wpAny (model W.prog W.w) A (newList []) (fun acc s₃ => wpAny (model W.prog W.w) A (newFunctionEnv scope env.globals (kn env scope.names []) [] env.qual none .none (some env)) (fun cenv s₄ =>
   codeAny (model W.prog W.w) A (.compStart (.ListComp elt [⟨.Name x px, iter, ifs, 0⟩] scope pos) 0 (.ref I) acc { cenv with scope := relabel scope env }) (compPost (model W.prog W.w) A mO use QQ acc cenv.locals) s₄) mO s₃) mO s := by
 refine jH (Q := fun v s3 => ∃ G' H', kA [] G s G' s3 ∧ HR W G' H' s3 ∧ ∃ a, v = .ref a ∧ H' = H ++ [(a, .lst [])]) ?_ ?_
 ·refine jH (sA (ps := []) (Q := fun p H' => ∃ a, p = .ref a ∧ H' = (a, .lst []) :: H) hr rfl (fun a => ⟨a, rfl, rfl⟩) (by simp)) ?_
  rintro v s3 ⟨G3, p, H3, e3, hr3, v3, a, rfl, rfl⟩
  exact ⟨G3, _, e3, hr3.perm (gC (l₁ := [(a, HO.lst [])]) (l₂ := H)), a, by exact v3, rfl⟩
 rintro _ s3 ⟨G3, _, e3, hr3, D, rfl, rfl⟩
 refine tR ?_
 obtain ⟨hkp, fc, hfc, f4⟩ := CQ hr3 (f.ext e3) hk hn cp
 generalize hh4 : pushCells (s3.heap.push { cls := .type "dict", data := .dict #[] }) scope.names = h4 at *
 have hr4 : HR W G3 (H ++ [(D, .lst [])]) { s3 with heap := h4 } := hr3.kept (tk := s3.toks) (dr := s3.drawn) hkp
 have e4 : kA [] G3 s3 G3 { s3 with heap := h4 } := kA.kept (tk := s3.toks) (dr := s3.drawn) hkp
 show codeAny _ A (.compStart _ 0 (.ref I) (.ref D) (oY scope (kn env scope.names []) s3.heap.objs.size env)) (compPost (model W.prog W.w) A mO use QQ (.ref D) s3.heap.objs.size) _
 have hC : ¬ ld s3.heap s3.heap.objs.size := ki (aU _)
 have hlocf : s3.heap.objs.size ∈ fc := f4.locf
 generalize hce : oY scope (kn env scope.names []) s3.heap.objs.size env = cenv at *
 have hcl : cenv.locals = s3.heap.objs.size := by rw [← hce]; rfl
 have e34 := e3.trans e4
 have hfp3 : ∀ b ∈ fp, ld s.heap b := wk.has _ _ st0
 have keep4 : ∀ b ∈ fp, ∀ o, s.heap.get? b = some o → h4.get? b = some o := fun b hb o e => e34.keep b o e (hown b hb) (by simp)
 have hfcfp : ∀ b ∈ fp, b ∉ fc := fun b hb hm => hfc b hm (e3.there b (hfp3 b hb))
 have own4 : ∀ b ∈ fp, G3.own b = none := fun b hb => by
  rcases e34.own b (hfp3 b hb) with q | q
  ·rw [q]; exact hown b hb
  ·exact q
 have loop : codeAny (model W.prog W.w) A (.compLoop (.ListComp elt [⟨.Name x px, iter, ifs, 0⟩] scope pos) 0 (.ref I) (.ref D) cenv) (compPost (model W.prog W.w) A mO use QQ (.ref D) s3.heap.objs.size) { s3 with heap := h4 } := by
  refine codeAny_compLoop_tests (FU W cenv fc fp wr xs St G0 G s0 D x cr Inv) ?_ (xs.length + 1)
   ⟨0, G3, [], H, cr, rfl, bF _, wk.frame _ _ _ st0 keep4, e0.trans e34, hr4, f4, .inl rfl, e34.gle, own4, ⟨fun b hb => own4 b (wk.sub b hb), fun b hb => by rw [e34.gnew b (hfp3 b (wk.sub b hb)) (hown b (wk.sub b hb))]; exact hg b hb, hB0⟩, i0⟩ (fun _ => rfl)
  rintro k s' ⟨i, G', ys, H', rr, rfl, hi, st, e', hr', f', hrr, gle, ow, fr, iv⟩
  have crn : (cr.map ai).Nodup := by rw [cp.keys]; exact hn
  by_cases hlt : i < xs.length
  ·obtain ⟨p, hx⟩ : ∃ p, xs[i]? = some p := ⟨xs[i], aG hlt⟩
   refine jH (wk.item (.Name x px) i _ G' s' p (by simp) hr' gle fr st hx) ?_
   rintro _ s5 ⟨v, rfl, h5⟩
   have hb : ∀ (m : Unit → Sem Unit) (Q : Unit → Shared → Prop) (E : Value → Shared → Prop), (∀ s6, (∃ G2, yS wr G' s' G2 s6 ∧ HR W G2 (H' ++ [(D, .lst ys)]) s6 ∧ RV W G2 p v ∧ St (i + 1) s6.heap) → wpAny (model W.prog W.w) A (m ()) Q E s6) → wpAny (model W.prog W.w) A (m ()) Q E s5 := fun m Q E h =>
    (show wpAny (model W.prog W.w) A (letOwnedTupleGo (.Name x px) (.ref I) v >>= m) Q E s5 from aj (jH h5 fun _ s6 h6 => h s6 h6))
   refine hb (fun _ => assign (.Name x px) cenv v) _ _ fun s6 ⟨G6, e6, hr6, v6, st6⟩ => ?_
   obtain ⟨r2, U, T⟩ := step i p ys H' hx iv
   have U' : lp x p rr r2 := by
    rcases hrr with q | ⟨p', q⟩
    ·rw [q]; exact U
    ·exact q.again U crn
   have e06 := e'.turn e6 hnew
   have f6 := f'.turn e6 (fun b hb => hfcfp b (wk.sub b hb)) (wk.cell _ _ st)
   have hh6 := wk.has _ _ st
   have ow6 : ∀ b ∈ fp, G6.own b = none := fun b hb => by
    rcases e6.own b (hh6 b hb) with q | q
    ·rw [q]; exact ow b hb
    ·exact q
   have fin : ∀ (s9 : Shared) G9 ys9 H9, kA fc G6 s6 G9 s9 → HR W G9 (H9 ++ [(D, .lst ys9)]) s9 → FR W cenv fc r2 G9 s9.heap → Inv (i + 1) ys9 H9 → ∃ m, m < xs.length + 1 - i ∧ FU W cenv fc fp wr xs St G0 G s0 D x cr Inv m s9 := by
    intro s9 G9 ys9 H9 e9 hr9 f9 iv9
    have h4 := wk.has _ _ st6
    have own9 : ∀ b ∈ fp, G9.own b = none := fun b hb => by
     rcases e9.own b (h4 b hb) with z | z
     ·rw [z]; exact ow6 b hb
     ·exact z
    have g9 : ∀ b ∈ wr, G9.g b = none := fun b hb => by
     rw [e9.gnew b (h4 b (wk.sub b hb)) (ow6 b (wk.sub b hb)), e6.gnew b (hh6 b (wk.sub b hb)) (ow b (wk.sub b hb))]
     exact fr.g b hb
    refine ⟨xs.length + 1 - (i + 1), by exact J5 4 hlt, i + 1, G9, ys9, H9, r2, rfl, hlt, wk.frame _ _ _ st6 (e9.fp ow6 hfcfp), ?_, hr9, f9, .inr ⟨p, U⟩, fun b o q => e9.gle b o (e6.gle b o (gle b o q)), own9, ⟨fun b hb => own9 b (wk.sub b hb), g9, fr.B0⟩, iv9⟩
    have hf0 : ∀ b ∈ fc, ¬ ld s0.heap b := fun b hb hh => hfc b hb ((e0.trans e3).there b hh)
    have hfa : kA fc G0 s0 G9 s9 := e06.weak.trans e9
    exact ⟨hfa.gle, hfa.own, hfa.gnew, fun b o e ho _ => hfa.keep b o e ho fun hm => hf0 b hm ⟨o, e⟩, hfa.there⟩
   refine dZ (mv hr6 f6 U' v6 fun s7 e7 hr7 f7 => ?_)
   have T7 : yU W n r2 (H' ++ [(D, .lst ys)]) ifs (fun ok => CS W n D ys fun H2 => jC ok (Ev W n r2 H2 elt fun q H3 => Inv (i + 1) (ys ++ [q]) H3) (Inv (i + 1) ys H2)) :=
    yU.frame (P := H') (R := [(D, .lst ys)]) jK.snoc (yU.mono (Q' := fun ok P' => CS W n D ys (fun H2 => jC ok (Ev W n r2 H2 elt fun q H3 => Inv (i + 1) (ys ++ [q]) H3) (Inv (i + 1) ys H2)) (P' ++ [(D, HO.lst ys)])) T fun b H2 q => ⟨H2, rfl, q⟩) id
   refine jH (AW T7 R hr7 f7) ?_
   rintro ok s8 ⟨G8, _, e8, hr8, H2, rfl, q8⟩
   cases ok with
   | false =>
    skip
    exact fin s8 G8 ys H2 (e7.trans e8.weak) hr8 (f7.ext e8) (q8.2 rfl)
   | true =>
    skip
    have E8 : Ev W n r2 (H2 ++ [(D, .lst ys)]) elt (fun q => CS W n D ys fun H3 => Inv (i + 1) (ys ++ [q]) H3) := Ev.frame jK.snoc (Ev.mono (Q' := fun q P' => CS W n D ys (fun H3 => Inv (i + 1) (ys ++ [q]) H3) (P' ++ [(D, HO.lst ys)])) (q8.1 rfl) fun q H3 h => ⟨H3, rfl, h⟩)
    refine jH (E8 A cenv fc G8 s8 R hr8 (f7.ext e8)) ?_
    rintro y s9 ⟨G9, q, _, e9, hr9, v9, H3, rfl, iv9⟩
    have O : mP W n (H3 ++ [(D, .lst ys)]) (fun vs => call (.builtin "list.append") vs) [.ref D, q] (fun _ P => P = H3 ++ [(D, .lst (ys ++ [q]))]) := sC kQ.snoc (hsz _ _ _ iv) rfl
    refine jH (O A G9 s9 [.ref D, y] R hr9 (j0.cons (by wtm_at "rv") (j0.one v9))) ?_
    rintro _ s10 ⟨G10, _, _, e10, hr10, _, hP⟩
    subst hP
    exact fin s10 G10 (ys ++ [q]) H3 (e7.trans ((e8.trans e9).trans e10).weak) hr10 (((f7.ext e8).ext e9).ext e10) iv9
  ·have : i = xs.length := by exact J3 7 hi hlt
   subst this
   refine jH (wk.done _ G' s' hr' gle fr st) ?_
   rintro _ s5 ⟨rfl, G5, e5, hr5⟩
   have f5 := f'.turn e5 (fun b hb => hfcfp b (wk.sub b hb)) (wk.cell _ _ st)
   obtain ⟨m, hm, _⟩ := f5.ns
   obtain ⟨a1, a2, a3, _⟩ := f5.ownf _ f5.locf
   rw [hcl] at hm a1 a2 a3
   exact hR D _ G5 s5 ys H' m (e'.turn e5 hnew) hr5 ⟨fun b hb => by rw [aP.mp hb]; exact a1, fun b hb => by rw [aP.mp hb]; exact a2, fun b hb => by rw [aP.mp hb]; exact a3⟩ (fun hh => hC ((e0.trans e3).there _ hh)) hm iv
 exact codeAny_compStart_list loop (wk.self 0 _ _ _ (wk.frame _ _ _ st0 keep4) loop)
end
section
variable {W : Wd} {n : Nat} {r : jt} {H : HH}
inductive FV (W : Wd) (n : Nat) (r : jt) (elt : Expr) (x : Str) (ifs : List Expr) (scope : Scope) (Q : CV) (xs : List PV) (H1 : HH) : Prop
 | mk (cr : jt) (Inv : Nat → CL) (cp : k9 r scope.names cr) (i0 : Inv 0 [] H1) (hsz : ∀ i ys H', Inv i ys H' → ys.length ≤ sizeLine)
  (step : ∀ i p ys H', xs[i]? = some p → Inv i ys H' → lL x p cr fun r2 => yU W n r2 H' ifs fun ok H2 => jC ok (Ev W n r2 H2 elt fun q H3 => Inv (i + 1) (ys ++ [q]) H3) (Inv (i + 1) ys H2))
  (fin : ∀ ys H', Inv xs.length ys H' → ∀ D, Q (.ref D) ((D, .lst ys) :: H'))
noncomputable def yV (W : Wd) (n : Nat) (r : jt) (H : HH) (elt : Expr) (x : Str) (iter : Expr) (ifs : List Expr) (scope : Scope) (Q : CV) : Prop :=
 tP W false n r H iter (FV W n r elt x ifs scope Q)
theorem FW {G0 s0 G s} {C : Addr} {h' : Heap} {H : HH} (e : kA [] G0 s0 G s) (hr : HR W G H s) (fr : uI W G [C]) (hC : ¬ ld s0.heap C) (hs : dX C s.heap h') :
  kA [] G0 s0 G { s with heap := h' } ∧ HR W G H { s with heap := h' } := by
 have hk : ∀ b o, b ∉ [C] → s.heap.get? b = some o → h'.get? b = some o := fun b o hb e => (hs.2 b (fun q => hb (by simp [q]))).trans e
 exact ⟨e.turn ⟨fun _ _ e => e, fun _ _ => .inl rfl, fun _ _ _ => rfl, hk⟩ (fun b hb => by rw [aP.mp hb]; exact hC), hr.turn (tk := s.toks) fr hk⟩
theorem AX {scope : Scope} (hn : (scope.names.map ai).Nodup) : ∀ x ∈ scope.names, x.2 = .local → scope.names.lookup x.1 = some .local := fun x hx h => by
 rw [← h]; exact jE hn hx
theorem CT {env fa G h} {scope : Scope} {cr} (f : FR W env fa r G h) (cp : k9 r scope.names cr) : closureFor scope env = pure (kn env scope.names []) :=
 wK fun x hx => by
  obtain ⟨v, hv⟩ := cp.free hx
  obtain ⟨_, c, _, h, _⟩ := f.cap hv
  exact ⟨c, h⟩
theorem xM {A env fa G s} {elt iter : Expr} {x : Str} {px pos pos2 : Pos} {ifs : List Expr} {scope : Scope} {use : Option (Value → Sem Unit)} {QQ : Value → Shared → Prop} {Q : CV}
  (R : lg A n) (hr : HR W G H s) (f : FR W env fa r G s.heap) (hk : scope.kind = .function) (hn : (scope.names.map ai).Nodup) (h : yV W n r H elt x iter ifs scope Q) (hcap : ∃ cr, k9 r scope.names cr)
  (hs : ∀ x, foldedSetIterable iter env x = pure x)
  (hR : ∀ D C G' s' ys H' m, kA [] G s G' s' → HR W G' ((D, .lst ys) :: H') s' → uI W G' [C] → ¬ ld s.heap C → s'.heap.Ns C m → Q (.ref D) ((D, .lst ys) :: H') → compPost (model W.prog W.w) A mO use QQ (.ref D) C (.ok .next) s') :
  wpAny (model W.prog W.w) A (comprehension (.ListComp elt [⟨.Name x px, iter, ifs, 0⟩] scope pos) scope env pos2 (newList []) false (eval iter env) use) QQ mO s := by
 obtain ⟨cr0, cp0⟩ := hcap
 refine wpAny_comprehension_free rfl hs (CT f cp0) hk (AX hn) (jH (h A env fa G s R hr f) fun xv s1 h1 => jH h1 fun it s2 h2 => ?_)
 obtain ⟨G2, I, fp, wr, xs, H2, St, rfl, e2, hr2, hnew, hown, hfz, hg, wk, st0, ⟨cr, Inv, cp, i0, hsz, step, fin⟩⟩ := h2
 exact vH R hr2 (f.ext e2) e2 hnew (fun b hb => hr.noB (hnew b hb)) hown hfz hg wk st0 hk hn cp i0 hsz step fun D C G' s' ys H' m a b c d e iv =>
  hR D C G' s' ys H' m a (b.perm gC) c d e (fin ys H' iv D)
theorem qr {elt iter : Expr} {x : Str} {px pos : Pos} {ifs : List Expr} {scope : Scope} {Q : CV} (hcap : ∃ cr, k9 r scope.names cr) (h : yV W n r H elt x iter ifs scope Q)
  (hk : autoParam (scope.kind = .function) aF) (hn : autoParam ((scope.names.map ai).Nodup) aN) (hs : autoParam (∀ env x, foldedSetIterable iter env x = pure x) aI) :
  Ev W n r H (.ListComp elt [⟨.Name x px, iter, ifs, 0⟩] scope pos) Q := fun A env fa G s R hr f => by
 rw [eval_ListComp]
 show wpAny _ A (comprehension (.ListComp elt [⟨.Name x px, iter, ifs, 0⟩] scope pos) scope env _ (newList []) false (eval iter env) none) _ _ _
 refine xM R hr f hk hn h hcap (hs env) fun D C G' s' ys H' m e hr' fr hC hns q => ?_
 refine ⟨m, hns, fun h' hs => ?_⟩
 obtain ⟨a, b⟩ := FW e hr' fr hC hs
 exact ⟨G', .ref D, _, a, b, by wtm_at "rv", q⟩
theorem nc {t : Str} {pt spos : Pos} {elt iter : Expr} {x : Str} {px pos : Pos} {ifs : List Expr} {scope : Scope} {Q : jJ} (hcap : ∃ cr, k9 r scope.names cr) (h : yV W n r H elt x iter ifs scope fun p H1 => lL t p r fun r' => Q .next r' H1)
  (hk : autoParam (scope.kind = .function) aF) (hn : autoParam ((scope.names.map ai).Nodup) aN) (hs : autoParam (∀ env x, foldedSetIterable iter env x = pure x) aI) :
  Ex W n r H (.Assign [.Name t pt] (.ListComp elt [⟨.Name x px, iter, ifs, 0⟩] scope pos) spos) Q := fun A env fa G s R hr f => by
 have hsw : ∃ b, swapsWith (.ListComp elt [⟨.Name x px, iter, ifs, 0⟩] scope pos) (some (.Name t pt)) spos.line env = pure b := ⟨_, rfl⟩
 obtain ⟨b, hb⟩ := hsw
 cases b with
 | false =>
  refine wpAny_Assign_Name (ay (qr hcap h hk hn hs A env fa G s R hr f) (fun v s1 h1 => ?_) fun _ _ x => x) hb
  obtain ⟨G1, p, H1, e1, r1, v1, ⟨r', U, q2⟩⟩ := h1
  exact mv r1 (f.ext e1) U v1 fun s' e' hr' f' => ⟨G1, .next, r', H1, e1.weak.trans e', hr', f', rfl, q2⟩
 | true =>
  rw [exec_Assign_Name_used _ _ _ _ hb]
  refine aj (cJ (aj ?_))
  show wpAny _ A (do let _ ← comprehension (.ListComp elt [⟨.Name x px, iter, ifs, 0⟩] scope pos) scope env _ (newList []) false (eval iter env) (some (assign (.Name t pt) env))) _ _ s
  refine aj (ay (xM (use := some (assign (.Name t pt) env)) (QQ := fun _ s' => yJ W env fa Q G s .next s') R hr f hk hn h hcap (hs env) ?_) (fun _ s' hq => aB (aB hq)) fun _ _ e => e)
  intro D C G' s' ys H' m e hr' fr hC hns ⟨r', U, q⟩
  show wpAny _ A (assign (.Name t pt) env (.ref D)) _ _ _
  refine dZ (mv hr' (f.ext e) U (by wtm_at "rv") fun s2 e2 hr2 f2 => ?_)
  have hCfa : C ∉ fa := fun hm => hC (f.ownf C hm).2.2.2
  have fr2 : uI W G' [C] := fr
  have hns2 : s2.heap.Ns C m := hns.at' fun o ho => e2.keep C o ho (fr.own C (by simp)) hCfa
  refine ⟨m, hns2, fun h' hs' => ?_⟩
  have hk : ∀ b o, b ∉ [C] → s2.heap.get? b = some o → h'.get? b = some o := fun b o hb e => (hs'.2 b (fun q => hb (by simp [q]))).trans e
  have ew : yS [C] G' s2 G' { s2 with heap := h' } := ⟨fun _ _ e => e, fun _ _ => .inl rfl, fun _ _ _ => rfl, hk⟩
  refine ⟨G', .next, r', _, (e.weak.trans e2).turn ew (fun b hb => by rw [aP.mp hb]; exact hC), hr2.turn (tk := s2.toks) fr2 hk, f2.turn ew (fun b hb => by rw [aP.mp hb]; exact hCfa) (fun b hb u => ?_), rfl, q⟩
  rw [aP.mp hb]
  rintro ⟨o, ho, hd⟩
  obtain ⟨o', es, ep, ho', hd', _⟩ := hns2
  rw [ho] at ho'; cases ho'; rw [hd] at hd'; cases hd'
inductive EG (H1 : HH) (p q : PV) (H2 : HH) : Prop
 | mk (h : H2 = H1) (e : q = p)
inductive FX (W : Wd) (n : Nat) (r2 : jt) (H1 : HH) (elt : Expr) (pa : Bool) (v : PV) (ok : Bool) (H2 : HH) : Prop
 | mk (e : ok = pa) (h : H2 = H1) (k : ok = true → Ev W n r2 H1 elt (EG H1 v))
inductive yW {α : Type} (W : Wd) (n : Nat) (r : jt) (elt : Expr) (x : Str) (scope : Scope) (φ : α → PV) (K : List α → Prop) (xs : List PV) (H1 : HH) : Prop
 | mk (cr : jt) (L : List α) (g : α → PV) (cp : k9 r scope.names cr) (e : xs = L.map g) (hz : L.length ≤ sizeLine) (step : ∀ a ∈ L, lL x (g a) cr fun r2 => Ev W n r2 H1 elt (EG H1 (φ a))) (k : K L)
inductive ub {α : Type} (W : Wd) (n : Nat) (r : jt) (elt : Expr) (x : Str) (c : Expr) (scope : Scope) (p : α → Bool) (φ : α → PV) (K : List α → Prop) (xs : List PV) (H1 : HH) : Prop
 | mk (cr : jt) (L : List α) (g : α → PV) (cp : k9 r scope.names cr) (e : xs = L.map g) (hz : L.length ≤ sizeLine) (step : ∀ a ∈ L, lL x (g a) cr fun r2 => Tv W n r2 H1 c (FX W n r2 H1 elt (p a) (φ a))) (k : K L)
theorem yW.mono {α : Type} {W n r elt x scope} {φ : α → PV} {K K' : List α → Prop} {xs H1} (h : yW W n r elt x scope φ K xs H1) (hk : ∀ L, K L → K' L) : yW W n r elt x scope φ K' xs H1 := by
 obtain ⟨cr, L, g, a, b, c, d, k⟩ := h
 exact ⟨cr, L, g, a, b, c, d, hk _ k⟩
theorem ub.mono {α : Type} {W n r elt x c scope} {p : α → Bool} {φ : α → PV} {K K' : List α → Prop} {xs H1} (h : ub W n r elt x c scope p φ K xs H1) (hk : ∀ L, K L → K' L) : ub W n r elt x c scope p φ K' xs H1 := by
 obtain ⟨cr, L, g, a, b, c, d, k⟩ := h
 exact ⟨cr, L, g, a, b, c, d, hk _ k⟩
theorem sR {α : Type} {elt iter : Expr} {x : Str} {scope : Scope} {Q : CV} (φ : α → PV)
  (h : tP W false n r H iter fun xs H1 => yW W n r elt x scope φ (fun L => ∀ D, Q (.ref D) ((D, .lst (L.map φ)) :: H1)) xs H1) : yV W n r H elt x iter [] scope Q := fun A env fa G s R hr f => by
 refine jH (h A env fa G s R hr f) fun xv s1 h1 => jH h1 fun it s2 h2 => ?_
 obtain ⟨G2, I, fp, wr, xs, H2, St, a, b, c, d, e, e2, f1, g, h, ⟨cr, L, gg, cp, rfl, hz, step, fin⟩⟩ := h2
 refine ⟨G2, I, fp, wr, _, H2, St, a, b, c, d, e, e2, f1, g, h, cr, fun i ys H' => i ≤ L.length ∧ ys = (L.take i).map φ ∧ H' = H2, cp, ⟨bF _, by simp, rfl⟩, fun i ys H' q => ?_, fun i p ys H' hx q => ?_, fun ys H' q D => ?_⟩
 ·rw [q.2.1, aa, bg]; exact bj (iH _ _) hz
 ·obtain ⟨hi, rfl, rfl⟩ := q
  rw [ax] at hx
  cases hl : L[i]? with
  | none => rw [hl] at hx; cases hx
  | some a =>
   rw [hl] at hx
   cases hx
   obtain ⟨r2, U, E⟩ := step a (aS hl)
   refine ⟨r2, U, .by (fun _ => E.mono fun q H3 hq => ?_) fun q => by cases q⟩
   obtain ⟨rfl, rfl⟩ := hq
   refine ⟨(aA.mp hl).1, ?_, rfl⟩
   rw [a7, hl]; simp
 ·obtain ⟨_, rfl, rfl⟩ := q
  rw [aa, aZ]
  exact fin D
theorem rH {α : Type} {elt iter c : Expr} {x : Str} {scope : Scope} {Q : CV} (p : α → Bool) (φ : α → PV)
  (h : tP W false n r H iter fun xs H1 => ub W n r elt x c scope p φ (fun L => ∀ D, Q (.ref D) ((D, .lst ((L.filter p).map φ)) :: H1)) xs H1) : yV W n r H elt x iter [c] scope Q := fun A env fa G s R hr f => by
 refine jH (h A env fa G s R hr f) fun xv s1 h1 => jH h1 fun it s2 h2 => ?_
 obtain ⟨G2, I, fp, wr, xs, H2, St, a, b, c, d, e, e2, f1, g, h, ⟨cr, L, gg, cp, rfl, hz, step, fin⟩⟩ := h2
 refine ⟨G2, I, fp, wr, _, H2, St, a, b, c, d, e, e2, f1, g, h, cr, fun i ys H' => i ≤ L.length ∧ ys = ((L.take i).filter p).map φ ∧ H' = H2, cp, ⟨bF _, by simp, rfl⟩, fun i ys H' q => ?_, fun i q ys H' hx qq => ?_, fun ys H' q D => ?_⟩
 ·rw [q.2.1, aa]; exact bj (bm _ _) (bj (by rw [bg]; exact iH _ _) hz)
 ·obtain ⟨hi, rfl, rfl⟩ := qq
  rw [ax] at hx
  cases hl : L[i]? with
  | none => rw [hl] at hx; cases hx
  | some a =>
   rw [hl] at hx
   cases hx
   obtain ⟨r2, U, E⟩ := step a (aS hl)
   have hlt := (aA.mp hl).1
   refine ⟨r2, U, yU.mono (ifs := [_]) E fun ok H3 hq => ?_⟩
   obtain ⟨rfl, rfl, E2⟩ := hq
   refine .by (fun hp => (E2 hp).mono fun q H4 hq => ?_) fun hp => ?_
   ·obtain ⟨rfl, rfl⟩ := hq
    refine ⟨hlt, ?_, rfl⟩
    rw [a7, hl]; simp [cF, hp]
   ·refine ⟨hlt, ?_, rfl⟩
    rw [a7, hl]; simp [cF, hp]
 ·obtain ⟨_, rfl, rfl⟩ := q
  rw [aa, aZ]
  exact fin D
end
section
variable {W : Wd} {n : Nat} {r : jt} {H : HH} {Q : CV}
theorem kG {f : List Value → Sem Value} {p : PV} (h : ∀ A G s v, lg A n → HR W G H s → RV W G p v → wpAny (model W.prog W.w) A (f [v]) (Fin W Q G s) mO s) : mP W n H f [p] Q := fun A G s vs R hr hv => by
 obtain ⟨v, _, rfl, hv, rfl⟩ := hv
 exact h A G s v R hr hv
theorem uM {f : List Value → Sem Value} {p q : PV} (h : ∀ A G s u v, lg A n → HR W G H s → RV W G p u → RV W G q v → wpAny (model W.prog W.w) A (f [u, v]) (Fin W Q G s) mO s) : mP W n H f [p, q] Q := fun A G s vs R hr hv => by
 obtain ⟨u, _, rfl, hu, v, _, rfl, hv, rfl⟩ := hv
 exact h A G s u v R hr hu hv
theorem lO {G i v} (h : RV W G (.int i) v) : ∃ t, v = .int i t := by exact h
theorem AY {G} {s : Shared} {i : Int} {t tk} {h' : Heap} (hr : HR W G H s) (hk : ∀ b o, s.heap.get? b = some o → h'.get? b = some o) (h : Q (.int i) H) : Fin W Q G s (.int i t) { s with heap := h', toks := tk } := FK hr hk (by wtm_at "rv") h
theorem sS {k : Int} (h : Q (.rng 0 k) H) : mP W n H (fun vs => call (.type "range") vs) [.int k] Q := kG fun A G s v R hr hv => by
 obtain ⟨t, rfl⟩ := lO hv
 refine call_range_1 ?_
 obtain ⟨x, e⟩ := hr.allocG { cls := .type "range", data := .fields #[.int 0 s.toks, .int k t, .int 1 (s.toks + 1)] } rfl (tk := s.toks + 1 + 1)
 refine ⟨_, .rng 0 k, H, e, x, ?_, h⟩
 exact CA.mk _ _ _ _ rfl (if_pos rfl)
theorem sT {j k : Int} (h : Q (.rng j k) H) : mP W n H (fun vs => call (.type "range") vs) [.int j, .int k] Q := uM fun A G s u v R hr hu hv => by
 obtain ⟨t, rfl⟩ := lO hv
 obtain ⟨t', rfl⟩ := lO hu
 refine call_range_2 ?_
 obtain ⟨x, e⟩ := hr.allocG { cls := .type "range", data := .fields #[.int j t', .int k t, .int 1 s.toks] } rfl (tk := s.toks + 1)
 refine ⟨_, .rng j k, H, e, x, ?_, h⟩
 exact CA.mk _ _ _ _ rfl (if_pos rfl)
theorem HR.newL {G} {s : Shared} {a : Addr} {h' : Heap} {vs : List Value} {m tk : Nat} {ps : List PV} (hr : HR W G H s) (hn : ¬ ld s.heap a) (hk : ∀ b o, s.heap.get? b = some o → h'.get? b = some o) (ha : h'.get? a = some (lK vs m)) (hv : j0 W G ps vs) :
  HR W (G.addO a a) ((a, .lst ps) :: H) { s with heap := h', toks := tk } ∧ kA [] G s (G.addO a a) { s with heap := h', toks := tk } := by
 have hng := hr.noG hn
 have hno : ∀ b o', (b, o') ∈ H → ∀ c, G.own c = some b → c ≠ a := fun b o' hm c e q => hn (q ▸ (hr.bown c b e).2)
 refine ⟨⟨hr.bas, fun b i e => ?_, fun b ob e => ⟨hk _ _ (hr.imm b ob e).1, ?_⟩, ?_, fun b ob hm => ?_, hr.os, hr.gens⟩, ⟨fun _ _ e => e, fun b hb => .inl ?_, fun _ _ _ => rfl, fun b ob e _ _ => hk _ _ e, fun b ⟨o, e⟩ => ⟨o, hk _ _ e⟩⟩⟩
 ·have e' : (if b = a then some a else G.own b) = some i := e
  by_cases hb : b = a
  ·rw [hb]; exact ⟨hr.noB hn, ⟨_, ha⟩⟩
  ·rw [if_neg hb] at e'; exact ⟨(hr.bown b i e').1, let ⟨o, q⟩ := (hr.bown b i e').2; ⟨o, hk _ _ q⟩⟩
 ·have e' : G.g b = some ob := e
  show (if b = _ then _ else _) = _
  rw [if_neg (fun q => by rw [q, hng] at e'; cases e')]; exact (hr.imm b ob e').2
 ·rw [aC, aY]
  refine ⟨fun hm => ?_, hr.nodup⟩
  obtain ⟨⟨b, o'⟩, hp, hq⟩ := az.mp hm
  have hq' : b = a := hq
  exact hn (hq' ▸ (hr.slot b o' hp).has)
 ·rcases au.mp hm with e | hm
  ·cases e; exact ⟨vs, m, ha, if_pos rfl, hv.mono (G' := G.addO a a) (fun b o (e : G.g b = some o) => e)⟩
  ·exact (hr.slot b ob hm).mono (fun _ _ e => e) (fun c oc _ e => hk _ _ e) fun c e => by
    show (if c = _ then _ else _) = _
    rw [if_neg (hno b ob hm c e)]; exact e
 ·show (if b = _ then _ else _) = _
  rw [if_neg (fun q => hn (by rw [← q]; exact hb))]
theorem mJ {G} {s : Shared} {a : Addr} {h' : Heap} {vs : List Value} {m tk : Nat} {ps : List PV} (hr : HR W G H s) (hn : ¬ ld s.heap a) (hk : ∀ b o, s.heap.get? b = some o → h'.get? b = some o) (ha : h'.get? a = some (lK vs m)) (hv : j0 W G ps vs)
  (h : ∀ a, Q (.ref a) ((a, .lst ps) :: H)) : Fin W Q G s (.ref a) { s with heap := h', toks := tk } := by
 obtain ⟨x, e⟩ := hr.newL (tk := tk) hn hk ha hv
 exact ⟨_, .ref a, _, e, x, by wtm_at "rv", h a⟩
theorem AZ {G} {s : Shared} {a : Addr} {h' : Heap} {vs : List Value} {m tk : Nat} {ps : List PV} (hr : HR W G H s) (hn : ¬ ld s.heap a) (hk : ∀ b o, s.heap.get? b = some o → h'.get? b = some o) (ha : h'.get? a = some (At vs m)) (hv : j0 W G ps vs)
  (h : Q (.tup ps) H) : Fin W Q G s (.ref a) { s with heap := h', toks := tk } := by
 obtain ⟨x, e⟩ := hr.addG (tk := tk) hn hk ha
 refine ⟨_, .tup ps, _, e, x, ?_, h⟩
 exact vn.mk a vs rfl ⟨_, if_pos rfl, rfl, m, rfl⟩ (e.rvs hv)
theorem oZ {s : Shared} : ¬ ld s.heap s.heap.objs.size := ki (aU _)
theorem q9 {p : PV} {xs : List PV} (w : Vw H p (.lst xs)) (hz : xs.length ≤ sizeLine) (h : ∀ a, Q (.ref a) ((a, .lst xs) :: H)) : mP W n H (fun vs => call (.type "list") vs) [p] Q := kG fun A G s v R hr hv => by
 obtain ⟨a, vs, m, rfl, e1, rs⟩ := w.lstAt hr hv
 refine call_list_seq a (.inl rfl) e1 rfl rfl (fun h' c' hk hD => ?_) (by rw [aH, rs.length]; exact hz)
 exact mJ (tk := s.toks) hr oZ hk hD rs h
theorem sU {p : PV} {xs : List PV} (w : Vw H p (.tup xs)) (h : Q p H) : mP W n H (fun vs => call (.type "tuple") vs) [p] Q := kG fun A G s v R hr hv => by
 obtain ⟨a, vs, rfl, e1, rs⟩ := w.tupAt hr hv
 exact call_tuple_same e1 (ss hr hv h)
theorem A0 {p : PV} {xs : List PV} (w : Vw H p (.lst xs)) (hz : xs.length ≤ sizeLine) (h : Q (.tup xs) H) : mP W n H (fun vs => call (.type "tuple") vs) [p] Q := kG fun A G s v R hr hv => by
 obtain ⟨a, vs, m, rfl, e1, rs⟩ := w.lstAt hr hv
 refine call_tuple_list (js e1) (fun h' hk => ?_) (by rw [aH, rs.length]; exact hz)
 refine AZ (tk := s.toks) (m := 0) hr ?_ (fun b o e => be _ (hk b o e)) (aW _ rfl) rs h
 rintro ⟨o, ho⟩
 exact absurd (bq (hk _ _ ho)) (dq _)
theorem CU {i : Int} (h : Q (.int (i.natAbs : Int)) H) : mP W n H (fun vs => call (.builtin "abs") vs) [.int i] Q := kG fun A G s v R hr hv => by
 obtain ⟨t, rfl⟩ := lO hv
 refine call_abs_int fun u tk => ?_
 have e : (if i < 0 then -i else i) = (i.natAbs : Int) := by split <;> lia
 rw [e]
 exact og hr (by wtm_at "rv") h
theorem CW {i : Int} (h : Q (.int i) H) : mP W n H (fun vs => call (.type "int") vs) [.int i] Q := kG fun A G s v R hr hv => by
 obtain ⟨t, rfl⟩ := lO hv
 exact call_int_int (ss hr hv h)
theorem A1 {b : Bool} (h : Q (.int (if b then 1 else 0)) H) : mP W n H (fun vs => call (.type "int") vs) [.bool b] Q := kG fun A G s v R hr hv => by
 have : v = .bool b := by exact hv
 subst this
 exact call_int_bool (og hr (by wtm_at "rv") h)
theorem xN {i : Int} (hi : i.natAbs.log2 < 1920) (h : Q (.str (eW (toString i))) H) : mP W n H (fun vs => call (.type "str") vs) [.int i] Q := kG fun A G s v R hr hv => by
 obtain ⟨t, rfl⟩ := lO hv
 exact PySem.P.str_of_int hi (og hr (by wtm_at "rv") h)
theorem oq {G} : ∀ {ns : List Int} {vs : List Value}, j0 W G (ns.map .int) vs → IntsAre vs ns
 | [], vs, h => by simp only [cZ, j0] at h; subst h; exact .nil
 | i :: ns, vs, h => by
  simp only [aC, j0] at h
  obtain ⟨v, r, rfl, hv, hr⟩ := h
  obtain ⟨t, rfl⟩ := lO hv
  exact .cons i t (oq hr)
theorem xO {G} {ns : List Int} {vs : List Value} (h : IntsAre vs ns) : j0 W G (ns.map .int) vs := by
 induction h with
 | nil => exact j0.nil
 | cons i t _ ih => exact j0.cons Ey ih
noncomputable def sV : List Int → Int
 | [] => 0
 | x :: xs => xs.foldl min x
noncomputable def ot : List Int → Int
 | [] => 0
 | x :: xs => xs.foldl max x
theorem yX (xs : List Int) : ∀ x : Int, (xs.foldl min x ∈ x :: xs) ∧ ∀ a ∈ x :: xs, xs.foldl min x ≤ a := by
 induction xs with
 | nil => intro x; simp
 | cons y ys ih =>
  intro x
  obtain ⟨h1, h2⟩ := ih (min x y)
  rw [iU]
  refine ⟨?_, fun a ha => ?_⟩
  ·rcases au.mp h1 with e | h1
   ·rw [e]; rcases Int.le_total x y with q | q
    ·rw [Int.min_eq_left q]; exact .head _
    ·rw [Int.min_eq_right q]; exact .tail _ (.head _)
   ·exact .tail _ (.tail _ h1)
  ·have hm := h2 _ (.head _)
   rcases au.mp ha with rfl | ha
   ·exact eY hm (Int.min_le_left _ _)
   ·rcases au.mp ha with rfl | ha
    ·exact eY hm (Int.min_le_right _ _)
    ·exact h2 _ (.tail _ ha)
theorem yY (xs : List Int) : ∀ x : Int, (xs.foldl max x ∈ x :: xs) ∧ ∀ a ∈ x :: xs, a ≤ xs.foldl max x := by
 induction xs with
 | nil => intro x; simp
 | cons y ys ih =>
  intro x
  obtain ⟨h1, h2⟩ := ih (max x y)
  rw [iU]
  refine ⟨?_, fun a ha => ?_⟩
  ·rcases au.mp h1 with e | h1
   ·rw [e]; rcases Int.le_total x y with q | q
    ·rw [iI q]; exact .tail _ (.head _)
    ·rw [iV q]; exact .head _
   ·exact .tail _ (.tail _ h1)
  ·have hm := h2 _ (.head _)
   rcases au.mp ha with rfl | ha
   ·exact eY (Int.le_max_left _ _) hm
   ·rcases au.mp ha with rfl | ha
    ·exact eY (Int.le_max_right _ _) hm
    ·exact h2 _ (.tail _ ha)
theorem uc {ns : List Int} (h : ns ≠ []) : sV ns ∈ ns ∧ ∀ a ∈ ns, sV ns ≤ a := by
 cases ns with
 | nil => exact absurd rfl h
 | cons x xs => exact yX xs x
theorem ud {ns : List Int} (h : ns ≠ []) : ot ns ∈ ns ∧ ∀ a ∈ ns, a ≤ ot ns := by
 cases ns with
 | nil => exact absurd rfl h
 | cons x xs => exact yY xs x
theorem p5 {vs : List Value} {ns : List Int} (h : IntsAre vs ns) : ∃ xs : Array (Int × Tok), vs.toArray = intItems xs ∧ ns = xs.toList.map (·.1) := by
 obtain ⟨xs, e⟩ := h.allInts.items
 exact ⟨xs, e, by rw [← h.numsOf, ← nums_intItems, ← e]⟩
theorem uN {p : PV} {ns : List Int} (w : Vw H p (.lst (ns.map .int))) (hne : ns ≠ []) (h : Q (.int (sV ns)) H) : mP W n H (fun vs => call (.builtin "min") vs) [p] Q := kG fun A G s v R hr hv => by
 obtain ⟨a, vs, m, rfl, e1, rs⟩ := w.lstAt hr hv
 obtain ⟨xs, e, hns⟩ := p5 (oq rs)
 have hl := js e1
 rw [e] at hl
 have hsz : 0 < xs.size := by
  have := bI.mpr hne
  rw [hns, aa, bR] at this; exact this
 refine min_intList R.hd hl hsz fun v h' tk hv hk => ?_
 obtain ⟨t, rfl⟩ := intItems_at hv
 obtain ⟨h1, h2⟩ := argBest_lt (numAt xs) (xs.size - 1)
 have hM : numAt xs (argBest (fun i j => decide (numAt xs i < numAt xs j)) (xs.size - 1)) = sV ns := by
  obtain ⟨a1, a2⟩ := uc hne
  have b1 : numAt xs (argBest (fun i j => decide (numAt xs i < numAt xs j)) (xs.size - 1)) ∈ ns := by
   rw [hns, i9]; exact getD_mem (by rw [aa, bR]; exact J5 5 h1 hsz)
  have b2 : ∀ a ∈ ns, numAt xs (argBest (fun i j => decide (numAt xs i < numAt xs j)) (xs.size - 1)) ≤ a := fun a ha => by
   rw [hns] at ha
   obtain ⟨j, hj, rfl⟩ := mem_getD ha
   rw [aa, bR] at hj
   rw [← i9]; exact h2 j (by exact J5 6 hj)
  exact iW (b2 _ a1) (a2 _ b1)
 rw [hM]
 exact AY hr hk h
theorem si {p : PV} {ns : List Int} (w : Vw H p (.lst (ns.map .int))) (hne : ns ≠ []) (h : Q (.int (ot ns)) H) : mP W n H (fun vs => call (.builtin "max") vs) [p] Q := kG fun A G s v R hr hv => by
 obtain ⟨a, vs, m, rfl, e1, rs⟩ := w.lstAt hr hv
 obtain ⟨xs, e, hns⟩ := p5 (oq rs)
 have hl := js e1
 rw [e] at hl
 have hsz : 0 < xs.size := by
  have := bI.mpr hne
  rw [hns, aa, bR] at this; exact this
 refine max_intList R.hd hl hsz fun v h' tk hv hk => ?_
 obtain ⟨t, rfl⟩ := intItems_at hv
 obtain ⟨h1, h2⟩ := argBest_gt (numAt xs) (xs.size - 1)
 have hM : numAt xs (argBest (fun i j => decide (numAt xs i > numAt xs j)) (xs.size - 1)) = ot ns := by
  obtain ⟨a1, a2⟩ := ud hne
  have b1 : numAt xs (argBest (fun i j => decide (numAt xs i > numAt xs j)) (xs.size - 1)) ∈ ns := by
   rw [hns, i9]; exact getD_mem (by rw [aa, bR]; exact J5 5 h1 hsz)
  have b2 : ∀ a ∈ ns, a ≤ numAt xs (argBest (fun i j => decide (numAt xs i > numAt xs j)) (xs.size - 1)) := fun a ha => by
   rw [hns] at ha
   obtain ⟨j, hj, rfl⟩ := mem_getD ha
   rw [aa, bR] at hj
   rw [← i9]; exact h2 j (by exact J5 6 hj)
  exact iW (a2 _ b1) (b2 _ a1)
 rw [hM]
 exact AY hr hk h
theorem uO {p : PV} {ns : List Int} (w : Vw H p (.lst (ns.map .int))) (h : Q (.int ns.sum) H) : mP W n H (fun vs => call (.builtin "sum") vs) [p] Q := kG fun A G s v R hr hv => by
 obtain ⟨a, vs, m, rfl, e1, rs⟩ := w.lstAt hr hv
 obtain ⟨xs, e, hns⟩ := p5 (oq rs)
 have hl := js e1
 rw [e] at hl
 refine sum_intListG R.hd hl fun h' tk t' hk => ?_
 have hM : preSum (numAt xs) xs.size = ns.sum := by
  rw [preSum_eq, hns, br]
  rw [aa, bR]; exact aU _
 rw [hM]
 exact AY hr hk h
theorem A2 {i j : Int} (h : Q (.int (max i j)) H) : mP W n H (fun vs => call (.builtin "max") vs) [.int i, .int j] Q := uM fun A G s u v R hr hu hv => by
 obtain ⟨t, rfl⟩ := lO hv
 obtain ⟨t', rfl⟩ := lO hu
 refine max_two_ints R.hd fun h' tk hk => ?_
 by_cases q : j > i
 ·rw [if_pos q]; rw [iI (by exact J2 10 q)] at h; exact AY hr hk h
 ·rw [if_neg q]; rw [iV (by exact J10 12 q)] at h; exact AY hr hk h
theorem uP {p q : PV} {xs ys : List PV} (w : Vw H p (.lst xs)) (w' : Vw H q (.lst ys)) (hz : xs.length + ys.length ≤ sizeLine) (h : ∀ a, Q (.ref a) ((a, .lst (xs ++ ys)) :: H)) : lC W n H (binaryOp .Add) p q Q := fun A G s u v R hr hu hv => by
 obtain ⟨a, vs, m, rfl, e1, rs⟩ := w.lstAt hr hu
 obtain ⟨b, ws, k, rfl, e2, rs2⟩ := w'.lstAt hr hv
 refine PySem.P.add_list e1 e2 ?_ (by rw [aH, aH, rs.length, rs2.length]; exact hz)
 exact mJ (tk := s.toks) (m := 0) hr oZ (jw _) (by rw [show (vs.toArray ++ ws.toArray) = (vs ++ ws).toArray by simp]; exact aW _ rfl) (rs.append rs2) h
theorem xP {G} {ps : List PV} {vs : List Value} (h : j0 W G ps vs) : ∀ k : Nat, j0 W G (bd k ps).flatten (bd k vs).flatten
 | 0 => by simp [j0]
 | k + 1 => by
  rw [gX, io, gX, io]
  exact h.append (xP h k)
theorem yZ {p : PV} {xs : List PV} {k : Int} (w : Vw H p (.lst xs)) (h0 : 0 ≤ k) (hk : k < 2 ^ 62) (hz : xs.length * k.toNat ≤ 2 ^ 24) (h : ∀ a, Q (.ref a) ((a, .lst (bd k.toNat xs).flatten) :: H)) : lC W n H (binaryOp .Mult) p (.int k) Q := fun A G s u v R hr hu hv => by
 obtain ⟨t, rfl⟩ := lO hv
 obtain ⟨a, vs, m, rfl, e1, rs⟩ := w.lstAt hr hu
 have hlen : vs.toArray.size = xs.length := by rw [aH]; exact rs.length
 refine wpAny_binaryOp_repeat_ref (T := "list") (U := "int") (by decide) ⟨_, e1, rfl⟩ (fun s' => typeIs_int s' k t) noFill_list_mul F.fills_int_mul F.slot_int_rmul repeat_list F.slot_int_index.lookup
  (hW F.slot_int_rmul (typeIs_int s k t) F.entry_int_rmul (F.args_int_rmul_2 _ _) (lm_int_rmul_list_any k t a vs.toArray m none #[])
   ⟨e1, rfl, ⟨_, e1, rfl⟩, hW F.slot_list_mul ⟨_, e1, rfl⟩ F.entry_list_mul (F.args_list_mul_2 _ _)
    (lm_list_mul_any a vs.toArray m none #[] k t (by simp [Builtin.List.listFitsIndex]; lia) (by rw [hlen]; lia) (by simp only [Builtin.List.listTooLong, sizeLine, hlen, decide_eq_true_eq]; exact J10 14 hz))
    ⟨e1, ?_⟩⟩)
 exact mJ (tk := s.toks) (m := 0) hr oZ (jw _) (by rw [listMul_foldl_if]; exact aW _ rfl) (xP rs k.toNat) h
inductive A3 (o i : PV) (H2 : HH) (K : List PV → Nat → Prop) : Prop
 | mk (xs : List PV) (k : Nat) (w : Vw H2 o (.lst xs)) (e : i = .int (k : Int)) (hz : xs.length ≤ sizeLine) (q : K xs k)
theorem CX {value e : Expr} {p pos} (h : Ev W n r H value fun o H1 => Ev W n r H1 e fun i H2 => A3 o i H2 fun xs k => ∀ a, Q (.ref a) ((a, .lst (xs.take k)) :: H2))
  (ht : autoParam (∀ o r, letTemporaryGo value o r = pure ()) aI) : Ev W n r H (.Subscript value (.Slice none (some e) none p) pos) Q := fun A env fa G s R hr f => by
 refine fq (ay (h A env fa G s R hr f) (fun vo s1 h1 => ?_) fun _ _ x => x) ht
 obtain ⟨G1, po, H1, e1, r1, v1, q1⟩ := h1
 refine aB ?_
 refine ay (q1 A env fa G1 s1 R r1 (f.ext e1)) (fun vi s2 h2 => ?_) fun _ _ x => x
 obtain ⟨G2, pi, H2, e2, r2, v2, ⟨xs, k, w, rfl, hz, hQ⟩⟩ := h2
 obtain ⟨t, rfl⟩ := lO v2
 obtain ⟨a, vs, m, rfl, g1, rs⟩ := w.lstAt r2 (e2.rv v1)
 refine ⟨a, vs.toArray, none, some (k : Int), rfl, js g1, by rw [aH, rs.length]; exact hz, .none, .int _ _, ?_⟩
 refine Fin.trans (e1.trans e2) (mJ (vs := vs.take k) (tk := s2.toks) (m := 0) r2 (ki (cY _)) (fun b o e => jw _ _ _ (jw _ _ _ e)) ?_ (rs.take k) hQ)
 rw [slicePick_upto', b7]
 have := aW (s2.heap.push { cls := .type "slice", data := .fields #[.none, .int k t, .none] }) (o := { cls := .type "list", data := .seq (vs.take k).toArray }) rfl
 rw [cN] at this
 exact this
theorem xQ {value e : Expr} {p pos} (h : Ev W n r H value fun o H1 => Ev W n r H1 e fun i H2 => A3 o i H2 fun xs k => ∀ a, Q (.ref a) ((a, .lst (xs.drop k)) :: H2))
  (ht : autoParam (∀ o r, letTemporaryGo value o r = pure ()) aI) : Ev W n r H (.Subscript value (.Slice (some e) none none p) pos) Q := fun A env fa G s R hr f => by
 refine fq (ay (h A env fa G s R hr f) (fun vo s1 h1 => ?_) fun _ _ x => x) ht
 obtain ⟨G1, po, H1, e1, r1, v1, q1⟩ := h1
 refine ay (q1 A env fa G1 s1 R r1 (f.ext e1)) (fun vi s2 h2 => ?_) fun _ _ x => x
 refine aB ?_
 obtain ⟨G2, pi, H2, e2, r2, v2, ⟨xs, k, w, rfl, hz, hQ⟩⟩ := h2
 obtain ⟨t, rfl⟩ := lO v2
 obtain ⟨a, vs, m, rfl, g1, rs⟩ := w.lstAt r2 (e2.rv v1)
 refine ⟨a, vs.toArray, some (k : Int), none, rfl, js g1, by rw [aH, rs.length]; exact hz, .int _ _, .none, ?_⟩
 refine Fin.trans (e1.trans e2) (mJ (vs := vs.drop k) (tk := s2.toks) (m := 0) r2 (ki (cY _)) (fun b o e => jw _ _ _ (jw _ _ _ e)) ?_ (rs.drop k) hQ)
 rw [slicePick_from', b7]
 have := aW (s2.heap.push { cls := .type "slice", data := .fields #[.int k t, .none, .none] }) (o := { cls := .type "list", data := .seq (vs.drop k).toArray }) rfl
 rw [cN] at this
 exact this
theorem ue {p : PV} {ns : List Int} {k : Int} (w : Vw H p (.lst (ns.map .int))) (h : Q (.int (ns.count k : Nat)) H) : mP W n H (fun vs => call (.builtin "list.count") vs) [p, .int k] Q := uM fun A G s u v R hr hu hv => by
 obtain ⟨t, rfl⟩ := lO hv
 obtain ⟨a, vs, m, rfl, e1, rs⟩ := w.lstAt hr hu
 exact count_list_ints (js e1) (oq rs) (og hr (by wtm_at "rv") h)
theorem A4 {p : PV} {ns : List Int} {k : Int} (w : Vw H p (.lst (ns.map .int))) (h : Q (.bool (!ns.any (· == k))) H) : lC W n H (compareOp .NotIn) (.int k) p Q := fun A G s u v R hr hu hv => by
 obtain ⟨t, rfl⟩ := lO hu
 obtain ⟨a, vs, m, rfl, e1, rs⟩ := w.lstAt hr hv
 exact notin_list_ints (js e1) (oq rs) (ls hr h)
theorem wL {p : PV} {ns : List Int} {k : Int} (w : Vw H p (.tup (ns.map .int))) (h : Q (.bool (!ns.any (· == k))) H) : lC W n H (compareOp .NotIn) (.int k) p Q := fun A G s u v R hr hu hv => by
 obtain ⟨t, rfl⟩ := lO hu
 obtain ⟨a, vs, rfl, e1, rs⟩ := w.tupAt hr hv
 exact notin_tuple_ints e1 (by rw [b7]; exact oq rs) (ls hr h)
end
section
open PySem.SeqAt
noncomputable def oR : Nat → PV → Prop
 | _, .none => True
 | _, .bool _ => True
 | _, .int _ => True
 | _, .str _ => True
 | k + 1, .tup xs => ∀ x ∈ xs, oR k x
 | k + 1, .lst xs => ∀ x ∈ xs, oR k x
 | k + 1, .dct es => ∃ d : List (Int × PV), es = Dk id d ∧ ∀ p ∈ d, oR k p.2
 | _, _ => False
section
variable {W : Wd} {n : Nat} {r : jt} {H : HH} {Q : CV}
theorem pC {G} {xs : List PV} {vs ws : List Value} (h : j0 W G xs vs) (h' : j0 W G xs ws) {j : Nat} (hj : j < vs.toArray.size) (hj' : j < ws.toArray.size) : ∃ x ∈ xs, RV W G x vs.toArray[j] ∧ RV W G x ws.toArray[j] := by
 have hl : j < xs.length := by rw [← h.length]; simpa using hj
 obtain ⟨v, hv, rv⟩ := h.get (aG hl)
 obtain ⟨w, hw, rw'⟩ := h'.get (aG hl)
 refine ⟨_, bJ hl, ?_, ?_⟩
 ·have : vs.toArray[j] = v := by
   have h1 : vs.toArray[j]? = some vs.toArray[j] := dJ hj
   have h2 : vs.toArray[j]? = some v := by simpa using hv
   rw [h1] at h2; exact bD h2
  rw [this]; exact rv
 ·have : ws.toArray[j] = w := by
   have h1 : ws.toArray[j]? = some ws.toArray[j] := dJ hj'
   have h2 : ws.toArray[j]? = some w := by simpa using hw
   rw [h1] at h2; exact bD h2
  rw [this]; exact rw'
theorem y0 {prog prog' : Program} {w w' : World} {ds : List DictEntry} {kvs : List (Int × Value)} (h : Pairs (intKind prog w) ds kvs) : Pairs (intKind prog' w') ds kvs := by
 induction h with
 | nil => exact .nil
 | cons a b _ ih => exact .cons a b ih
theorem sW {prog prog' : Program} {w w' : World} {h : Heap} {a : Addr} {kvs} (x : h.DictOf (intKind prog w) a kvs) : h.DictOf (intKind prog' w') a kvs := by
 obtain ⟨o, es, ep, ho, he, hd, hk, hp, hn⟩ := x
 exact ⟨o, es, ep, ho, he, hd, hk, y0 hp, hn⟩
theorem sX {A : Around} {s : Shared} {a b : Addr} {ka kb : List (Int × Value)} {r : Bool} (ha : (a == sysModules) = false) (hb : (b == sysModules) = false)
  (da : s.heap.DictOf (intKind W.prog W.w) a ka) (db : s.heap.DictOf (intKind W.prog W.w) b kb) (hu : A.units < cLine) (hits : ka.length = kb.length → KeqHits A.in1 s kb ka r) : RcAt A s (.ref a) (.ref b) (ka.length == kb.length && r) := fun prog w E Q h =>
 keq_eq (knd := intKind prog w) ha hb (sW da) (sW db) hu hits h
theorem p6 {α : Type} {d : List (Int × α)} (nd : (d.map ai).Nodup) {p : Int × α} (h : p ∈ d) : jB d p.1 = some p.2 := by
 unfold jB
 induction d with
 | nil => cases h
 | cons q d ih =>
  rw [aC, aY] at nd
  rw [dm]
  rcases au.mp h with rfl | h
  ·simp
  ·have : ¬ q.1 = p.1 := fun e => nd.1 (e ▸ aO (f := ai) h)
   simp only [this, decide_false]
   exact ih nd.2 h
theorem sj {A : Around} {s : Shared} {G : Gh} {α : Type} {f : α → PV} {kb : List (Int × Value)} (e : Int → α → Bool) :
  ∀ {d0 : List (Int × α)} {ka : List (Int × Value)}, KV W G f d0 ka → (∀ p ∈ d0, ∀ v, RV W G (f p.2) v → (valueAt kb p.1 = none ∧ e p.1 p.2 = false) ∨ ∃ y, valueAt kb p.1 = some y ∧ EqAt A s v y (e p.1 p.2)) → KeqHits A s kb ka (d0.all fun p => e p.1 p.2)
 | [], ka, h, hd => by subst h; exact .nil
 | p :: d0, ka, h, hd => by
  obtain ⟨v, r, rfl, h1, h2⟩ := h
  have ih := sj e h2 fun q hq => hd q (.tail _ hq)
  rw [jc]
  rcases hd p (.head _) v h1 with ⟨q1, q2⟩ | ⟨y, q1, q2⟩
  ·rw [q2, d5]; exact .miss q1
  ·exact .hit q1 q2 ih
theorem nf {G} {s : Shared} (hi : ∀ b o, G.g b = some o → s.heap.get? b = some o) : ∀ (k : Nat) {p : PV} {u v : Value} {A : Around}, oR k p → RV W G p u → RV W G p v → A.units + k < cLine → EqAt A s u v true := by
 have scal : ∀ {p : PV} {u v : Value} {A : Around}, (p = .none ∨ (∃ b, p = .bool b) ∨ (∃ i, p = .int i) ∨ ∃ x, p = .str x) → RV W G p u → RV W G p v → EqAt A s u v true := by
  rintro p u v A (rfl | ⟨b, rfl⟩ | ⟨i, rfl⟩ | ⟨x, rfl⟩) hu hv
  ·subst hu; subst hv; exact EqAt.same _
  ·subst hu; subst hv; exact EqAt.same _
  ·skip
   obtain ⟨t, rfl⟩ := hu
   obtain ⟨t', rfl⟩ := hv
   have := EqAt.int_int (A := A) (s := s) i t i t'
   rwa [beq_self_eq_true] at this
  ·skip
   obtain ⟨t, rfl⟩ := hu
   obtain ⟨t', rfl⟩ := hv
   have := EqAt.str_str (A := A) (s := s) x t x t'
   rwa [beq_self_eq_true] at this
 intro k
 induction k with
 | zero =>
  intro p u v A hp hu hv hA
  cases p with
  | none => exact scal (.inl rfl) hu hv
  | bool b => exact scal (.inr (.inl ⟨_, rfl⟩)) hu hv
  | int i => exact scal (.inr (.inr (.inl ⟨_, rfl⟩))) hu hv
  | str x => exact scal (.inr (.inr (.inr ⟨_, rfl⟩))) hu hv
  | _ => exact (show False from hp).elim
 | succ k ih =>
  intro p u v A hp hu hv hA
  have hA0 : A.units < cLine := by exact J10 22 hA
  have hA1 : A.in1.units + k < cLine := by show A.units + 1 + k < cLine; exact J10 23 hA
  cases p with
  | none => exact scal (.inl rfl) hu hv
  | bool b => exact scal (.inr (.inl ⟨_, rfl⟩)) hu hv
  | int i => exact scal (.inr (.inr (.inl ⟨_, rfl⟩))) hu hv
  | str x => exact scal (.inr (.inr (.inr ⟨_, rfl⟩))) hu hv
  | tup xs =>
   have hp' : ∀ x ∈ xs, oR k x := hp
   obtain ⟨a, vs, rfl, ⟨o, e1, c1, m1, d1⟩, rs⟩ := hu
   obtain ⟨b, ws, rfl, ⟨o', e2, c2, m2, d2⟩, rs'⟩ := hv
   by_cases hab : a = b
   ·subst hab; exact EqAt.same _
   ·have hsz : vs.toArray.size = ws.toArray.size := by rw [aH, aH, rs.length, rs'.length]
    have := RcAt.tuples (A := A) (s := s) (e := fun _ => true) ⟨o, hi _ _ e1, c1, m1, d1⟩ ⟨o', hi _ _ e2, c2, m2, d2⟩ hA0 fun j j1 j2 => by
     obtain ⟨x, hx, r1, r2⟩ := pC rs rs' j1 j2
     exact ih (hp' x hx) r1 r2 hA1
    rw [hsz] at this
    simp only [aV.mpr (fun _ _ => rfl), beq_self_eq_true, eG] at this
    exact EqAt.of_refs hab this
  | lst xs =>
   have hp' : ∀ x ∈ xs, oR k x := hp
   obtain ⟨a, vs, m1, rfl, e1, rs⟩ := hu
   obtain ⟨b, ws, m2, rfl, e2, rs'⟩ := hv
   by_cases hab : a = b
   ·subst hab; exact EqAt.same _
   ·have hsz : vs.toArray.size = ws.toArray.size := by rw [aH, aH, rs.length, rs'.length]
    have := RcAt.lists (A := A) (s := s) (e := fun _ => true) (js (hi _ _ e1)) (js (hi _ _ e2)) hsz hA0 fun j j1 j2 => by
     obtain ⟨x, hx, r1, r2⟩ := pC rs rs' j1 j2
     exact ih (hp' x hx) r1 r2 hA1
    simp only [aV.mpr (fun _ _ => rfl)] at this
    exact EqAt.of_refs hab this
  | dct es =>
   obtain ⟨d, rfl, hp'⟩ : ∃ d : List (Int × PV), es = Dk id d ∧ ∀ p ∈ d, oR k p.2 := hp
   obtain ⟨a, vs, m1, rfl, e1, ⟨n1, nd1⟩, rs⟩ := hu
   obtain ⟨b, ws, m2, rfl, e2, ⟨n2, nd2⟩, rs'⟩ := hv
   by_cases hab : a = b
   ·subst hab; exact EqAt.same _
   ·obtain ⟨ka, kva, da⟩ := kc (W := W) (f := id) (hi _ _ e1) nd1 rs
    obtain ⟨kb, kvb, db⟩ := kc (W := W) (f := id) (hi _ _ e2) nd2 rs'
    have nd := qm.mp nd1
    have := sX (A := A) n1 n2 da db hA0 fun _ => sj (A := A.in1) (s := s) (kb := kb) (fun _ _ => true) kva fun p hp v hv => by
     obtain ⟨y, hy, ry⟩ := (kvb.valueAt p.1).2 p.2 (p6 nd hp)
     exact .inr ⟨y, hy, ih (hp' p hp) hv ry hA1⟩
    rw [kva.length, kvb.length] at this
    simp only [beq_self_eq_true, aV.mpr (fun _ _ => rfl), eG] at this
    exact EqAt.of_refs hab this
  | _ => exact (show False from hp).elim
theorem lg.eq {A : Around} {n} (R : lg A n) {k : Nat} (hk : k ≤ 64) : A.units + k < cLine := by have := R.ult64; exact J11 0 hk this
theorem HR.look {G} {s : Shared} {p q p' q' : PV} {u v : Value} (hr : HR W G H s) (hp : pA H p p') (hq : pA H q q') (hu : RV W G p u) (hv : RV W G q v) : ∃ G', (∀ b o, G'.g b = some o → s.heap.get? b = some o) ∧ RV W G' p' u ∧ RV W G' q' v := by
 obtain ⟨e, y, hy⟩ := hr.freeze jK.all
 exact ⟨_, fun b o q => (y.imm b o q).1, hy _ _ _ hp hu, hy _ _ _ hq hv⟩
theorem FY {A s u v} {b : Bool} {G} {k : Nat} {p : PV} (hi : ∀ b o, G.g b = some o → s.heap.get? b = some o) (hd : oR (k + 1) p) (hu : RV W G p u) (hv : RV W G p v) (hA : A.units + k + 1 < cLine) : RcAt A s u v true := by
 have hA0 : A.units < cLine := by exact J5 7 hA
 have hA1 : A.in1.units + k < cLine := by show A.units + 1 + k < cLine; exact J5 8 hA
 cases p with
 | none => subst hu; subst hv; exact RcAt.none_none
 | bool b => subst hu; subst hv; have := RcAt.bool_bool (A := A) (s := s) b b; rwa [beq_self_eq_true] at this
 | int i =>
  obtain ⟨t, rfl⟩ := hu
  obtain ⟨t', rfl⟩ := hv
  have := RcAt.int_int (A := A) (s := s) i t i t'
  rwa [beq_self_eq_true] at this
 | str x =>
  obtain ⟨t, rfl⟩ := hu
  obtain ⟨t', rfl⟩ := hv
  have := RcAt.str_str (A := A) (s := s) x t x t'
  rwa [beq_self_eq_true] at this
 | tup xs =>
  have hp' : ∀ x ∈ xs, oR k x := hd
  obtain ⟨a, vs, rfl, ⟨o, e1, c1, m1, d1⟩, rs⟩ := hu
  obtain ⟨b, ws, rfl, ⟨o', e2, c2, m2, d2⟩, rs'⟩ := hv
  have hsz : vs.toArray.size = ws.toArray.size := by rw [aH, aH, rs.length, rs'.length]
  have := RcAt.tuples (A := A) (s := s) (e := fun _ => true) ⟨o, hi _ _ e1, c1, m1, d1⟩ ⟨o', hi _ _ e2, c2, m2, d2⟩ hA0 fun j j1 j2 => by
   obtain ⟨x, hx, r1, r2⟩ := pC rs rs' j1 j2
   exact nf hi k (hp' x hx) r1 r2 hA1
  rw [hsz] at this
  simpa only [aV.mpr (fun _ _ => rfl), beq_self_eq_true, eG] using this
 | lst xs =>
  have hp' : ∀ x ∈ xs, oR k x := hd
  obtain ⟨a, vs, m1, rfl, e1, rs⟩ := hu
  obtain ⟨b, ws, m2, rfl, e2, rs'⟩ := hv
  have hsz : vs.toArray.size = ws.toArray.size := by rw [aH, aH, rs.length, rs'.length]
  have := RcAt.lists (A := A) (s := s) (e := fun _ => true) (js (hi _ _ e1)) (js (hi _ _ e2)) hsz hA0 fun j j1 j2 => by
   obtain ⟨x, hx, r1, r2⟩ := pC rs rs' j1 j2
   exact nf hi k (hp' x hx) r1 r2 hA1
  simpa only [aV.mpr (fun _ _ => rfl)] using this
 | dct es =>
  obtain ⟨d, rfl, hp'⟩ : ∃ d : List (Int × PV), es = Dk id d ∧ ∀ p ∈ d, oR k p.2 := hd
  obtain ⟨a, vs, m1, rfl, e1, ⟨n1, nd1⟩, rs⟩ := hu
  obtain ⟨b, ws, m2, rfl, e2, ⟨n2, nd2⟩, rs'⟩ := hv
  obtain ⟨ka, kva, da⟩ := kc (W := W) (f := id) (hi _ _ e1) nd1 rs
  obtain ⟨kb, kvb, db⟩ := kc (W := W) (f := id) (hi _ _ e2) nd2 rs'
  have nd := qm.mp nd1
  have := sX (A := A) n1 n2 da db hA0 fun _ => sj (A := A.in1) (s := s) (kb := kb) (fun _ _ => true) kva fun p hp v hv => by
   obtain ⟨y, hy, ry⟩ := (kvb.valueAt p.1).2 p.2 (p6 nd hp)
   exact .inr ⟨y, hy, nf hi k (hp' p hp) hv ry hA1⟩
  rw [kva.length, kvb.length] at this
  simpa only [beq_self_eq_true, aV.mpr (fun _ _ => rfl), eG] using this
 | _ => exact (show False from hd).elim
theorem qs (k : Nat) {p q t : PV} (hk : k ≤ 60) (hp : pA H p t) (hq : pA H q t) (hd : oR (k + 1) t) (h : Q (.bool true) H) : lC W n H (compareOp .Eq) p q Q := fun A G s u v R hr hu hv => by
 obtain ⟨G', hi, r1, r2⟩ := hr.look hp hq hu hv
 exact FY (b := true) hi hd r1 r2 (by have := R.eq (k := k + 1) (by exact J5 9 hk); exact J5 10 this) W.prog W.w mO (Fin W Q G s) (ls hr h)
theorem CY {A s u v} {G} {k : Nat} {p : PV} (hi : ∀ b o, G.g b = some o → s.heap.get? b = some o) (hd : oR (k + 1) p) (hu : RV W G p u) (hv : RV W G p v) (hA : A.units + k + 1 < cLine) (hnd : ∀ es, p ≠ .dct es) : RcNeAt A s u v false := by
 have hA0 : A.units < cLine := by exact J5 7 hA
 have hA1 : A.in1.units + k < cLine := by show A.units + 1 + k < cLine; exact J5 8 hA
 cases p with
 | none => subst hu; subst hv; exact RcNeAt.none_none
 | bool b => subst hu; subst hv; have := RcNeAt.bool_bool (A := A) (s := s) b b; simpa using this
 | int i =>
  obtain ⟨t, rfl⟩ := hu
  obtain ⟨t', rfl⟩ := hv
  have := RcNeAt.int_int (A := A) (s := s) i t i t'
  simpa using this
 | str x =>
  obtain ⟨t, rfl⟩ := hu
  obtain ⟨t', rfl⟩ := hv
  have := RcNeAt.str_str (A := A) (s := s) x t x t'
  simpa using this
 | tup xs =>
  have hp' : ∀ x ∈ xs, oR k x := hd
  obtain ⟨a, vs, rfl, ⟨o, e1, c1, m1, d1⟩, rs⟩ := hu
  obtain ⟨b, ws, rfl, ⟨o', e2, c2, m2, d2⟩, rs'⟩ := hv
  have hsz : vs.toArray.size = ws.toArray.size := by rw [aH, aH, rs.length, rs'.length]
  have := RcNeAt.tuples (A := A) (s := s) (e := fun _ => true) ⟨o, hi _ _ e1, c1, m1, d1⟩ ⟨o', hi _ _ e2, c2, m2, d2⟩ hA0 fun j j1 j2 => by
   obtain ⟨x, hx, r1, r2⟩ := pC rs rs' j1 j2
   exact nf hi k (hp' x hx) r1 r2 hA1
  rw [hsz] at this
  simpa only [aV.mpr (fun _ _ => rfl), beq_self_eq_true, eG, jf] using this
 | lst xs =>
  have hp' : ∀ x ∈ xs, oR k x := hd
  obtain ⟨a, vs, m1, rfl, e1, rs⟩ := hu
  obtain ⟨b, ws, m2, rfl, e2, rs'⟩ := hv
  have hsz : vs.toArray.size = ws.toArray.size := by rw [aH, aH, rs.length, rs'.length]
  have := RcNeAt.lists (A := A) (s := s) (e := fun _ => true) (js (hi _ _ e1)) (js (hi _ _ e2)) hsz hA0 fun j j1 j2 => by
   obtain ⟨x, hx, r1, r2⟩ := pC rs rs' j1 j2
   exact nf hi k (hp' x hx) r1 r2 hA1
  simpa only [aV.mpr (fun _ _ => rfl), jf] using this
 | dct es => exact absurd rfl (hnd es)
 | _ => exact (show False from hd).elim
theorem jT (k : Nat) {p q t : PV} (hk : k ≤ 60) (hp : pA H p t) (hq : pA H q t) (hd : oR (k + 1) t) (hnd : ∀ es, t ≠ .dct es) (h : Q (.bool false) H) : lC W n H (compareOp .NotEq) p q Q := fun A G s u v R hr hu hv => by
 obtain ⟨G', hi, r1, r2⟩ := hr.look hp hq hu hv
 exact CY hi hd r1 r2 (by have := R.eq (k := k + 1) (by exact J5 9 hk); exact J5 10 this) hnd W.prog W.w mO (Fin W Q G s) (ls hr h)
theorem nD {p q : PV} {xs : List PV} (w : Vw H p (.lst xs)) (w' : Vw H q (.lst [])) (h : Q (.bool (!xs.isEmpty)) H) : lC W n H (compareOp .NotEq) p q Q := fun A G s u v R hr hu hv => by
 obtain ⟨a, vs, m1, rfl, e1, rs⟩ := w.lstAt hr hu
 obtain ⟨b, ws, m2, rfl, e2, rs'⟩ := w'.lstAt hr hv
 subst rs'
 cases xs with
 | nil =>
  subst rs
  exact RcNeAt.lists (A := A) (s := s) (e := fun _ => true) (js e1) (js e2) rfl R.ult (fun j j1 _ => absurd j1 (dp _)) W.prog W.w mO (Fin W Q G s) (ls hr h)
 | cons x xs =>
  exact RcNeAt.lists_lengths (A := A) (s := s) (js e1) (js e2) (by rw [aH, rs.length]; rfl) R.ult W.prog W.w mO (Fin W Q G s) (ls hr h)
theorem CZ {p q : PV} {xs : List PV} (w : Vw H p (.lst xs)) (w' : Vw H q (.lst [])) (h : Q (.bool xs.isEmpty) H) : lC W n H (compareOp .Eq) p q Q := fun A G s u v R hr hu hv => by
 obtain ⟨a, vs, m1, rfl, e1, rs⟩ := w.lstAt hr hu
 obtain ⟨b, ws, m2, rfl, e2, rs'⟩ := w'.lstAt hr hv
 subst rs'
 cases xs with
 | nil =>
  subst rs
  exact RcAt.lists (A := A) (s := s) (e := fun _ => true) (js e1) (js e2) rfl R.ult (fun j j1 _ => absurd j1 (dp _)) W.prog W.w mO (Fin W Q G s) (ls hr h)
 | cons x xs =>
  exact RcAt.lists_lengths (A := A) (s := s) (js e1) (js e2) (by rw [aH, rs.length]; rfl) R.ult W.prog W.w mO (Fin W Q G s) (ls hr h)
theorem xR {p q : PV} {xs : List PV} (w : Vw H p (.tup xs)) (w' : Vw H q (.tup [])) (h : Q (.bool (!xs.isEmpty)) H) : lC W n H (compareOp .NotEq) p q Q := fun A G s u v R hr hu hv => by
 obtain ⟨a, vs, rfl, e1, rs⟩ := w.tupAt hr hu
 obtain ⟨b, ws, rfl, e2, rs'⟩ := w'.tupAt hr hv
 subst rs'
 have := RcNeAt.tuples (A := A) (s := s) (e := fun _ => true) e1 e2 R.ult (fun j _ j2 => absurd j2 (dp _)) W.prog W.w mO (Fin W Q G s)
 refine this (ls hr ?_)
 cases xs with
 | nil => subst rs; exact h
 | cons x xs =>
  have hl := rs.length
  cases vs with
  | nil => cases hl
  | cons v vs => exact h
theorem xS {x y : Str} (h : Q (.bool (x == y)) H) : lC W n H (compareOp .Eq) (.str x) (.str y) Q := fun A G s u v R hr hu hv => by
 obtain ⟨t, rfl⟩ := hu
 obtain ⟨t', rfl⟩ := hv
 exact RcAt.str_str (A := A) (s := s) x t y t' W.prog W.w mO (Fin W Q G s) (ls hr h)
theorem A5 {x y : Str} (h : Q (.bool (!(x == y))) H) : lC W n H (compareOp .NotEq) (.str x) (.str y) Q := fun A G s u v R hr hu hv => by
 obtain ⟨t, rfl⟩ := hu
 obtain ⟨t', rfl⟩ := hv
 exact RcNeAt.str_str (A := A) (s := s) x t y t' W.prog W.w mO (Fin W Q G s) (ls hr h)
noncomputable def D5 (d e : List (Int × Int)) : Bool := d.length == e.length && d.all fun p => match jB e p.1 with | some y => p.2 == y | none => false
theorem D6 {p q : PV} {d e : List (Int × Int)} (w : Vw H p (.dct (Dk .int d))) (w' : Vw H q (.dct (Dk .int e))) (h : Q (.bool (D5 d e)) H) : lC W n H (compareOp .Eq) p q Q := fun A G s u v R hr hu hv => by
 obtain ⟨a, vs, m1, rfl, e1, ⟨n1, nd1⟩, rs⟩ := w.dctAt hr hu
 obtain ⟨b, ws, m2, rfl, e2, ⟨n2, nd2⟩, rs'⟩ := w'.dctAt hr hv
 obtain ⟨ka, kva, da⟩ := kc (W := W) (f := PV.int) e1 nd1 rs
 obtain ⟨kb, kvb, db⟩ := kc (W := W) (f := PV.int) e2 nd2 rs'
 have := sX (A := A) n1 n2 da db R.ult fun _ => sj (A := A.in1) (s := s) (kb := kb) (fun k x => match jB e k with | some y => x == y | none => false) kva fun p hp v hv => by
  obtain ⟨q1, q2⟩ := kvb.valueAt p.1
  cases hd : jB e p.1 with
  | none => exact .inl ⟨q1 hd, rfl⟩
  | some y =>
   obtain ⟨yv, hy, ry⟩ := q2 y hd
   obtain ⟨t, rfl⟩ := lO hv
   obtain ⟨t', rfl⟩ := lO ry
   refine .inr ⟨_, hy, ?_⟩
   have := EqAt.int_int (A := A.in1) (s := s) p.2 t y t'
   exact this
 rw [kva.length, kvb.length] at this
 exact this W.prog W.w mO (Fin W Q G s) (ls hr h)
end
end
noncomputable def pK {α : Type} (n : Nat) (lt : Nat → Nat → Bool) : KasT α → (α → Prop) → Prop
 | .ret a, Q => Q a
 | .ask i j k, Q => i < n ∧ j < n ∧ pK n lt (k (lt i j)) Q
theorem m4 {α β : Type} {n lt} {f : α → KasT β} {Q : β → Prop} : ∀ {t : KasT α}, pK n lt t (fun a => pK n lt (f a) Q) → pK n lt (t.bind f) Q
 | .ret _, h => h
 | .ask i j k, h => ⟨h.1, h.2.1, m4 (t := k (lt i j)) h.2.2⟩
theorem uf {α : Type} {n lt} {Q Q' : α → Prop} (hq : ∀ a, Q a → Q' a) : ∀ {t : KasT α}, pK n lt t Q → pK n lt t Q'
 | .ret _, h => hq _ h
 | .ask i j k, h => ⟨h.1, h.2.1, uf (t := k (lt i j)) hq h.2.2⟩
theorem xT {α : Type} {n lt} {cmp : Nat → Nat → (Bool → Shared → Prop) → Shared → Prop} {s : Shared} {Q : α → Shared → Prop} (hc : ∀ i j C, i < n → j < n → C (lt i j) s → cmp i j C s) : ∀ {t : KasT α}, pK n lt t (fun a => Q a s) → t.kasWp cmp Q s
 | .ret _, h => h
 | .ask i j k, h => hc i j _ h.1 h.2.1 (xT hc (t := k (lt i j)) h.2.2)
structure Wo (lt : Nat → Nat → Bool) : Prop where
 irr : ∀ a, lt a a = false
 asy : ∀ a b, lt a b = true → lt b a = false
 tr : ∀ a b c, lt b a = false → lt c b = false → lt c a = false
section
variable {n : Nat} {lt : Nat → Nat → Bool}
noncomputable abbrev lh (p : Array Nat) (i : Nat) : Nat := p.getD i 0
noncomputable def Up (lt : Nat → Nat → Bool) (p : Array Nat) (m : Nat) : Prop := ∀ i j, i < j → j < m → lt (lh p j) (lh p i) = false
noncomputable def Dn (lt : Nat → Nat → Bool) (p : Array Nat) (m : Nat) : Prop := ∀ i j, i < j → j < m → lt (lh p i) (lh p j) = false
structure Pm (n : Nat) (p : Array Nat) : Prop where
 perm : p.Perm (eZ (av n))
theorem Pm.size {p} (h : Pm n p) : p.size = n := by have := h.perm.size_eq; simpa using this
theorem Pm.low {p} (h : Pm n p) {i : Nat} (hi : i < n) : lh p i < n := by
 have hs := h.size
 have hi' : i < p.size := by exact J0 4 hs hi
 have hm : p[i] ∈ p.toList := by simp
 have := (cO.mp h.perm).mem_iff.mp hm
 have h2 : lh p i = p[i] := by simp [lh, ja, hi']
 rw [h2]; simpa using this
theorem Pm.mirror {p} (h : Pm n p) (i j d : Nat) : Pm n (mirror p i j d) := ⟨(mirror_perm p i j d).trans h.perm⟩
theorem Pm.bubble {p} (h : Pm n p) (i d : Nat) : Pm n (bubble p i d) := ⟨(bubble_perm p i d).trans h.perm⟩
theorem Pm.rev {p} (h : Pm n p) (i j : Nat) : Pm n (i4 p i j) := h.mirror _ _ _
theorem ra {p : Array Nat} {i j : Nat} (hj : j ≤ p.size) (k : Nat) : lh (i4 p i j) k = if i ≤ k ∧ k < j then lh p (i + j - 1 - k) else lh p k := by
 have := getElem?_mirror_all (i := i) hj k
 unfold i4
 simp only [lh, fe, this]
 split <;> rfl
theorem EH {p : Array Nat} {src d : Nat} (hs : src < p.size) (hd : d ≤ src) (k : Nat) : lh (bubble p src d) k = if k = src - d then lh p src else if src - d < k ∧ k ≤ src then lh p (k - 1) else lh p k := by
 have := getElem?_bubble hs d hd k
 simp only [lh, fe, this]
 split
 ·rfl
 ·split <;> rfl
theorem uQ {p : Array Nat} (W : Wo lt) (hp : Pm n p) {Q : Nat → Prop} : ∀ (f m : Nat), 1 ≤ m → m + f ≤ n → Up lt p m → (∀ m', m ≤ m' → m' ≤ m + f → Up lt p m' → (m' < m + f → lt (lh p m') (lh p (m' - 1)) = true) → Q m') → pK n lt (kas_asc p f m) Q
 | 0, m, h1, h2, hu, h => h m (aU _) (aU _) hu (fun q => absurd q (dq _))
 | f + 1, m, h1, h2, hu, h => by
  refine ⟨hp.low (by exact J3 8 h2), hp.low (by exact J3 9 h2), ?_⟩
  cases hc : lt (p.getD m 0) (p.getD (m - 1) 0) with
  | true => exact h m (aU _) (by exact J11 1) hu fun _ => hc
  | false =>
   refine uQ W hp f (m + 1) (by exact J11 2) (by exact J2 11 h2) (fun i j hij hj => ?_) fun m' a b c d => h m' (by exact J0 9 a) (by exact J11 3 b) c fun q => d (by exact J11 4 q)
   by_cases e : j < m
   ·exact hu i j hij e
   ·have : j = m := by exact J5 11 hj e
    subst this
    by_cases e' : i = j - 1
    ·rw [e']; exact hc
    ·exact W.tr _ _ _ (hu i (j - 1) (by exact J2 12 hij e') (by exact J3 10 h1)) hc
noncomputable def vI (lt : Nat → Nat → Bool) (p : Array Nat) (a b : Nat) : Prop := ∀ i j, a ≤ i → i < b → a ≤ j → j < b → lt (lh p i) (lh p j) = false
theorem A6 {p : Array Nat} {a b m : Nat} (hb : b ≤ m) (hm : m ≤ p.size) (hd : Dn lt p m) (ha : vI lt p a b) : Dn lt (i4 p a b) m := fun i j hij hj => by
 rw [ra (by exact J1 10 hm hb), ra (by exact J1 10 hm hb)]
 split <;> split
 ·exact ha _ _ (by exact J11 5 ‹_› hij) (by exact J11 6 ‹_›) (by exact J11 7 ‹_›) (by exact J11 8 ‹_› hij)
 ·exact hd _ _ (by exact J11 9 ‹_› hij ‹_›) hj
 ·exact hd _ _ (by exact J11 10 ‹_› hij ‹_›) (by exact J11 11 hb ‹_›)
 ·exact hd _ _ hij hj
theorem qt (W : Wo lt) {Q : Array Nat × Nat × Nat → Prop} : ∀ (f : Nat) (p : Array Nat) (m q : Nat), Pm n p → q + 1 ≤ m → m + f ≤ n → Dn lt p m → vI lt p (m - (q + 1)) m →
  (∀ p' m' q', Pm n p' → q' + 1 ≤ m' → m ≤ m' → m' ≤ n → Dn lt p' m' → vI lt p' (m' - (q' + 1)) m' → Q (p', m', q')) → pK n lt (kas_desc f p m q) Q
 | 0, p, m, q, hp, h1, h2, hd, ha, h => h p m q hp h1 (aU _) (by exact J11 12 h2) hd ha
 | f + 1, p, m, q, hp, h1, h2, hd, ha, h => by
  refine ⟨hp.low (by exact J3 8 h2), hp.low (by exact J3 9 h2), ?_⟩
  have hs := hp.size
  have up : ∀ (hz : lt (lh p (m - 1)) (lh p m) = false), Dn lt p (m + 1) := fun hz i j hij hj => by
   by_cases e : j < m
   ·exact hd i j hij e
   ·have : j = m := by exact J5 11 hj e
    subst this
    by_cases e' : i = j - 1
    ·rw [e']; exact hz
    ·exact W.tr _ _ _ hz (hd i (j - 1) (by exact J2 12 hij e') (by exact J3 11 h1))
  have one : ∀ p', vI lt p' (m + 1 - (0 + 1)) (m + 1) := fun p' i j h1 h2 h3 h4 => by
   have : i = j := by exact J5 12 h3 h1 h4 h2
   subst this; exact W.irr _
  cases hc : lt (p.getD m 0) (p.getD (m - 1) 0) with
  | true =>
   have hz : lt (lh p (m - 1)) (lh p m) = false := W.asy _ _ hc
   by_cases hq : q > 0
   ·simp only [if_true, if_pos hq]
    exact qt W f _ (m + 1) 0 (hp.rev _ _) (by exact J3 12) (by exact J2 11 h2) (A6 (by exact J3 13) (by exact J11 13 h2 hs) (up hz) ha) (one _) fun p' m' q' a b c d e g => h p' m' q' a b (by exact J0 9 c) d e g
   ·simp only [if_true, if_neg hq]
    exact qt W f _ (m + 1) 0 hp (by exact J3 12) (by exact J2 11 h2) (up hz) (one _) fun p' m' q' a b c d e g => h p' m' q' a b (by exact J0 9 c) d e g
  | false =>
   simp only [cj, if_false]
   refine ⟨hp.low (by exact J3 9 h2), hp.low (by exact J3 8 h2), ?_⟩
   cases hd2 : lt (p.getD (m - 1) 0) (p.getD m 0) with
   | true =>
    simp only [if_true]
    exact h p m q hp h1 (aU _) (by exact J11 14 h2) hd ha
   | false =>
    simp only [cj, if_false]
    refine qt W f p (m + 1) (q + 1) hp (by exact J11 15 h1) (by exact J2 11 h2) (up hd2) (fun i j i1 i2 j1 j2 => ?_) fun p' m' q' a b c d e g => h p' m' q' a b (by exact J0 9 c) d e g
    by_cases ei : i = m <;> by_cases ej : j = m
    ·rw [ei, ej]; exact W.irr _
    ·rw [ei]
     by_cases e' : j = m - 1
     ·rw [e']; exact hc
     ·exact W.tr _ _ _ (ha (m - 1) j (by exact J5 13) (by exact J3 11 h1) (by exact J2 13 j1) (by exact J0 11 j2 ej)) hc
    ·rw [ej]
     by_cases e' : i = m - 1
     ·rw [e']; exact hd2
     ·exact W.tr _ _ _ hd2 (ha i (m - 1) (by exact J2 13 i1) (by exact J0 11 i2 ei) (by exact J5 13) (by exact J3 11 h1))
    ·exact ha i j (by exact J2 13 i1) (by exact J0 11 i2 ei) (by exact J2 13 j1) (by exact J0 11 j2 ej)
theorem A7 {p : Array Nat} {m : Nat} (hm : m ≤ p.size) (hd : Dn lt p m) : Up lt (i4 p 0 m) m := fun i j hij hj => by
 rw [ra hm, ra hm, if_pos ⟨bF _, by exact J5 14 hj⟩, if_pos ⟨bF _, by exact J11 16 hj hij⟩]
 exact hd _ _ (by exact J11 17 hj hij) (by exact J11 18 hj)
theorem ug (W : Wo lt) {Q : Nat × Array Nat → Prop} {p : Array Nat} {m : Nat} (hp : Pm n p) (h1 : 1 ≤ m) (hm : m ≤ n) (hd : Dn lt p m)
  (h : ∀ m' p', Pm n p' → 1 ≤ m' → m' ≤ n → Up lt p' m' → Q (m', p')) : pK n lt (kas_tail3 m n p) Q := by
 have hs := hp.size
 unfold kas_tail3
 refine m4 (uQ W (hp.rev 0 m) (n - m) m h1 (by exact J11 19 hm) (A7 (by exact J5 15 hm hs) hd) fun m' a b c _ => ?_)
 exact h m' _ (hp.rev 0 m) (by exact J11 20 a h1) (by exact J11 21 hm b) c
theorem qu (W : Wo lt) {Q : Nat × Array Nat → Prop} {p : Array Nat} {m : Nat} (hp : Pm n p) (hm : m + 1 ≤ n) (hd : Dn lt p (m + 1))
  (h : ∀ m' p', Pm n p' → 1 ≤ m' → m' ≤ n → Up lt p' m' → Q (m', p')) : pK n lt (kas_descPart m n p) Q := by
 unfold kas_descPart
 refine m4 (qt W (n - (m + 1)) p (m + 1) 0 hp (by exact J3 12) (by exact J11 22 hm) hd (fun i j h1 h2 h3 h4 => ?_) fun p' m' q' a b c d e g => ?_)
 ·have : i = j := by exact J5 12 h3 h1 h4 h2
  subst this; exact W.irr _
 ·have hs := a.size
  dsimp only
  split
  ·exact ug W (a.rev _ _) (by exact J5 16 b) d (A6 (aU _) (by exact J5 15 d hs) e g) h
  ·exact ug W a (by exact J5 16 c) d e h
theorem y1 (W : Wo lt) {Q : Nat × Array Nat → Prop} {p : Array Nat} (hp : Pm n p) (hn : 1 ≤ n)
  (h : ∀ m' p', Pm n p' → 1 ≤ m' → m' ≤ n → Up lt p' m' → Q (m', p')) : pK n lt (kas_count n p) Q := by
 have hs := hp.size
 unfold kas_count
 refine m4 (uQ W hp (n - 1) 1 (aU _) (by exact J11 23 hn) (fun i j a b => absurd (cg a (dz b)) (dp _)) fun m a b c d => ?_)
 by_cases e : (m == n) = true
 ·rw [if_pos e]; exact h m p hp a (eX (eq_of_beq e)) c
 ·rw [if_neg e]
  have hmn : m < n := Nat.lt_of_le_of_ne (by exact J11 21 hn b) fun z => e (beq_iff_eq.mpr z)
  have hlt := d (by exact J12 0 hmn)
  have hz := W.asy _ _ hlt
  by_cases e1 : m > 1
  ·rw [if_pos e1]
   refine ⟨hp.low (by exact J12 1 hn), hp.low (by exact J12 2 hmn), ?_⟩
   cases hc : lt (p.getD 0 0) (p.getD (m - 1) 0) with
   | true => simp only [if_true]; exact h m p hp (by exact J12 3 a) (by exact J2 14 hmn) c
   | false =>
    simp only [cj, if_false]
    have al : vI lt p 0 m := fun i j i1 i2 j1 j2 => by
     have q1 : lt (lh p i) (lh p 0) = false := by
      by_cases z : i = 0
      ·rw [z]; exact W.irr _
      ·exact c 0 i (by exact J5 17 z) i2
     have q2 : lt (lh p (m - 1)) (lh p j) = false := by
      by_cases z : j = m - 1
      ·rw [z]; exact W.irr _
      ·exact c j (m - 1) (by exact J2 12 j2 z) (by exact J3 10 a)
     have q3 : lt (lh p j) (lh p 0) = false := by
      by_cases z : j = 0
      ·rw [z]; exact W.irr _
      ·exact c 0 j (by exact J5 17 z) j2
     have q4 : lt (lh p (m - 1)) (lh p i) = false := by
      by_cases z : i = m - 1
      ·rw [z]; exact W.irr _
      ·exact c i (m - 1) (by exact J2 12 i2 z) (by exact J3 10 a)
     exact W.tr _ _ _ (W.tr _ _ _ q2 hc) (by
      have := q1; exact this)
    refine qu W (hp.rev _ _) (by exact J3 14 hmn) (fun i j hij hj => ?_) h
    rw [ra (by exact J5 18 hs hmn), ra (by exact J5 18 hs hmn), if_pos (show 0 ≤ i ∧ i < m from ⟨bF _, cg hij (dz hj)⟩)]
    split
    ·exact al _ _ (by exact J3 15) (by exact J12 4 a) (by exact J3 15) (by exact J12 5 ‹_›)
    ·have : j = m := by exact J12 6 hj ‹_›
     subst this
     by_cases z : 0 + j - 1 - i = j - 1
     ·rw [z]; exact hz
     ·exact W.tr _ _ _ hz (al _ _ (by exact J3 15) (by exact J12 7 hij) (by exact J12 8) (by exact J12 9 hij))
  ·rw [if_neg e1]
   have : m = 1 := by exact J12 10 a e1
   subst this
   refine qu W hp hmn (fun i j hij hj => ?_) h
   have h0 : i = 0 := by exact J12 11 hij hj
   have h1 : j = 1 := by exact J12 12 hij hj
   subst h0; subst h1; exact hz
theorem mid {l r : Nat} (h : ¬ r ≤ l) : l ≤ (l + r) / 2 ∧ (l + r) / 2 < r := by lia
theorem rb (W : Wo lt) {p : Array Nat} {k : Nat} (hp : Pm n p) (hk : k < n) (hu : Up lt p k) {Q : Nat → Prop} : ∀ (f l r : Nat), l ≤ r → r ≤ k → r - l ≤ f → (∀ i, i < l → lt (lh p k) (lh p i) = false) → (∀ i, r ≤ i → i < k → lt (lh p i) (lh p k) = false) →
  (∀ l, l ≤ k → (∀ i, i < l → lt (lh p k) (lh p i) = false) → (∀ i, l ≤ i → i < k → lt (lh p i) (lh p k) = false) → Q l) → pK n lt (kas_place p k f l r) Q
 | 0, l, r, h1, h2, h3, hl, hr, h => h l (by exact J1 10 h2 h1) hl fun i a b => hr i (by exact J12 13 a h3) b
 | f + 1, l, r, h1, h2, h3, hl, hr, h => by
  unfold kas_place
  split
  ·exact h l (by exact J1 10 h2 h1) hl fun i a b => hr i (by exact J1 10 a ‹_›) b
  ·rename_i hlr
   obtain ⟨m1, m2⟩ := mid hlr
   generalize (l + r) / 2 = m at m1 m2
   have mk := cg m2 h2
   refine ⟨hp.low hk, hp.low (d7 mk hk), ?_⟩
   cases hc : lt (p.getD k 0) (p.getD m 0) with
   | true =>
    simp only [if_true]
    refine rb W hp hk hu f l _ m1 (Nat.le_of_lt mk) (dz (cg (gI m1 m2) h3)) hl (fun i a b => ?_) h
    have hz := W.asy _ _ hc
    by_cases z : i = m
    ·rw [z]; exact hz
    ·exact W.tr _ _ _ hz (hu _ _ (by exact J2 15 a z) b)
   | false =>
    simp only [cj, if_false]
    refine rb W hp hk hu f _ r m2 h2 (bj (Nat.sub_le_sub_left (Nat.succ_le_succ m1) r) (Nat.pred_le_pred h3)) (fun i a => ?_) hr h
    by_cases z : i = m
    ·rw [z]; exact hc
    ·exact W.tr _ _ _ (hu i _ (by exact J0 11 a z) mk) hc
theorem FZ {p : Array Nat} {k l x : Nat} (hs : k < p.size) (hl : l ≤ k) (hx : x < k + 1) : (x = l ∧ lh (bubble p k (k - l)) x = lh p k) ∨ (l < x ∧ lh (bubble p k (k - l)) x = lh p (x - 1)) ∨ (x < l ∧ lh (bubble p k (k - l)) x = lh p x) := by
 rw [EH hs (Nat.sub_le _ _), Nat.sub_sub_self hl]
 rcases Nat.lt_trichotomy x l with a | a | a
 ·exact .inr (.inr ⟨a, by rw [if_neg (bK a), if_neg fun z => gp a z.1]⟩)
 ·exact .inl ⟨a, if_pos a⟩
 ·exact .inr (.inl ⟨a, by rw [if_neg (ip a), if_pos ⟨a, dz hx⟩]⟩)
theorem xU (W : Wo lt) {Q : Array Nat → Prop} : ∀ (f : Nat) (p : Array Nat) (k : Nat), Pm n p → k + f = n → Up lt p k → (∀ p', Pm n p' → Up lt p' n → Q p') → pK n lt (kas_bin f p k) Q
 | 0, p, k, hp, hk, hu, h => h p hp (by rw [← hk]; exact hu)
 | f + 1, p, k, hp, hk, hu, h => by
  have hs := hp.size
  show pK n lt ((kas_place p k k 0 k).bind fun l => kas_bin f (bubble p k (k - l)) (k + 1)) Q
  refine m4 (rb W hp (by exact J12 14 hk) hu k 0 k (bF _) (aU _) (by exact J12 15) (fun i a => absurd a (dp _)) (fun i a b => absurd b (dP.mpr a)) fun l hl h1 h2 => ?_)
  refine xU W f _ (k + 1) (hp.bubble _ _) (by exact J12 16 hk) (fun i j hij hj => ?_) h
  have jk : ∀ {j}, l < j → j < k + 1 → j - 1 < k := fun a b => cg (Nat.sub_lt (bH (bF _) a) Nat.zero_lt_one) (dz b)
  have ks : k < p.size := by exact J5 19 hs hk
  rcases FZ ks hl hj with ⟨a, e⟩ | ⟨a, e⟩ | ⟨a, e⟩ <;> rcases FZ ks hl (d7 hij hj) with ⟨b, g⟩ | ⟨b, g⟩ | ⟨b, g⟩ <;> rw [e, g]
  ·exact W.irr _
  ·exact absurd (a ▸ hij) (gp b)
  ·exact h1 _ b
  ·exact h2 _ (gJ a) (jk a hj)
  ·exact hu _ _ (gI (bH (bF _) b) hij) (jk a hj)
  ·exact hu _ _ (cg b (gJ a)) (jk a hj)
  ·exact absurd (b ▸ hij) (gp a)
  ·exact absurd (d7 b hij) (gp a)
  ·exact hu _ _ hij (cg a hl)
theorem A8 (W : Wo lt) (hn : 1 ≤ n) : pK n lt (kas_sort n) fun p => Pm n p ∧ Up lt p n := by
 unfold kas_sort
 refine m4 (y1 W ⟨iX _⟩ hn fun m p hp h1 h2 hu => ?_)
 dsimp only
 split
 ·rw [show max m 1 = m by exact J12 20 h1]
  exact xU W _ p m hp (by exact J12 21 ‹_›) hu fun p' a b => ⟨a, b⟩
 ·have : m = n := by exact J3 7 h2 ‹_›
  subst this
  exact ⟨hp, hu⟩
end
set_option backward.match.sparseCases true
theorem xV {α : Type} [Inhabited α] {L : List α} {p : Array Nat} (hp : Pm L.length p) : (p.toList.map fun i => L.getD i default).Perm L := by
 have h1 := (cO.mp hp.perm).map fun i => L.getD i default
 refine h1.trans ?_
 rw [b7]
 have : (av L.length).map (fun i => L.getD i default) = L := by
  apply bO
  ·simp
  ·intro i h1 h2; simp [List.getD, h2]
 rw [this]
theorem xW {α : Type} [Inhabited α] {L : List α} {p : Array Nat} {lt : Nat → Nat → Bool} {lta : α → α → Bool} (hp : Pm L.length p) (hu : Up lt p L.length) (hl : ∀ i j, i < L.length → j < L.length → lt i j = lta (L.getD i default) (L.getD j default)) :
  (p.toList.map fun i => L.getD i default).Pairwise (fun a b => lta b a = false) := by
 rw [bU, fF]
 intro i j hi hj hij
 have hs := hp.size
 have hi' : i < p.size := by simpa using hi
 have hj' : j < p.size := by simpa using hj
 have e1 : p.toList[i] = lh p i := by simp [lh, ja, hi']
 have e2 : p.toList[j] = lh p j := by simp [lh, ja, hj']
 rw [e1, e2, ← hl _ _ (hp.low (by exact J0 12 hs hj')) (hp.low (by exact J12 22 hs hj' hij))]
 exact hu i j hij (by exact J0 12 hs hj')
section
variable {prog : Program} {w : World} {A : Around} {E : Value → Shared → Prop} {s : Shared}
theorem vJ {a : Addr} {vs : List Value} {e0 : Nat} {κ : SortKind} {lt : Nat → Nat → Bool} {P : jj → Shared → Prop} (ho : s.heap.get? a = some (seqObj "list" vs.toArray e0)) (h64 : vs.length < 64) (W : Wo lt)
  (hkind : 2 ≤ vs.length → ∀ (s' : Shared) (Q : SortKind → Shared → Prop), (∀ b o, b ≠ a → s.heap.get? b = some o → s'.heap.get? b = some o) → Q κ s' → wpAny (model prog w) A (keyKind' vs.toArray) Q (fun _ _ => False) s')
  (hlt : ∀ (s' : Shared) (i j : Nat) (C : Bool → Shared → Prop), (∀ b o, b ≠ a → s.heap.get? b = some o → s'.heap.get? b = some o) → i < vs.length → j < vs.length → C (lt i j) s' → wpAny (model prog w) A (keyLt' κ (vs.getD i .none) (vs.getD j .none)) C (fun _ _ => False) s')
  (h : ∀ p h' c, Pm vs.length p → Up lt p vs.length → h'.get? a = some (seqObj "list" (p.toList.map fun i => vs.getD i eA).toArray c) → (∀ b o, b ≠ a → s.heap.get? b = some o → h'.get? b = some o) → P (.done (.ret .none)) { s with heap := h' }) :
  wpAny (model prog w) A (Builtin.«list.sort» ⟨[.ref a], []⟩) P E s := by
 have ha : a < s.heap.objs.size := bq ho
 rw [list_sort_plain]
 refine aj (listItems_at ho rfl ?_)
 refine aj (listUpdate_at ho rfl ?_ (by rw [aH, am]; exact J0 5 h64) (bF _))
 obtain ⟨e1, ho1⟩ : ∃ e1, (s.heap.update a (bZ fun _ => (#[] : Array Value))).get? a = some (seqObj "list" #[] e1) := ⟨_, get?_update_seq ho fun _ => #[]⟩
 refine aj (seqEpoch_at ho1 rfl ?_)
 refine aj (wpAny_newTuple ?_ (by show vs.length ≤ _; rw [am]; exact J0 5 h64))
 refine aj (wpAny_newList ?_ (bF _))
 refine bv ?_
 generalize hH : ((s.heap.update a (bZ fun _ => (#[] : Array Value))).push (seqObj "tuple" vs.toArray 0)).push (seqObj "list" #[] 0) = H3
 have k3 : ∀ b o, b ≠ a → s.heap.get? b = some o → H3.get? b = some o := fun b o hb e => by
  rw [← hH]
  exact be _ (be _ ((cy _ _ _ _ hb).trans e))
 have ho3 : H3.get? a = some (seqObj "list" #[] e1) := by
  rw [← hH]; exact be _ (be _ ho1)
 show wpAny (model prog w) A _ P E { s with heap := H3 }
 dsimp only
 have fin : ∀ (st' : SortSt) (p : Array Nat), Pm vs.length p → Up lt p vs.length → (arrOf st').map (·.2) = (p.toList.map fun i => vs.getD i eA).toArray → failedOf st' = none →
   wpAny (model prog w) A (do
    let sorted := (arrOf st').map (·.2)
    let touched := (← seqEpoch a) != e1
    Builtin.List.listUpdate (.ref a) fun _ => sorted
    if let some e := failedOf st' then rule "list.sort.comparison-raised"; throw e
    if touched then rule "list.sort.modified"; raiseError "ValueError" "list modified during sort"
    ret .none) P E { s with heap := H3 } := by
  intro st' p hp hu hout hf
  dsimp only
  rw [hout]
  refine aj (seqEpoch_at ho3 rfl ?_)
  have hsz : (eZ (p.toList.map fun i => vs.getD i eA)).size = vs.length := by rw [aH, aa, bR, hp.size]
  refine aj (listUpdate_at ho3 rfl ?_ (bF _) (bj (eX hsz) (by rw [am]; exact J12 23 h64)))
  rw [hf]
  simp only [bne_self_eq_false, cj, if_false]
  refine aB (h p _ _ hp hu (get?_update_seq ho3 _) fun b o hb e => ?_)
  exact (cy _ _ _ _ hb).trans (k3 b o hb e)
 have hsz : vs.toArray.size = vs.length := by simp
 by_cases h2 : vs.toArray.size < 2
 ·rw [if_pos h2, if_pos h2]
  refine aj (aB ?_)
  rw [StateT.run_pure]
  refine aj (aB ?_)
  refine fin (ib general' (vs.toArray.zip vs.toArray) #[] 7 none) (eZ (av vs.length)) ⟨iX _⟩ (fun i j hij hj => ?_) ?_ rfl
  ·lia
  ·show (vs.toArray.zip vs.toArray).map (·.2) = _
   apply iJ.mp
   rw [iK]
   clear fin ho1 ho3 k3 hH h hlt hkind ho ha
   have h2 : vs.length < 2 := by exact J13 0 hsz h2
   rcases vs with _ | ⟨v, _ | ⟨w, t⟩⟩
   ·simp
   ·simp [bA]
   ·exact absurd h2 (dP.mpr (Nat.le_add_left 2 _))
 ·rw [if_neg h2, if_neg h2]
  have h2' : 2 ≤ vs.length := by exact J13 1 hsz h2
  refine aj (ay (hkind h2' { s with heap := H3 } (fun κ' s' => κ' = κ ∧ s' = { s with heap := H3 }) k3 ⟨rfl, rfl⟩) ?_ fun _ _ x => x.elim)
  rintro κ' s' ⟨eκ, rfl⟩
  rw [eκ]
  have est : ib κ (vs.toArray.zip vs.toArray) #[] 7 none = kas_st κ (pairsOf vs) (eZ (av vs.length)) := by
   have e := kas_range (pairsOf vs)
   rw [pairsOf_size] at e
   show ib κ (pairsOf vs) #[] 7 none = ib κ ((eZ (av vs.length)).map (kas_item (pairsOf vs))) #[] 7 none
   rw [e]
  have tree : (kas_sort vs.length).kasWp (kas_cmp prog w A κ (pairsOf vs)) (fun p s' => Pm vs.length p ∧ Up lt p vs.length ∧ s' = { s with heap := H3 }) { s with heap := H3 } := by
   refine xT (n := vs.length) (lt := lt) (fun i j C hi hj hC => ?_) (uf (fun p hp => ⟨hp.1, hp.2, rfl⟩) (A8 W (by exact J13 2 hsz h2)))
   rw [← kas_ask_eq]
   exact hlt _ i j C k3 hi hj hC
  have run := kas_runs (E := E) (Q := fun _ st' s' => ∃ p : Array Nat, arrOf st' = p.map (kas_item (pairsOf vs)) ∧ failedOf st' = none ∧ Pm vs.length p ∧ Up lt p vs.length ∧ s' = { s with heap := H3 })
   h2' h64 (fun p' st' s' a1 a2 a3 a4 => ⟨p', a2, a3, a4.1, a4.2.1, a4.2.2⟩) tree
  rw [← est] at run
  refine aj (ay run ?_ fun _ _ e => e)
  rintro ⟨⟨⟩, st'⟩ s' ⟨p, har, hf, hp, hu, rfl⟩
  refine fin st' p hp hu ?_ hf
  apply iJ.mp
  rw [har, Array.map_map, iK]
  exact bQ fun i _ => by show (kas_item (pairsOf vs) i).2 = _; rw [kas_item_eq]
theorem uh {v : Value} {κ : SortKind} {Q : Value → Shared → Prop}
  (hcol : wpAny (model prog w) A.in1 (collect v) (fun vs s1 => vs.length < 64 ∧ ∃ lt, Wo lt ∧
   (2 ≤ vs.length → ∀ (s' : Shared) (Q : SortKind → Shared → Prop), (∀ b o, s1.heap.get? b = some o → s'.heap.get? b = some o) → Q κ s' → wpAny (model prog w) A.in1.in1 (keyKind' vs.toArray) Q (fun _ _ => False) s') ∧
   (∀ (s' : Shared) (i j : Nat) (C : Bool → Shared → Prop), (∀ b o, s1.heap.get? b = some o → s'.heap.get? b = some o) → i < vs.length → j < vs.length → C (lt i j) s' → wpAny (model prog w) A.in1.in1 (keyLt' κ (vs.getD i .none) (vs.getD j .none)) C (fun _ _ => False) s') ∧
   ∀ a p h' c, ¬ ld s1.heap a → Pm vs.length p → Up lt p vs.length → h'.get? a = some (lK (p.toList.map fun i => vs.getD i eA) c) → (∀ b o, s1.heap.get? b = some o → h'.get? b = some o) → Q (.ref a) { s1 with heap := h' }) E s) :
  wpAny (model prog w) A (call (.builtin "sorted") [v]) Q E s := by
 refine Calls.call_function_entry kind_sorted plain_sorted entry_sorted (args_sorted1 _) ?_
 unfold Builtin.«sorted»
 refine aj (m := checkCount "sorted" 1 1 _) (aB ?_)
 refine aj (ay hcol (fun vs s1 h1 => ?_) fun _ _ x => x)
 obtain ⟨h64, lt, W, hkind, hlt, h⟩ := h1
 refine aj (wpAny_newList ?_ (by rw [am]; exact J0 5 h64))
 have hoL : (s1.heap.push (seqObj "list" vs.toArray 0)).get? s1.heap.objs.size = some (seqObj "list" vs.toArray 0) := aW _ rfl
 have keep : ∀ b o, s1.heap.get? b = some o → (s1.heap.push (seqObj "list" vs.toArray 0)).get? b = some o := fun b o q => be _ q
 have hne : ∀ b o, s1.heap.get? b = some o → b ≠ s1.heap.objs.size := fun b o q => bK (bq q)
 refine aj (bv (cT slot_list_sort ⟨_, hoL, rfl⟩ entry_list_sort ?body (args_list_sort _)))
 case body =>
  refine vJ (s := { s1 with heap := s1.heap.push (seqObj "list" vs.toArray 0) }) (κ := κ) (lt := lt) hoL h64 W (fun h2 s' Q' hk hq => hkind h2 s' Q' (fun b o e => hk b o (hne b o e) (keep b o e)) hq)
   (fun s' i j C hk hi hj hC => hlt s' i j C (fun b o e => hk b o (hne b o e) (keep b o e)) hi hj hC) fun p h' c hp hu hg hk => ?_
  exact ⟨_, rfl, aB ⟨_, rfl, h s1.heap.objs.size p h' c (ki (aU _)) hp hu hg fun b o e => hk b o (hne b o e) (keep b o e)⟩⟩
end
set_option backward.match.sparseCases false
theorem vK {α : Type} {R : α → α → Prop} (anti : ∀ a b, R a b → R b a → a = b) : ∀ {l m : List α}, l.Perm m → l.Pairwise R → m.Pairwise R → l = m
 | [], m, h, _, _ => h.symm.eq_nil.symm
 | a :: l, [], h, _, _ => h.eq_nil
 | a :: l, b :: m, h, h1, h2 => by
  rw [cm] at h1 h2
  have hab : a = b := by
   rcases au.mp (h.mem_iff.mp (.head _ : a ∈ a :: l)) with e | e
   ·exact e
   ·rcases au.mp (h.mem_iff.mpr (.head _ : b ∈ b :: m)) with e' | e'
    ·exact e'.symm
    ·exact anti _ _ (h1.1 b e') (h2.1 a e)
  subst hab
  rw [vK anti (List.perm_cons a |>.mp h) h1.2 h2.2]
noncomputable def srt (ns : List Int) : List Int := ns.mergeSort fun a b => decide (a ≤ b)
theorem qw (ns : List Int) : (srt ns).Perm ns := gY _ _
theorem sY (ns : List Int) : (srt ns).Pairwise (· ≤ ·) := by
 have := f8 (le := fun a b : Int => decide (a ≤ b)) (fun a b c h1 h2 => by simp only [decide_eq_true_eq] at *; exact J5 21 h2 h1) (fun a b => by simp only [cQ, decide_eq_true_eq]; exact J13 3) ns
 exact this.imp fun h => by simpa using h
theorem sZ {ns ms : List Int} (hp : ms.Perm ns) (hs : ms.Pairwise (· ≤ ·)) : ms = srt ns := vK (fun a b h1 h2 => by exact J5 22 h2 h1) (hp.trans (qw ns).symm) hs (sY ns)
noncomputable def nN (x y : Int × Int) : Bool := decide (x.1 < y.1) || (decide (x.1 = y.1) && decide (x.2 < y.2))
noncomputable def nB (L : List (Int × Int)) : List (Int × Int) := L.mergeSort fun a b => !nN b a
theorem kk (L : List (Int × Int)) : (nB L).Perm L := gY _ _
theorem rI (L : List (Int × Int)) : (nB L).Pairwise (fun a b => nN b a = false) := by
 have := f8 (le := fun a b : Int × Int => !nN b a) (fun a b c h1 h2 => by
  simp only [nN, iq, bX, ca, decide_eq_false_iff_not] at *; exact J5 23 h2 h1) (fun a b => by
  simp only [nN, cQ, iq, bX, ca, decide_eq_false_iff_not]; exact J13 4) L
 exact this.imp fun h => by simpa using h
theorem vL {L M : List (Int × Int)} (hp : M.Perm L) (hs : M.Pairwise (fun a b => nN b a = false)) : M = nB L := by
 refine vK (fun a b h1 h2 => ?_) (hp.trans (kk L).symm) hs (rI L)
 simp only [nN, bX, ca, decide_eq_false_iff_not] at h1 h2
 exact ga (by exact J6 0 h2 h1) (by exact J6 1 h2 h1)
noncomputable abbrev kY (x : Int × Int) : PV := .tup [.int x.1, .int x.2]
section
variable {W : Wd} {n : Nat} {r : jt} {H : HH} {Q : CV}
theorem vM {α : Type} [Inhabited α] {G} {f : α → PV} {L : List α} {vs : List Value} (h : j0 W G (L.map f) vs) {i : Nat} (hi : i < L.length) : RV W G (f (L.getD i default)) (vs.getD i .none) := by
 have : (L.map f)[i]? = some (f (L.getD i default)) := by simp [ax, List.getD, hi]
 obtain ⟨v, hv, r⟩ := h.get this
 have e : vs.getD i .none = v := by rw [aL, hv]; rfl
 rw [e]; exact r
theorem ta {α : Type} [Inhabited α] {G} {f : α → PV} {L : List α} {vs : List Value} (h : j0 W G (L.map f) vs) : ∀ {is : List Nat}, (∀ i ∈ is, i < L.length) → j0 W G ((is.map fun i => L.getD i default).map f) (is.map fun i => vs.getD i .none)
 | [], _ => j0.nil
 | i :: is, hi => j0.cons (vM h (hi i (.head _))) (ta h fun j hj => hi j (.tail _ hj))
theorem qx {vs : List Value} {ns : List Int} (h : IntsAre vs ns) {i : Nat} (hi : i < ns.length) : ∃ t, vs.getD i .none = .int (ns.getD i 0) t := by
 induction h generalizing i with
 | nil => exact absurd hi (dp _)
 | cons n t h ih =>
  cases i with
  | zero => exact ⟨t, rfl⟩
  | succ i => simpa using ih (by simpa using hi)
theorem EI {ns : List Int} : Wo fun i j => decide (ns.getD i default < ns.getD j default) where
 irr := fun a => by simp
 asy := fun a b h => by simp only [decide_eq_true_eq, decide_eq_false_iff_not] at *; exact J13 5 h
 tr := fun a b c h1 h2 => by simp only [decide_eq_false_iff_not] at *; exact J13 6 h2 h1
theorem C0 {L : List (Int × Int)} : Wo fun i j => nN (L.getD i default) (L.getD j default) where
 irr := fun a => by simp [nN]
 asy := fun a b h => by simp only [nN, cQ, a9, decide_eq_true_eq, bX, ca, decide_eq_false_iff_not] at *; exact J13 7 h
 tr := fun a b c h1 h2 => by simp only [nN, bX, ca, decide_eq_false_iff_not] at *; exact J5 23 h2 h1
theorem y2 {A : Around} {G} {s s1 : Shared} {tk : Nat} {h1 : Heap} {vs : List Value} {ns : List Int} (hr : HR W G H s) (es : s1 = { s with heap := h1, toks := tk }) (hk : ∀ b o, s.heap.get? b = some o → h1.get? b = some o) (hi : IntsAre vs ns) (h64 : ns.length < 64) (h : ∀ a, Q (.ref a) ((a, .lst ((srt ns).map .int)) :: H)) :
  vs.length < 64 ∧ ∃ lt, Wo lt ∧
   (2 ≤ vs.length → ∀ (s' : Shared) (Q : SortKind → Shared → Prop), (∀ b o, s1.heap.get? b = some o → s'.heap.get? b = some o) → Q oneType' s' → wpAny (model W.prog W.w) A.in1.in1 (keyKind' vs.toArray) Q (fun _ _ => False) s') ∧
   (∀ (s' : Shared) (i j : Nat) (C : Bool → Shared → Prop), (∀ b o, s1.heap.get? b = some o → s'.heap.get? b = some o) → i < vs.length → j < vs.length → C (lt i j) s' → wpAny (model W.prog W.w) A.in1.in1 (keyLt' oneType' (vs.getD i .none) (vs.getD j .none)) C (fun _ _ => False) s') ∧
   ∀ a p h' c, ¬ ld s1.heap a → Pm vs.length p → Up lt p vs.length → h'.get? a = some (lK (p.toList.map fun i => vs.getD i eA) c) → (∀ b o, s1.heap.get? b = some o → h'.get? b = some o) → Fin W Q G s (.ref a) { s1 with heap := h' } := by
 have hl := hi.length
 subst es
 refine ⟨by exact J2 16 hl h64, _, EI (ns := ns), fun h2 s' Q' _ hq => ?_, fun s' i j C _ h1 h2 hC => ?_, fun a p h' c hn hp hu hg hk2 => ?_⟩
 ·match vs, hi, h2 with
  | v₁ :: v₂ :: rest, hi, _ => rw [keyKind_ints hi]; exact aB hq
 ·obtain ⟨t, e1⟩ := qx hi (i := i) (by exact J0 12 hl h1)
  obtain ⟨t', e2⟩ := qx hi (i := j) (by exact J0 12 hl h2)
  rw [e1, e2]
  exact kat_lt_int hC
 ·have hp' : Pm ns.length p := hl ▸ hp
  have hin : ∀ i ∈ p.toList, i < ns.length := fun i hi => by
   have := (cO.mp hp'.perm).mem_iff.mp hi
   simpa using this
  have e : (p.toList.map fun i => ns.getD i default) = srt ns := sZ (xV hp') ((xW (lta := fun a b => decide (a < b)) hp' (by rw [← hl]; exact hu) fun i j _ _ => rfl).imp fun q => by simpa using q)
  have rs := ta (W := W) (G := G) (f := PV.int) (xO hi) hin
  rw [e] at rs
  exact mJ (tk := tk) hr (fun hh => hn (let ⟨o, q⟩ := hh; ⟨o, hk _ _ q⟩)) (fun b o q => hk2 b o (hk b o q)) hg rs h
theorem lD {α : Type} {f : α → PV} {p : PV} {d : List (Int × α)} (w : Vw H p (.dct (Dk f d))) (h64 : d.length < 64) (h : ∀ a, Q (.ref a) ((a, .lst ((srt (d.map ai)).map .int)) :: H)) : mP W n H (fun vs => call (.builtin "sorted") vs) [p] Q := kG fun A G s v R hr hv => by
 obtain ⟨a, ds, m, rfl, e1, ⟨hsys, nd⟩, rs⟩ := w.dctAt hr hv
 obtain ⟨kvs, kv, dof⟩ := kc (W := W) (f := f) e1 nd rs
 obtain ⟨ep, dat⟩ := dof.dictAt
 refine uh (κ := oneType') (kdu_collect (kdl_dict hsys) R.hd dat (by rw [kv.length, am]; exact J0 5 h64) fun h' tk acc hk hacc => ?_)
 refine y2 (tk := tk) hr rfl hk ?_ (by rw [aa]; exact h64) h
 obtain ⟨ha, hP⟩ := hacc
 rw [← kv.keys]
 have key : ∀ {vs : List Value} {ks : List (Int × Value)}, vs.length = ks.length → (∀ (j : Nat) (v : Value), vs[j]? = some v → ∃ k x, ks[j]? = some (k, x) ∧ (intKind W.prog W.w).is k v = true) → IntsAre vs (ks.map ai) := by
  intro vs
  induction vs with
  | nil => intro ks h1 _; cases ks with
   | nil => exact .nil
   | cons _ _ => simp at h1
  | cons v vs ih =>
   intro ks h1 h2
   cases ks with
   | nil => simp at h1
   | cons k ks =>
    obtain ⟨k0, x, q1, q2⟩ := h2 0 v rfl
    cases (bD q1 : k = (k0, x))
    obtain ⟨t, rfl⟩ := fN q2
    exact .cons k0 t (ih (by simpa using h1) fun j u hj => h2 (j + 1) u hj)
 exact key (by rw [bR, ha]) fun j v hj => hP j v (by simpa using hj)
theorem rc {p : PV} {L : List (Int × Int)} (w : Vw H p (.lst (L.map kY))) (h64 : L.length < 64) (h : ∀ a, Q (.ref a) ((a, .lst ((nB L).map kY)) :: H)) : mP W n H (fun vs => call (.builtin "sorted") vs) [p] Q := kG fun A G s v R hr hv => by
 obtain ⟨a, vs, m, rfl, e1, rs⟩ := w.lstAt hr hv
 have hl : vs.length = L.length := by rw [rs.length, aa]
 refine uh (κ := tuples' (ic "int" != ic "tuple")) (collect_list (js e1) ?_ (by rw [hl, am]; exact J0 5 h64))
 have hk1 : ∀ b o, s.heap.get? b = some o → ((s.heap.push (seqObj "list" #[] 0)).update s.heap.objs.size (bZ (· ++ vs.toArray))).get? b = some o := fun b o q => by
  have hlt : b < s.heap.objs.size := bq q
  exact (cy _ _ _ _ (bK hlt)).trans (be _ q)
 generalize (s.heap.push (seqObj "list" #[] 0)).update s.heap.objs.size (bZ (· ++ vs.toArray)) = H1 at hk1 ⊢
 have tupOf : ∀ i, i < L.length → ∃ x o t u m, vs.getD i .none = .ref x ∧ s.heap.get? x = some o ∧ o.cls = .type "tuple" ∧ o.data = .seq #[.int (L.getD i default).1 t, .int (L.getD i default).2 u] m := fun i hi => by
  have := vM (W := W) (G := G) (f := kY) rs hi
  simp only [kY, RV, j0] at this
  obtain ⟨x, ws, ex, ⟨o, g1, g2, m, g3⟩, v1, _, rfl, ⟨t, rfl⟩, v2, _, rfl, ⟨u, rfl⟩, rfl⟩ := this
  exact ⟨x, o, t, u, m, ex, (hr.imm _ _ g1).1, g2, g3⟩
 refine ⟨by exact J2 16 hl h64, _, C0 (L := L), fun h2 s' Q' hk hq => ?_, fun s' i j C hk h1 h2 hC => ?_, fun a p h' c hn hp hu hg hk2 => ?_⟩
 ·have kt : ∀ (L : List (Int × Int)) (vs : List Value), j0 W G (L.map kY) vs → ∃ fs : List Value, KatTups s'.heap vs fs ∧ fs.length = vs.length ∧ ∀ v ∈ fs, ∃ i t, v = gQ i t := by
   intro L
   induction L with
   | nil => intro vs h; simp only [cZ, j0] at h; subst h; exact ⟨[], KatTups.nil, rfl, fun v hv => by cases hv⟩
   | cons x L ih =>
    intro vs h
    simp only [aC, j0] at h
    obtain ⟨v, r, rfl, hv, hr'⟩ := h
    obtain ⟨fs, q1, q2, q3⟩ := ih r hr'
    simp only [kY, RV, j0] at hv
    obtain ⟨y, ws, rfl, ⟨o, g1, g2, m, g3⟩, v1, _, rfl, ⟨t, rfl⟩, v2, _, rfl, ⟨u, rfl⟩, rfl⟩ := hv
    refine ⟨.int x.1 t :: fs, KatTups.cons (hk _ _ (hk1 _ _ (hr.imm _ _ g1).1)) g2 g3 rfl q1, by simp [q2], fun v hv => ?_⟩
    rcases au.mp hv with e | hv
    ·exact ⟨_, _, e⟩
    ·exact q3 v hv
  obtain ⟨fs, q1, q2, q3⟩ := kt L vs rs
  refine kat_kind (T := .type "int") q1 (by exact J13 8 h2 q2) (fun v hv => ?_) rfl hq
  obtain ⟨i, t, rfl⟩ := q3 v hv
  exact Looks.now
 ·obtain ⟨x, o, t, u, m, ex, g1, g2, g3⟩ := tupOf i (by exact J0 12 hl h1)
  obtain ⟨y, o', t', u', m', ey, g1', g2', g3'⟩ := tupOf j (by exact J0 12 hl h2)
  rw [ex, ey]
  have e0 : (ic "int" != ic "tuple") = true := by decide
  rw [e0]
  refine kat_lt (hk _ _ (hk1 _ _ g1)) g3 (hk _ _ (hk1 _ _ g1')) g3' ?_
  generalize L.getD i default = p1 at *
  generalize L.getD j default = p2 at *
  show KatLex _ _ _ _ (decide (2 < 2)) _ [(.int p1.1 t, .int p2.1 t'), (.int p1.2 u, .int p2.2 u')] 0 s'
  have hC' : C (nN p1 p2) s' := hC
  refine kat_cons (dQ p1.1 t p2.1 t' W.prog W.w _ _ ?_)
  refine kat_go (fun e => kat_yes ?_) (fun e => kat_no ?_)
  ·have e' : p1.1 = p2.1 := by simpa using e
   refine kat_cons (dQ p1.2 u p2.2 u' W.prog W.w _ _ ?_)
   refine kat_go (fun e2 => kat_yes (kat_nil ?_)) (fun e2 => kat_no ?_)
   ·have e2' : p1.2 = p2.2 := by simpa using e2
    have : nN p1 p2 = false := by simp [nN, e', e2']
    rw [this] at hC'; exact hC'
   ·refine kat_one _ _ (gF ?_)
    show C _ _
    have : nN p1 p2 = decide (p1.2 < p2.2) := by simp [nN, e']
    rw [this] at hC'; exact hC'
  ·have e' : ¬ p1.1 = p2.1 := by simpa using e
   have : nN p1 p2 = decide (p1.1 < p2.1) := by simp [nN, e']
   rw [this] at hC'
   exact kat_lt_int hC'
 ·have hp' : Pm L.length p := hl ▸ hp
  have hin : ∀ i ∈ p.toList, i < L.length := fun i hi => by
   have := (cO.mp hp'.perm).mem_iff.mp hi
   simpa using this
  have e : (p.toList.map fun i => L.getD i default) = nB L := vL (xV hp') (xW (lta := nN) hp' (by rw [← hl]; exact hu) fun i j _ _ => rfl)
  have rs2 := ta (W := W) (G := G) (f := kY) rs hin
  rw [e] at rs2
  exact mJ (tk := s.toks) hr (fun hh => hn (let ⟨o, q⟩ := hh; ⟨o, hk1 _ _ q⟩)) (fun b o q => hk2 b o (hk1 b o q)) hg rs2 h
end
section
variable {W : Wd} {n : Nat} {r : jt} {H : HH} {Q : CV}
theorem HR.newO {G} {s : Shared} {a : Addr} {h' : Heap} {ho : HO} {tk : Nat} (hr : HR W G H s) (hn : ¬ ld s.heap a) (hk : ∀ b o, s.heap.get? b = some o → h'.get? b = some o) (hsl : kH W (G.addO a a) h' a ho) :
  HR W (G.addO a a) ((a, ho) :: H) { s with heap := h', toks := tk } ∧ kA [] G s (G.addO a a) { s with heap := h', toks := tk } := by
 have hng := hr.noG hn
 have hno : ∀ b o', (b, o') ∈ H → ∀ c, G.own c = some b → c ≠ a := fun b o' hm c e q => hn (q ▸ (hr.bown c b e).2)
 refine ⟨⟨hr.bas, fun b i e => ?_, fun b ob e => ⟨hk _ _ (hr.imm b ob e).1, ?_⟩, ?_, fun b ob hm => ?_, hr.os, hr.gens⟩, ⟨fun _ _ e => e, fun b hb => .inl ?_, fun _ _ _ => rfl, fun b ob e _ _ => hk _ _ e, fun b ⟨o, e⟩ => ⟨o, hk _ _ e⟩⟩⟩
 ·have e' : (if b = a then some a else G.own b) = some i := e
  by_cases hb : b = a
  ·rw [hb]; exact ⟨hr.noB hn, hsl.has⟩
  ·rw [if_neg hb] at e'; exact ⟨(hr.bown b i e').1, let ⟨o, q⟩ := (hr.bown b i e').2; ⟨o, hk _ _ q⟩⟩
 ·have e' : G.g b = some ob := e
  show (if b = _ then _ else _) = _
  rw [if_neg (fun q => by rw [q, hng] at e'; cases e')]; exact (hr.imm b ob e').2
 ·rw [aC, aY]
  refine ⟨fun hm => ?_, hr.nodup⟩
  obtain ⟨⟨b, o'⟩, hp, hq⟩ := az.mp hm
  have hq' : b = a := hq
  exact hn (hq' ▸ (hr.slot b o' hp).has)
 ·rcases au.mp hm with e | hm
  ·cases e; exact hsl
  ·exact (hr.slot b ob hm).mono (fun _ _ e => e) (fun c oc _ e => hk _ _ e) fun c e => by
    show (if c = _ then _ else _) = _
    rw [if_neg (hno b ob hm c e)]; exact e
 ·show (if b = _ then _ else _) = _
  rw [if_neg (fun q => hn (by rw [← q]; exact hb))]
theorem vN {α : Type} {f : α → PV} {G} {s : Shared} {a : Addr} {h' : Heap} {tk : Nat} {d : List (Int × α)} {kvs : List (Int × Value)} (hr : HR W G H s) (hn : ¬ ld s.heap a) (hk : ∀ b o, s.heap.get? b = some o → h'.get? b = some o) (hd : h'.DictOf (intKind W.prog W.w) a kvs) (kv : KV W G f d kvs)
  (h : ∀ a, Q (.ref a) ((a, .dct (Dk f d)) :: H)) : Fin W Q G s (.ref a) { s with heap := h', toks := tk } := by
 obtain ⟨ds, m, e1, nd, rs⟩ := t7 kv hd
 obtain ⟨x, e⟩ := hr.newO (tk := tk) (ho := .dct (Dk f d)) hn hk ⟨ds, m, e1, if_pos rfl, nd, rs.mono (G' := G.addO a a) (fun b o (e : G.g b = some o) => e)⟩
 exact ⟨_, .ref a, _, e, x, by wtm_at "rv", h a⟩
theorem ui {α : Type} {f : α → PV} {p : PV} {d : List (Int × α)} (w : Vw H p (.dct (Dk f d))) (hz : d.length ≤ sizeLine) (h : ∀ a, Q (.ref a) ((a, .dct (Dk f d)) :: H)) : mP W n H (fun vs => call (.type "dict") vs) [p] Q := kG fun A G s v R hr hv => by
 obtain ⟨a, ds, m, rfl, e1, ⟨hsys, nd⟩, rs⟩ := w.dctAt hr hv
 obtain ⟨kvs, kv, dof⟩ := kc (W := W) (f := f) e1 nd rs
 refine kt_call_dict hsys dof (by rw [kv.length]; exact hz) fun h' hd hs => ?_
 refine vN (tk := s.toks) hr oZ (fun b o q => ?_) hd kv h
 exact (hs.2 b (bK (bq q))).trans (be _ q)
theorem A9 {x y : Str} (hz : x.length + y.length ≤ sizeLine) (h : Q (.str (x ++ y)) H) : lC W n H (binaryOp .Add) (.str x) (.str y) Q := fun A G s u v R hr hu hv => by
 obtain ⟨t, rfl⟩ := hu
 obtain ⟨t', rfl⟩ := hv
 exact PyProof.Rows.add_str (fun t' tk => og hr (by wtm_at "rv") h) hz
theorem EJ {lo hi k : Int} (h : Q (.bool (!(decide (lo ≤ k) && decide (k < hi)))) H) : lC W n H (compareOp .NotIn) (.int k) (.rng lo hi) Q := fun A G s u v R hr hu hv => by
 obtain ⟨t, rfl⟩ := lO hu
 obtain ⟨a, t1, u1, z1, rfl, e1⟩ := hv
 have e2 := (hr.imm _ _ e1).1
 have hT : s.TypeIs (.ref a) "range" := ⟨_, e2, rfl⟩
 refine NotIn_slot hT fg (cT fg hT PySem.F.entry_range_contains ?_ (PySem.F.args_range_contains_2 _ _))
 unfold Builtin.«range.__contains__»
 show wpAny _ _ (do rule "range.contains.reckoned"; let (a, b, c) ← fG (.ref a); ret (.bool (dK a b c k).isSome)) _ _ s
 refine aj (ft ?_)
 refine aj ?_
 unfold fG
 refine aj (iQ e2 rfl (x := .int lo t1) rfl (aj (aB ?_)))
 refine aj (iQ e2 rfl (x := .int hi u1) rfl (aj (aB ?_)))
 refine aj (iQ e2 rfl (x := .int 1 z1) rfl (aj (aB (aB ?_))))
 refine aB ⟨_, rfl, cR ?_⟩
 have e : (dK lo hi 1 k).isSome = (decide (lo ≤ k) && decide (k < hi)) := by
  unfold dK
  cases q : (decide (lo ≤ k) && decide (k < hi)) <;> simp [q, Int.emod_one]
 rw [e]
 exact ls hr h
noncomputable def D7 (K : Frag) (C : Addr) (name : Str) (f : Addr) : Bool :=
 readsIn K C (.type "type") && specialIn K (.ref C) "__getattribute__" == some (some (.builtin "type.__getattribute__")) && (match findCls K (.ref C) (.type "type") name with | some (.val v) => v == .ref f | _ => false) && fnIn K f && keepIn K (.ref C)
theorem Ba {x xp name apos pos C f} {args : List Expr} (hm : (x, Bd.glb) ∈ r) (hmg : W.mg x = some (.ref C)) (hc : D7 W.K C name f = true) (hl : (apos.endLine == pos.line) = true) (hs : args.all jG = true) (hn : args.length < 29)
  (h : nT W n r H args fun ps H2 => jZ W n H2 (.ref f) ps Q) (hd : autoParam ((x == ("__debug__" : Str)) = false) aD) : Ev W n r H (.Call (.Attribute (.Name x xp) name apos) args [] pos) Q := fun A env fa G s R hr fr => by
 refine oW rfl hl hs hn (pz hr fr hm hmg (fun pl => ?_) xp hd)
 unfold D7 at hc
 simp only [a9, beq_iff_eq] at hc
 obtain ⟨⟨⟨⟨a1, a2⟩, a3⟩, a4⟩, a5⟩ := hc
 have X := W.inK.keeps hr.base
 have a3' : findCls W.K (.ref C) (.type "type") name = some (.val (.ref f)) := by
  cases e : findCls W.K (.ref C) (.type "type") name with
  | none => rw [e] at a3; cases a3
  | some v =>
   rw [e] at a3
   cases v with
   | val v => simp only [beq_iff_eq] at a3; rw [a3]
   | get => cases a3
 refine method_cls X a2 (cls_value X a1 a3' rfl ?_)
 obtain ⟨ob, fd, hb1, hb2⟩ := uG W.inK a4
 have e1 : kA [] G s G { s with toks := s.toks + 1 } := kA.kept (fun _ _ e => e)
 refine dT (o := ob) (fd := fd) (kM (ay (h A env fa G _ R (hr.kept (tk := s.toks + 1) (dr := s.drawn) fun _ _ e => e) (fr.ext e1)) (fun vs s2 h2 => ?_) fun _ _ x => x))
 obtain ⟨G2, ps, H2, e2, r2, v2, qq⟩ := h2
 exact ⟨⟨r2.base _ _ hb1, hb2⟩, ay (qq.toN A G2 s2 vs R r2 v2) (fun _ _ h => (h.trans e2).trans e1) fun _ _ x => x⟩
end
noncomputable def lq (h : Heap) (v : Value) (x : Int × Int) : Prop := ∃ a t u, v = .ref a ∧ IsTup h a #[.int x.1 t, .int x.2 u]
theorem lq.keep {h h' : Heap} {v x} (p : lq h v x) (hk : ∀ a o, v = .ref a → h.get? a = some o → h'.get? a = some o) : lq h' v x := by
 obtain ⟨a, t, u, e, o, h1, r⟩ := p
 exact ⟨a, t, u, e, o, hk a o e h1, r⟩
section
variable {prog : Program} {w : World} {A : Around} {E : Value → Shared → Prop} {s : Shared}
theorem xX {i j : Int} {t u : Tok} {Q : Bool → Shared → Prop} (e : i = j) (h : Q true s) : wpAny (model prog w) A (eqBool (.int i t) (.int j u)) Q E s := dQ i t j u prog w E Q (by rw [beq_iff_eq.mpr e]; exact h)
theorem xY {i j : Int} {t u : Tok} {Q : Bool → Shared → Prop} (e : i ≠ j) (h : Q false s) : wpAny (model prog w) A (eqBool (.int i t) (.int j u)) Q E s := dQ i t j u prog w E Q (by rw [beq_eq_false_iff_ne.mpr e]; exact h)
theorem F0 {i j : Int} {t u : Tok} {Q : Value → Shared → Prop} (h : Q (.bool (decide (i < j))) s) : wpAny (model prog w) A (richCompare .Lt (.int i t) (.int j u)) Q E s := gF h
theorem wM {a b : Addr} {x y : Int × Int} {t u t' u' : Tok} {Q : jj → Shared → Prop} (ha : IsTup s.heap a #[.int x.1 t, .int x.2 u]) (hb : IsTup s.heap b #[.int y.1 t', .int y.2 u']) (h : Q (.done (.ret (.bool (nN x y)))) s) :
  wpAny (model prog w) A (Builtin.«tuple.__lt__» ⟨[.ref a, .ref b], []⟩) Q E s := by
 show wpAny _ _ (isInstance (.ref b) (.type "tuple") >>= _) _ _ s
 refine aj (eC hb.typeIs AutoSeq1.sub_tuple_tuple ?_)
 refine bM rfl ?_
 refine aj (tupleItemsOf_ ha ?_)
 refine aj (tupleItemsOf_ hb ?_)
 refine aj ?_
 show wpAny _ _ (forIn [((gQ x.1 t), (gQ y.1 t')), ((gQ x.2 u), (gQ y.2 u'))] _ _) _ _ s
 rw [eL]
 by_cases e1 : x.1 = y.1
 ·refine aj (aj (xX e1 ?_))
  refine bM rfl ?_
  refine aB ?_
  dsimp only
  rw [eL]
  by_cases e2 : x.2 = y.2
  ·refine aj (aj (xX e2 ?_))
   refine bM rfl ?_
   refine aB ?_
   dsimp only
   rw [gH]
   have hl : nN x y = false := by simp [nN, e1, e2]
   rw [hl] at h
   exact aB (aB h)
  ·refine aj (aj (xY e2 ?_))
   refine gK rfl ?_
   have hl : nN x y = decide (x.2 < y.2) := by simp [nN, e1]
   rw [hl] at h
   exact aj (ft (aj (F0 (aj (aB (aB (aB (aB h))))))))
 ·refine aj (aj (xY e1 ?_))
  refine gK rfl ?_
  have hl : nN x y = decide (x.1 < y.1) := by simp [nN, e1]
  rw [hl] at h
  exact aj (ft (aj (F0 (aj (aB (aB (aB (aB h))))))))
theorem F1 {v v' : Value} {x y : Int × Int} {Q : Value → Shared → Prop} (hx : lq s.heap v x) (hy : lq s.heap v' y) (hu : A.units < cLine) (h : Q (.bool (nN x y)) s) : wpAny (model prog w) A (richCompare .Lt v v') Q E s := by
 obtain ⟨a, t, u, rfl, ha⟩ := hx
 obtain ⟨b, t', u', rfl, hb⟩ := hy
 refine fh (op := .Lt) ha.typeIs hb.typeIs gD (cT gD ha.typeIs PySem.F.entry_tuple_lt (wM ha hb ⟨_, rfl, ?_, h⟩) (PySem.F.args_tuple_lt_2 _ _)) hu
 exact fun x => nomatch x
theorem Bb {R : Result → Shared → Prop} {I l S : Addr} {vs : List Value} {L : List (Int × Int)} (hh : A.handled = none) (hu : A.in1.units < cLine) (hlI : l ≠ I) (hSI : S ≠ I) (hSl : S ≠ l) (hlen : vs.length = L.length) :
  ∀ (k j : Nat) (s : Shared) (vb : Value) (b : Int × Int) (c : Nat), L.length - (j + 1) = k → j + 1 ≤ L.length → s.heap.IsListIter I l (j + 1) → s.heap.IsList l vs.toArray → s.heap.get? S = some { cls := .type "list", dict := none, data := .seq #[vb, vb] c, slots := #[] } →
  (∀ (i : Nat) (x : Int × Int), L[i]? = some x → ∃ v, vs[i]? = some v ∧ lq s.heap v x ∧ v ≠ .ref I ∧ v ≠ .ref S) → lq s.heap vb b → vb ≠ .ref I → vb ≠ .ref S → (∃ i : Nat, L[i]? = some b ∧ vs[i]? = some vb) → (∀ (i : Nat) (x : Int × Int), i ≤ j → L[i]? = some x → nN x b = false) →
  (∀ v x h' tk, (∃ i : Nat, L[i]? = some x ∧ vs[i]? = some v) → (∀ y ∈ L, nN y x = false) → (∀ b o, b ≠ I → b ≠ S → s.heap.get? b = some o → h'.get? b = some o) → R (.ok (.ret v)) { s with heap := h', toks := tk }) →
  codeAny (model prog w) A (.builtin "min.loop" ⟨[.ref I, .none, .ref S], []⟩) R s := by
 have hname : (toString "min" ++ toString ".loop" : String) = "min.loop" := by decide
 have W := hY (prog := prog) (w := w) (A := A.in1) hh I l hlI vs.toArray
 have hSw : S ∉ [I] := by simpa using hSI
 intro k
 induction k with
 | zero =>
  intro j s vb b c hk hj hit hl hS hT hb hvI hvS hbm hmin hR
  have hin : j + 1 = vs.toArray.size := by rw [aH]; exact J13 9 hj hlen hk
  refine dO gc ?_
  rw [cS cL _]
  show wpAny _ A.in1 (seqItems? (.ref S) >>= _) _ _ s
  refine aj (cU hS rfl ?_)
  show wpAny _ A.in1 (tryCatch (pyNext (.ref I)) _ >>= _) _ _ s
  refine aj (d8 (W.done s _ _ (hin ▸ ⟨hit, hl⟩) fun h' tk hk' => ?_))
  have hS' := hk' S _ hSw hS
  show wpAny _ A.in1 (updateSeq S (fun _ => #[]) >>= _) _ _ _
  refine aj ?_
  refine gz hS' rfl (aj (gL (aB ?_)))
  have kp : ∀ a o, a ≠ I → a ≠ S → s.heap.get? a = some o → (h'.update S (bZ fun _ => #[])).get? a = some o := fun a o h1 h2 e => (di _ _ (fP h2)).trans (hk' a o (by simpa using h1) e)
  refine hR vb b _ tk hbm (fun y hy => ?_) fun a o h1 h2 e => kp a o h1 h2 e
  obtain ⟨i, hi, rfl⟩ := eU hy
  exact hmin i _ (by exact J13 10 hk hi) (aG hi)
 | succ k ih =>
  intro j s vb b c hk hj hit hl hS hT hb hvI hvS hbm hmin hR
  have hlt : j + 1 < vs.toArray.size := by rw [aH]; exact J13 11 hlen hk
  refine dO gc ?_
  rw [cS cL _]
  show wpAny _ A.in1 (seqItems? (.ref S) >>= _) _ _ s
  refine aj (cU hS rfl ?_)
  show wpAny _ A.in1 (tryCatch (pyNext (.ref I)) _ >>= _) _ _ s
  refine aj (d8 (W.item (j + 1) s _ _ hlt ⟨hit, hl⟩ fun v h' tk hP hst' hk' => ?_))
  have hlt' : j + 1 < L.length := by exact J13 12 hk
  obtain ⟨v', hv', pv, q1, q2⟩ := hT (j + 1) L[j + 1] (aG hlt')
  have ev : v' = v := by
   have : vs[j + 1]? = some v := by simpa using hP
   rw [hv'] at this; exact bD this
  subst ev
  have hS' := hk' S _ hSw hS
  have kp : ∀ (u : Value) (x : Int × Int), u ≠ .ref I → lq s.heap u x → lq h' u x := fun u x h1 p => p.keep fun a o e q => hk' a o (by
   have : a ≠ I := fun z => h1 (z ▸ e)
   simpa using this) q
  show wpAny _ A.in1 (tryCatch (holding [v', v'] (richCompare .Lt v' vb >>= _)) _ >>= _) _ _ _
  refine aj (d8 (bv (aj (F1 (s := { s with heap := h', toks := tk }) (kp _ _ q1 pv) (kp _ _ hvI hb) hu ?_))))
  refine aj (bv (cR ?_))
  refine aj (gL (aB ?_))
  cases hbt : nN L[j + 1] b with
  | true =>
   simp only [if_true]
   refine aj ?_
   refine gz hS' rfl (aj (gL ?_))
   rw [hname]
   have kp2 : ∀ a o, a ≠ I → a ≠ S → s.heap.get? a = some o → (h'.update S (bZ fun _ => #[v', v'])).get? a = some o := fun a o h1 h2 e => (di _ _ (fP h2)).trans (hk' a o (by simpa using h1) e)
   have kp3 : ∀ a o, a ≠ S → h'.get? a = some o → (h'.update S (bZ fun _ => #[v', v'])).get? a = some o := fun a o h2 e => (di _ _ (fP h2)).trans e
   refine aB ⟨dM cL _, ih (j + 1) _ v' L[j + 1] _ (by exact J6 2 hk) hlt' (hst'.1.at fun o e => kp3 I o (fP hSI) e) (hst'.2.at fun o e => kp3 l o (fP hSl) e) (cA _ hS' rfl)
    (fun i x hx => ?_) (pv.keep fun a o e q => kp2 a o (fun z => q1 (z ▸ e)) (fun z => q2 (z ▸ e)) q) q1 q2 ⟨j + 1, aG hlt', hv'⟩ (fun i x hi hx => ?_) fun v'' x'' h'' tk'' a2 a3 a4 => ?_⟩
   ·obtain ⟨u, g1, g2, g3, g4⟩ := hT i x hx
    exact ⟨u, g1, g2.keep fun a o e q => kp2 a o (fun z => g3 (z ▸ e)) (fun z => g4 (z ▸ e)) q, g3, g4⟩
   ·by_cases hij : i = j + 1
    ·subst hij
     rw [aG hlt'] at hx; cases hx
     simp [nN]
    ·have := hmin i x (by exact J6 3 hi hij) hx
     simp only [nN, cQ, a9, decide_eq_true_eq, bX, ca, decide_eq_false_iff_not] at *; lia
   ·exact hR v'' x'' h'' tk'' a2 a3 fun a o h1 h2 e => a4 a o h1 h2 (kp2 a o h1 h2 e)
  | false =>
   simp only [cj, if_false]
   refine aj (gL ?_)
   rw [hname]
   refine aB ⟨dM cL _, ih (j + 1) _ vb b c (by exact J6 2 hk) hlt' hst'.1 hst'.2 hS' (fun i x hx => ?_) (kp _ _ hvI hb) hvI hvS hbm (fun i x hi hx => ?_) fun v'' x'' h'' tk'' a2 a3 a4 => ?_⟩
   ·obtain ⟨u, g1, g2, g3, g4⟩ := hT i x hx
    exact ⟨u, g1, kp _ _ g3 g2, g3, g4⟩
   ·by_cases hij : i = j + 1
    ·subst hij
     rw [aG hlt'] at hx; cases hx
     exact hbt
    ·exact hmin i x (by exact J6 3 hi hij) hx
   ·exact hR v'' x'' h'' tk'' a2 a3 fun a o h1 h2 e => a4 a o h1 h2 (hk' a o (by simpa using h1) e)
end
noncomputable def oQ (L : List (Int × Int)) : Int × Int := (nB L).headD (0, 0)
theorem uR {L : List (Int × Int)} {x : Int × Int} (hx : x ∈ L) (hm : ∀ y ∈ L, nN y x = false) : x = oQ L := by
 unfold oQ
 have hp := kk L
 have hs := rI L
 cases e : nB L with
 | nil => rw [e] at hp; rw [hp.symm.eq_nil] at hx; cases hx
 | cons a M =>
  rw [e] at hp hs
  rw [cm] at hs
  have h1 := hm a (hp.mem_iff.mp (.head _))
  show x = a
  rcases au.mp (hp.mem_iff.mpr hx) with q | q
  ·exact q
  ·have h2 := hs.1 x q
   simp only [nN, bX, ca, decide_eq_false_iff_not] at h1 h2
   exact ga (by exact J6 0 h2 h1) (by exact J6 1 h2 h1)
section
variable {W : Wd} {n : Nat} {r : jt} {H : HH} {Q : CV}
theorem vO {p : PV} {L : List (Int × Int)} (w : Vw H p (.lst (L.map kY))) (hne : L ≠ []) (h : Q (kY (oQ L)) H) : mP W n H (fun vs => call (.builtin "min") vs) [p] Q := kG fun A G s v R hr hv => by
 obtain ⟨a, vs, m, rfl, e1, rs⟩ := w.lstAt hr hv
 have hl : vs.length = L.length := by rw [rs.length, aa]
 have hname : (toString "min" ++ toString ".loop" : String) = "min.loop" := by decide
 have hpos : 0 < L.length := bI.mpr hne
 have hu : A.in1.units < cLine := by have := R.ult64; show A.units + 1 < _; exact J13 13 this
 have tupOf : ∀ (i : Nat) (x : Int × Int), L[i]? = some x → ∃ v, vs[i]? = some v ∧ lq s.heap v x ∧ ∃ b, v = .ref b ∧ b < s.heap.objs.size := fun i x hx => by
  obtain ⟨v, hv, rv⟩ := rs.get (i := i) (x := kY x) (by rw [ax, hx]; rfl)
  simp only [kY, RV, j0] at rv
  obtain ⟨b, ws, rfl, ⟨o, g1, g2, m', g3⟩, v1, _, rfl, ⟨t, rfl⟩, v2, _, rfl, ⟨u, rfl⟩, rfl⟩ := rv
  have g1' := (hr.imm _ _ g1).1
  exact ⟨_, hv, ⟨b, t, u, rfl, o, g1', g2, m', g3⟩, b, rfl, bq g1'⟩
 refine call_function_tree F.kind_min F.plain_min F.entry_min (F.args_min1 _) ?_
 show wpAny _ A.in1 (fi "min" ["key", "default"] 0 ⟨[], []⟩ >>= _) _ _ s
 refine aj (wpAny_of_eq (show fi "min" ["key", "default"] 0 ⟨[], []⟩ = pure [none, none] from rfl) ?_)
 refine aj (aB ?_)
 refine aj (fO (js e1) ?_)
 refine aj (fK ?_)
 rw [hname]
 have hal : a < s.heap.objs.size := bq e1
 have hIsz : (s.heap.push { cls := .type "list_iterator", data := .fields #[.ref a, .int 0 0] }).objs.size = s.heap.objs.size + 1 := cN ..
 have hit0 : ((s.heap.push { cls := .type "list_iterator", data := .fields #[.ref a, .int 0 0] }).push { cls := .type "list", data := .seq ([] : List Value).toArray }).IsListIter s.heap.objs.size a 0 := ⟨_, be _ (aW _ rfl), rfl, rfl⟩
 have hk0 : ∀ b o, s.heap.get? b = some o → ((s.heap.push { cls := .type "list_iterator", data := .fields #[.ref a, .int 0 0] }).push { cls := .type "list", data := .seq ([] : List Value).toArray }).get? b = some o := fun b o e => be _ (be _ e)
 have hS0 : ((s.heap.push { cls := .type "list_iterator", data := .fields #[.ref a, .int 0 0] }).push { cls := .type "list", data := .seq ([] : List Value).toArray }).get? (s.heap.objs.size + 1) = some { cls := .type "list", data := .seq ([] : List Value).toArray } := by
  have := aW (s.heap.push { cls := .type "list_iterator", data := .fields #[.ref a, .int 0 0] }) (o := { cls := .type "list", data := .seq ([] : List Value).toArray }) rfl
  rw [hIsz] at this; exact this
 rw [hIsz]
 generalize (s.heap.push { cls := .type "list_iterator", data := .fields #[.ref a, .int 0 0] }).push { cls := .type "list", data := .seq ([] : List Value).toArray } = h0 at hit0 hk0 hS0 ⊢
 have hne1 : a ≠ s.heap.objs.size := bK hal
 have hne2 : s.heap.objs.size + 1 ≠ s.heap.objs.size := iG _
 have Wl := hY (prog := W.prog) (w := W.w) (A := A.in1) R.hd s.heap.objs.size a hne1 vs.toArray
 refine aB ⟨dM cL _, ?_⟩
 refine dO gc ?_
 rw [cS cL _]
 show wpAny _ A.in1 (seqItems? (.ref (s.heap.objs.size + 1)) >>= _) _ _ { s with heap := h0 }
 refine aj (cU hS0 rfl ?_)
 show wpAny _ A.in1 (tryCatch (pyNext (.ref s.heap.objs.size)) _ >>= _) _ _ { s with heap := h0 }
 refine aj (d8 (Wl.item 0 { s with heap := h0 } _ _ (by rw [aH]; exact J6 4 hl hpos) ⟨hit0, (js e1).at fun o e => hk0 _ o e⟩ fun v h' tk hP hst' hk' => ?_))
 have hS' := hk' (s.heap.objs.size + 1) _ (by simp) hS0
 show wpAny _ A.in1 (updateSeq (s.heap.objs.size + 1) (fun _ => #[v, v]) >>= _) _ _ _
 refine aj ?_
 refine gz hS' rfl ?_
 rw [hname]
 have kp1 : ∀ b o, s.heap.get? b = some o → h'.get? b = some o := fun b o e => hk' b o (by
  have : b ≠ s.heap.objs.size := bK (bq e)
  simpa using this) (hk0 b o e)
 have kp2 : ∀ b o, b ≠ s.heap.objs.size + 1 → h'.get? b = some o → (h'.update (s.heap.objs.size + 1) (bZ fun _ => #[v, v])).get? b = some o := fun b o h2 e => (di _ _ (fP h2)).trans e
 have kp : ∀ b o, s.heap.get? b = some o → (h'.update (s.heap.objs.size + 1) (bZ fun _ => #[v, v])).get? b = some o := fun b o e => kp2 b o (bK (d9 (bq e))) (kp1 b o e)
 obtain ⟨x0, hx0⟩ : ∃ x0, L[0]? = some x0 := ⟨L[0], aG hpos⟩
 have hv0 : vs[0]? = some v := by simpa using hP
 have tup2 : ∀ (i : Nat) (x : Int × Int), L[i]? = some x → ∃ v', vs[i]? = some v' ∧ lq (h'.update (s.heap.objs.size + 1) (bZ fun _ => #[v, v])) v' x ∧ v' ≠ .ref s.heap.objs.size ∧ v' ≠ .ref (s.heap.objs.size + 1) := fun i x hx => by
  obtain ⟨v', g1, g2, b, rfl, g3⟩ := tupOf i x hx
  refine ⟨_, g1, g2.keep fun a o e q => kp a o q, fun q => ?_, fun q => ?_⟩
  ·injection q with q; exact dq _ (q ▸ g3)
  ·injection q with q; rw [q] at g3; exact absurd g3 (dP.mpr (cY _))
 obtain ⟨v', g1, g2, g3, g4⟩ := tup2 0 x0 hx0
 rw [hv0] at g1; cases g1
 refine aB ⟨dM cL _, Bb R.hd hu hne1 hne2 (ip (d9 hal)) hl _ 0 _ v x0 _ rfl hpos (hst'.1.at fun o e => kp2 _ o (fP hne2) e) (hst'.2.at fun o e => kp2 _ o (bK (d9 hal)) e) (cA _ hS' rfl) tup2 g2 g3 g4 ⟨0, hx0, hv0⟩ (fun i x hi hx => ?_) fun v'' x'' h'' tk'' ⟨i, q1, q2⟩ a3 a4 => ?_⟩
 ·have : i = 0 := by exact J13 14 hi
  subst this
  rw [hx0] at hx; cases hx
  simp [nN]
 ·have e := uR (aS q1) a3
  obtain ⟨u, hu', ru⟩ := rs.get (i := i) (x := kY x'') (by rw [ax, q1]; rfl)
  rw [q2] at hu'; cases hu'
  rw [e] at ru
  exact FK hr (fun b o q => a4 b o (bK (bq q)) (bK (d9 (bq q))) (kp b o q)) ru h
end
noncomputable abbrev KP := List (Int × Int)
section
variable (prog : Program) (w : World)
noncomputable def C1 (h : Heap) (v : Value) (x : Int × Int) : Prop := ∃ b, v = .ref b ∧ IsTupleKey (intKind prog w) h [x.1, x.2] b
inductive wN (h : Heap) : KP → List Value → Prop
 | nil : wN h [] []
 | cons {x v ks vs} : C1 prog w h v x → wN h ks vs → wN h (x :: ks) (v :: vs)
noncomputable def o0 (h : Heap) (ks : KP) (a : Addr) : Prop := ∃ o items n, h.get? a = some o ∧ o.cls = .type "tuple" ∧ o.data = .seq items n ∧ wN prog w h ks items.toList
end
section
variable {prog : Program} {w : World} {A : Around} {E : Value → Shared → Prop} {s : Shared}
theorem C1.inj {h : Heap} {v : Value} {x y : Int × Int} (hx : C1 prog w h v x) (hy : C1 prog w h v y) : x = y := by
 obtain ⟨b, rfl, k1⟩ := hx
 obtain ⟨b', e, k2⟩ := hy
 cases e
 have := k1.inj k2
 simp only [eN, and_true] at this
 exact ga this.1 this.2
theorem wN.inj {h : Heap} {x y : KP} {vs : List Value} (hx : wN prog w h x vs) (hy : wN prog w h y vs) : x = y := by
 induction hx generalizing y with
 | nil => cases hy; rfl
 | cons h1 _ ih =>
  cases hy with
  | cons h2 t2 => rw [h1.inj h2, ih t2]
theorem wN.keep {h h' : Heap} {x : KP} {vs : List Value} (hx : wN prog w h x vs) (hk : ∀ k b, IsTupleKey (intKind prog w) h k b → IsTupleKey (intKind prog w) h' k b) : wN prog w h' x vs := by
 induction hx with
 | nil => exact .nil
 | cons h1 _ ih => obtain ⟨b, e, k⟩ := h1; exact .cons ⟨b, e, hk _ _ k⟩ ih
theorem o0.typeIs {ks : KP} {a : Addr} (x : o0 prog w s.heap ks a) : s.TypeIs (.ref a) "tuple" := let ⟨o, _, _, ho, hc, _⟩ := x; ⟨o, ho, hc⟩
theorem o0.inj {h : Heap} {a : Addr} {x y : KP} (hx : o0 prog w h x a) (hy : o0 prog w h y a) : x = y := by
 obtain ⟨o, items, n, ho, _, hd, hi⟩ := hx
 obtain ⟨o', items', n', ho', _, hd', hi'⟩ := hy
 obtain rfl : o = o' := bD (ho.symm.trans ho')
 rw [hd] at hd'
 injection hd' with h1 _
 subst h1
 exact hi.inj hi'
theorem o0.keeps {h h' : Heap} {ks : KP} {a d : Addr} {o : Obj} {es ep} (x : o0 prog w h ks a) (ho : h.get? d = some o) (hd : o.data = .dict es ep) (hs : dX d h h') : o0 prog w h' ks a := by
 obtain ⟨o', items, n, ho', hc, hd', hi⟩ := x
 have hne : a ≠ d := by
  rintro rfl
  obtain rfl : o' = o := bD (ho'.symm.trans ho)
  rw [hd] at hd'; exact nomatch hd'
 exact ⟨o', items, n, (hs.2 a hne).trans ho', hc, hd', hi.keep fun k b hk => hk.keeps ho hd hs⟩
noncomputable def xZ (prog : Program) (w : World) (ks : KP) : Int := reduceHash (bC (ks.map fun x => tupleKeyHash (intKind prog w) [x.1, x.2]))
noncomputable def ou : KP → Nat
 | [] => 1
 | _ :: ks => 3 + ou ks
theorem Bc {ks : KP} {a : Addr} {Q : Int → Shared → Prop} (hu : A.units + 2 < cLine) (hk : o0 prog w s.heap ks a) (h : Q (xZ prog w ks) { s with toks := s.toks + ou ks }) :
  wpAny (model prog w) A (pyHash (.ref a)) Q E s := by
 have hT := hk.typeIs
 obtain ⟨o, items, n, ho, _, hd, hi⟩ := hk
 unfold pyHash
 first | unfold pyHashByItsType | skip
 first | refine aj (wpAny_cRoomFor_or (.inr (by exact J6 5 hu)) ?_) | skip
 refine aj (eO hT cW.lookup ?_)
 show wpAny _ _ (if (some (jg "tuple.__hash__") == some eA) = true then _ else _) Q E s
 rw [if_neg (by rw [beq_builtin_none]; exact cD)]
 refine aj (eO hT cW.lookup ?_)
 show wpAny _ _ (callSpecialIfBoundUnlessNone? (.ref a) "__hash__" _ >>= _) Q E s
 refine aj (wpAny_callSpecialIfBoundUnlessNone?_slot hT cW (cT cW hT PySem.F.entry_tuple_hash ?_ (PySem.F.args_tuple_hash_1 _)))
 show wpAny _ _ (Builtin.Tuple.tupleItemsOf (.ref a) >>= _) _ _ s
 refine aj (fu ho hd ?_)
 refine aj ?_
 rw [← fw]
 refine eD _
  (fun rest (b : Array Int) s' => ∃ done left m, ks = done ++ left ∧ wN prog w s.heap left rest ∧ b.toList = done.map (fun x => tupleKeyHash (intKind prog w) [x.1, x.2]) ∧ s' = { s with toks := m } ∧ m + ou left = s.toks + ou ks)
  _ ?_ ?_ _ _ ⟨[], ks, s.toks, rfl, hi, rfl, rfl, rfl⟩
 ·rintro x rest b s' ⟨done, left, m, rfl, hl, hb, rfl, hm⟩
  cases hl with
  | @cons k _ ks' _ h1 hl' =>
   obtain ⟨y, rfl, hy⟩ := h1
   refine aj (wpAny_pyHash_tuple (s := { s with toks := m }) (by show A.units + 1 < cLine; exact J6 6 hu) hy ?_)
   first
    | exact aB ⟨done ++ [k], ks', m + 3, by simp, hl', by simp [hb], rfl, by simp only [ou] at hm; exact J13 15 hm⟩
    | exact aj (aB (aB ⟨done ++ [k], ks', m + 3, by simp, hl', by simp [hb], rfl, by simp only [ou] at hm; lia⟩))
 ·rintro b s' ⟨done, left, m, rfl, hl, hb, rfl, hm⟩
  cases hl
  rw [bl] at h
  show wpAny _ _ (retInt (bC b.toList)) _ _ _
  rw [hb]
  have hm' : m + 1 = s.toks + ou done := by simpa [ou] using hm
  refine wpAny_ret_mkInt ?_
  show wpAny _ _ (if (decide (-(2 : Int) ^ 63 ≤ bC (done.map fun x => tupleKeyHash (intKind prog w) [x.1, x.2])) && decide (bC (done.map fun x => tupleKeyHash (intKind prog w) [x.1, x.2]) < 2 ^ 63)) = true then _ else _) Q E _
  unfold xZ reduceHash at h
  rw [← hm'] at h
  by_cases hr : (decide (-(2 : Int) ^ 63 ≤ bC (done.map fun x => tupleKeyHash (intKind prog w) [x.1, x.2])) && decide (bC (done.map fun x => tupleKeyHash (intKind prog w) [x.1, x.2]) < 2 ^ 63)) = true
  ·rw [if_pos hr]
   rw [if_pos hr] at h
   exact aB h
  ·rw [if_neg hr]
   rw [if_neg hr] at h
   exact aj (ft (aB h))
theorem Be {x y : KP} {a b : Addr} {P : jj → Shared → Prop} (hu : A.units < cLine) (hx : o0 prog w s.heap x a) (hy : o0 prog w s.heap y b) (h : P (.done (.ret (.bool (decide (x = y))))) s) :
  wpAny (model prog w) A (Builtin.«tuple.__eq__» ⟨[.ref a, .ref b], []⟩) P E s := by
 have hTb := hy.typeIs
 obtain ⟨oa, xs, na, hoa, _, hda, hia⟩ := hx
 obtain ⟨ob, ys, nb, hob, _, hdb, hib⟩ := hy
 show wpAny _ _ (isInstance (.ref b) (.type "tuple") >>= _) _ _ s
 refine aj (eC hTb et ?_)
 refine bM rfl ?_
 refine aj (fu hoa hda ?_)
 refine aj (fu hob hdb ?_)
 refine aj ?_
 refine eD _
  (fun rest r s' => r.1 = none ∧ s' = s ∧ ∃ x' y' xs' ys', rest = List.zip xs' ys' ∧ wN prog w s.heap x' xs' ∧ wN prog w s.heap y' ys' ∧ decide (x' = y') = decide (x = y) ∧ (xs'.length == ys'.length) = (xs.size == ys.size))
  _ ?_ ?_ _ _ ⟨rfl, rfl, x, y, xs.toList, ys.toList, rfl, hia, hib, rfl, by simp⟩
 ·rintro ⟨u, v⟩ rest r s' ⟨hr, rfl, x', y', xs', ys', hz, hx', hy', hdec, hlen⟩
  cases hx' with
  | nil => simp at hz
  | @cons k1 u' x'' xs'' h1 hx'' =>
   cases hy' with
   | nil => simp at hz
   | @cons k2 v' y'' ys'' h2 hy'' =>
    simp only [dg, eN, Prod.mk.injEq] at hz
    obtain ⟨⟨rfl, rfl⟩, rfl⟩ := hz
    obtain ⟨b1, rfl, t1⟩ := h1
    obtain ⟨b2, rfl, t2⟩ := h2
    refine aj (wpAny_eqBool_tuple hu t1 t2 ?_)
    have hkk : ([k1.1, k1.2] = [k2.1, k2.2]) ↔ k1 = k2 := by
     simp only [eN, and_true]
     exact ⟨fun h => ga h.1 h.2, fun h => by subst h; exact ⟨rfl, rfl⟩⟩
    by_cases hk : k1 = k2
    ·subst hk
     rw [decide_eq_true rfl]
     refine bM rfl ?_
     refine aB ⟨rfl, rfl, x'', y'', xs'', ys'', rfl, hx'', hy'', ?_, by simpa using hlen⟩
     rw [← hdec]
     by_cases hxy : x'' = y''
     ·simp [hxy]
     ·simp [hxy]
    ·rw [decide_eq_false (fun q => hk (hkk.mp q))]
     refine gK rfl ?_
     have hf : decide (x = y) = false := by rw [← hdec]; simp [hk]
     rw [hf] at h
     exact aj (aB (aB (aB h)))
 ·rintro ⟨r1, r2⟩ s' ⟨hr, rfl, x', y', xs', ys', hz, hx', hy', hdec, hlen⟩
  simp only at hr
  subst hr
  refine aB ?_
  have hfin : (xs.size == ys.size) = decide (x = y) := by
   rw [← hdec, ← hlen]
   cases hx' with
   | nil =>
    cases hy' with
    | nil => simp
    | cons _ _ => simp
   | cons _ _ =>
    cases hy' with
    | nil => simp
    | cons _ _ => simp at hz
  show P (.done (.ret (.bool (xs.size == ys.size)))) s'
  rw [hfin]; exact h
theorem EK {x y : KP} {a b : Addr} {Q : Bool → Shared → Prop} (hu : A.units + 2 < cLine) (hx : o0 prog w s.heap x a) (hy : o0 prog w s.heap y b) (h : Q (decide (x = y)) s) :
  wpAny (model prog w) A (eqBool (.ref a) (.ref b)) Q E s := by
 unfold eqBool
 try with_reducible refine bv ?_
 show wpAny _ _ (if (gR a == gR b) = true then _ else _) Q E s
 by_cases hab : (gR a == gR b) = true
 ·rw [if_pos hab]
  have e : a = b := by have := eq_of_beq hab; injection this
  subst e
  obtain rfl := hx.inj hy
  exact aj (ft (aB (by simpa using h)))
 ·rw [if_neg hab]
  exact aj (fh (op := .Eq) hx.typeIs hy.typeIs dw
   (cT dw hx.typeIs PySem.F.entry_tuple_eq (Be (by show A.units + 1 < cLine; exact J6 6 hu) hx hy ⟨_, rfl, (fun e => nomatch e), cR h⟩) (PySem.F.args_tuple_eq_2 _ _)) (by exact J6 5 hu))
theorem y3 {ks : List Int} {a : Addr} {Q : Bool → Shared → Prop} (hk : IsTupleKey (intKind prog w) s.heap ks a) (h : Q true s) : wpAny (model prog w) A (eqIsQuiet 7 (.ref a)) Q E s := by
 have hT := hk.typeIs
 obtain ⟨o, items, n, ho, _, hd, hi⟩ := hk
 unfold eqIsQuiet
 refine aj (eO hT dw.lookup ?_)
 show wpAny _ _ (isInstance (.ref a) (.type "tuple") >>= _) _ _ s
 refine aj (eC hT et ?_)
 refine bM rfl ?_
 refine aj (cU ho hd ?_)
 refine aj ?_
 show wpAny _ _ (forIn items _ _) _ _ s
 rw [← fw]
 refine eD _ (fun rest r s' => r.1 = none ∧ s' = s ∧ ∀ v ∈ rest, carriedByValue v = true) _ ?_ ?_ _ _ ⟨rfl, rfl, hi.byValue⟩
 ·rintro v rest r s' ⟨hr, rfl, hall⟩
  rw [eqIsQuiet_byValue _ (hall v hV)]
  refine aj (aB ?_)
  refine bM rfl ?_
  exact aB ⟨rfl, rfl, fun u hu' => hall u (List.mem_cons_of_mem _ hu')⟩
 ·rintro ⟨r1, r2⟩ s' ⟨hr, rfl, _⟩
  simp only at hr
  subst hr
  exact aB h
theorem y4 {ks : KP} {a : Addr} {Q : Bool → Shared → Prop} (hk : o0 prog w s.heap ks a) (h : Q true s) : wpAny (model prog w) A (eqIsQuiet 8 (.ref a)) Q E s := by
 have hT := hk.typeIs
 obtain ⟨o, items, n, ho, _, hd, hi⟩ := hk
 unfold eqIsQuiet
 refine aj (eO hT dw.lookup ?_)
 show wpAny _ _ (isInstance (.ref a) (.type "tuple") >>= _) _ _ s
 refine aj (eC hT et ?_)
 refine bM rfl ?_
 refine aj (cU ho hd ?_)
 refine aj ?_
 show wpAny _ _ (forIn items _ _) _ _ s
 rw [← fw]
 refine eD _ (fun rest r s' => r.1 = none ∧ s' = s ∧ ∃ ks', wN prog w s.heap ks' rest) _ ?_ ?_ _ _ ⟨rfl, rfl, ks, hi⟩
 ·rintro v rest r s' ⟨hr, rfl, ks', hall⟩
  cases hall with
  | cons h1 h2 =>
   obtain ⟨b, rfl, hb⟩ := h1
   refine aj (y3 hb ?_)
   refine bM rfl ?_
   exact aB ⟨rfl, rfl, _, h2⟩
 ·rintro ⟨r1, r2⟩ s' ⟨hr, rfl, _⟩
  simp only at hr
  subst hr
  exact aB h
end
noncomputable def ng (prog : Program) (w : World) : HeapKind prog w KP where
 is := o0 prog w
 hash := xZ prog w
 draws := ou
 room := fun A => A.units + 2 < cLine
 inj := fun hx hy => hx.inj hy
 keeps := fun x ho hd hs => x.keeps ho hd hs
 pyHash := fun hu hk h => Bc hu hk h
 eqBool := fun hu hx hy h => EK hu hx hy h
 quiet := fun hk h => y4 hk h
noncomputable def wz (d : List (KP × Int)) : List (PV × PV) := d.map fun p => (PV.tup (p.1.map kY), PV.int p.2)
noncomputable def qy (d : List (KP × Int)) (k : KP) : Option Int := (d.find? fun p => p.1 = k).map (·.2)
section
variable {W : Wd} {n : Nat} {r : jt} {H : HH} {Q : CV}
theorem EL (x : Int × Int) : GY W (kY x) = tupleKeyHash (intKind W.prog W.w) [x.1, x.2] := by
 rfl
theorem x1 : ∀ ks : KP, Cz W (ks.map kY) = ks.map fun x => tupleKeyHash (intKind W.prog W.w) [x.1, x.2]
 | [] => rfl
 | k :: ks => congr (congrArg ji (EL k)) (x1 ks)
theorem Bf (ks : KP) : GY W (.tup (ks.map kY)) = xZ W.prog W.w ks := by
 show reduceHash (bC (Cz W _)) = _
 rw [x1]; rfl
theorem Bg {G} {s : Shared} (hr : HR W G H s) : ∀ {ks : KP} {vs : List Value}, j0 W G (ks.map kY) vs → wN W.prog W.w s.heap ks vs
 | [], vs, h => by subst h; exact .nil
 | k :: ks, vs, h => by
  obtain ⟨v, r, rfl, hv, hr'⟩ := h
  refine .cons ?_ (Bg hr hr')
  simp only [kY, RV, j0] at hv
  obtain ⟨b, ws, rfl, ⟨o, g1, g2, m, g3⟩, v1, _, rfl, ⟨t, rfl⟩, v2, _, rfl, ⟨u, rfl⟩, rfl⟩ := hv
  exact ⟨b, rfl, o, _, m, (hr.imm _ _ g1).1, g2, g3, .cons (dB _ _ _ _) (.cons (dB _ _ _ _) .nil)⟩
theorem x2 {G} {s : Shared} (hr : HR W G H s) {ks : KP} {v : Value} (h : RV W G (.tup (ks.map kY)) v) : ∃ a, v = .ref a ∧ o0 W.prog W.w s.heap ks a := by
 obtain ⟨a, vs, rfl, ⟨o, g1, g2, m, g3⟩, rs⟩ := h
 exact ⟨a, rfl, o, _, m, (hr.imm _ _ g1).1, g2, g3, by rw [b7]; exact Bg hr rs⟩
inductive KH (W : Wd) (G : Gh) : List (KP × Int) → List (KP × Addr × Value) → Prop
 | nil : KH W G [] []
 | cons {k i a v d xs} : RV W G (.tup (k.map kY)) (.ref a) → RV W G (.int i) v → KH W G d xs → KH W G ((k, i) :: d) ((k, a, v) :: xs)
theorem KH.keys {G d xs} (h : KH W G d xs) : xs.map (·.1) = d.map ai := by
 induction h with
 | nil => rfl
 | cons _ _ _ ih => simp only [aC, ih]
theorem KH.length {G d xs} (h : KH W G d xs) : xs.length = d.length := by
 have := congrArg eI h.keys; simpa using this
theorem KH.get {G d xs} (h : KH W G d xs) (k : KP) : (qy d k = none → atKey xs k = none) ∧ ∀ i, qy d k = some i → ∃ a v, atKey xs k = some (a, v) ∧ RV W G (.int i) v := by
 induction h with
 | nil => exact ⟨fun _ => rfl, fun i h => by cases h⟩
 | @cons k0 i a v d xs h1 h2 h3 ih =>
  unfold qy atKey at *
  rw [dm, dm]
  by_cases e : k0 = k
  ·subst e; simp only [decide_true]
   refine ⟨fun h => ?_, fun j h => ?_⟩
   ·cases h
   ·cases h; exact ⟨a, v, rfl, h2⟩
  ·simp only [e, decide_false]
   exact ih
theorem KH.snoc {G d xs k i a v} (h : KH W G d xs) (h1 : RV W G (.tup (k.map kY)) (.ref a)) (h2 : RV W G (.int i) v) : KH W G (d ++ [(k, i)]) (xs ++ [(k, a, v)]) := by
 induction h with
 | nil => exact .cons h1 h2 .nil
 | cons a b _ ih => exact .cons a b ih
theorem D8 {G} : ∀ {d : List (KP × Int)} {ds : List DictEntry}, oO W G (wz d) ds → ∃ xs, KH W G d xs ∧ ds = xs.map (entryOfKey (ng W.prog W.w))
 | [], ds, h => by simp only [wz, cZ, oO] at h; exact ⟨[], .nil, h⟩
 | (k, i) :: d, ds, h => by
  simp only [wz, aC, oO] at h
  obtain ⟨e, r, rfl, hh, h1, h2, h3⟩ := h
  obtain ⟨xs, q1, q2⟩ := D8 (d := d) h3
  have h1' := h1
  obtain ⟨a, vs, ea, _⟩ := h1
  rw [ea] at h1'
  refine ⟨(k, a, e.val) :: xs, .cons h1' h2 q1, ?_⟩
  rw [aC, ← q2]
  congr 1
  obtain ⟨eh, ek, ev⟩ := e
  simp only at hh ea
  subst ea
  rw [hh, Bf]
  rfl
theorem F2 {G d xs} (h : KH W G d xs) : oO W G (wz d) (xs.map (entryOfKey (ng W.prog W.w))) := by
 induction h with
 | nil => simp [wz, oO]
 | cons h1 h2 _ ih =>
  simp only [wz, aC, oO]
  exact ⟨_, _, rfl, by rw [Bf]; rfl, h1, h2, ih⟩
theorem x3 : ∀ {a b : KP}, a.map kY = b.map kY → a = b
 | [], [], _ => rfl
 | [], _ :: _, h => by simp at h
 | _ :: _, [], h => by simp at h
 | x :: a, y :: b, h => by
  simp only [aC, eN, kY, PV.tup.injEq, PV.int.injEq, and_true] at h
  rw [x3 h.2, ga h.1.1 h.1.2]
theorem uj {d : List (KP × Int)} : ((wz d).map ai).Nodup ↔ (d.map ai).Nodup := by
 have : (wz d).map ai = (d.map ai).map fun k => PV.tup (k.map kY) := by simp [wz, aX, cK]
 rw [this]
 unfold gk
 rw [bU]
 exact ⟨fun h => h.imp fun q e => q (by rw [e]), fun h => h.imp fun q e => q (x3 (PV.tup.inj e))⟩
theorem p7 {G} {s : Shared} (hr : HR W G H s) {a : Addr} {d : List (KP × Int)} {ds m} (e : s.heap.get? a = some (nU ds m)) (nd : ((wz d).map ai).Nodup) (rs : oO W G (wz d) ds) : ∃ xs, KH W G d xs ∧ s.heap.DictOfH (ng W.prog W.w) a xs := by
 obtain ⟨xs, q1, q2⟩ := D8 rs
 refine ⟨xs, q1, _, ds.toArray, m, e, ⟨rfl, rfl, rfl⟩, rfl, by simpa using q2, ?_, by rw [q1.keys]; exact uj.mp nd⟩
 have : ∀ {d xs}, KH W G d xs → ∀ x ∈ xs, o0 W.prog W.w s.heap x.1 x.2.1 := by
  intro d xs h
  induction h with
  | nil => intro x hx; cases hx
  | cons h1 _ _ ih =>
   intro x hx
   rcases au.mp hx with rfl | hx
   ·obtain ⟨a, e, k⟩ := x2 hr h1
    cases e; exact k
   ·exact ih x hx
 exact this q1
theorem EM {p : PV} {k : KP} {d : List (KP × Int)} (w : Vw H p (.dct (wz d))) (h : Q (.bool (!(qy d k).isSome)) H) : lC W n H (compareOp .NotIn) (.tup (k.map kY)) p Q := fun A G s u v R hr hu hv => by
 obtain ⟨a, ds, m, rfl, e1, ⟨hsys, nd⟩, rs⟩ := w.dctAt hr hv
 obtain ⟨b, rfl, hk⟩ := x2 hr hu
 obtain ⟨xs, kh, dh⟩ := p7 hr e1 nd rs
 refine wpAny_notIn_heap (knd := ng W.prog W.w) (by have := R.ult64; show A.units + 1 + 2 < cLine; exact J3 16 this) hk hsys dh ?_
 obtain ⟨q1, q2⟩ := kh.get k
 have e : (atKey xs k).isSome = (qy d k).isSome := by
  cases hd : qy d k with
  | none => rw [q1 hd]; rfl
  | some i => obtain ⟨_, _, z, _⟩ := q2 i hd; rw [z]; rfl
 rw [e]
 exact og hr (by wtm_at "rv") h
theorem Bh {p : PV} {k : KP} {i : Int} {d : List (KP × Int)} (w : Vw H p (.dct (wz d))) (hx : qy d k = some i) (h : Q (.int i) H) : oP W n H p (.tup (k.map kY)) Q := fun A G s co ci R hr v1 v2 => by
 obtain ⟨a, ds, m, rfl, e1, ⟨hsys, nd⟩, rs⟩ := w.dctAt hr v1
 obtain ⟨b, rfl, hk⟩ := x2 hr v2
 obtain ⟨xs, kh, dh⟩ := p7 hr e1 nd rs
 obtain ⟨c, v, z, rv⟩ := (kh.get k).2 i hx
 exact ⟨⟨_, _, dh.typeIs, PySem.slot_dict_getitem.lookup⟩, wpAny_getItem_heap (knd := ng W.prog W.w) (by have := R.ult64; show A.units + 1 + 2 < cLine; exact J3 16 this) hk dh z (og hr rv h)⟩
theorem EN {a : Addr} {k : KP} {v : PV} {i : Int} {d : List (KP × Int)} {H' : HH} {P : HH → Prop} (hv : v = .int i) (hnew : qy d k = none) (U : kQ a (.dct (wz d)) (.dct (wz (d ++ [(k, i)]))) H H') (hl : d.length ≤ sizeLine) (h : P H') : uB W n H (.ref a) (.tup (k.map kY)) v P := fun A G s cv co ci R hr vv vo vi => by
 subst hv
 have e0 : co = .ref a := by exact vo
 subst e0
 obtain ⟨ds, m, e1, ho, nd, rs⟩ := hr.slot _ _ U.there
 have vi' := vi
 obtain ⟨b, rfl, hk⟩ := x2 hr vi
 obtain ⟨xs, kh, dh⟩ := p7 hr e1 nd rs
 refine wpAny_setItem_heap (knd := ng W.prog W.w) (by have := R.ult64; show A.units + 1 + 2 < cLine; exact J3 16 this) hk dh (fun h' dh' hs => ?_) (by rw [kh.length]; exact hl)
 rw [storedH_new ((kh.get k).1 hnew)] at dh'
 obtain ⟨o, es, ep, g1, ⟨g2, g3, g4⟩, g5, g6, g7, g8⟩ := dh'
 have eo : o = nU es.toList ep := by
  obtain ⟨c, dd, dt, sl⟩ := o
  simp only at g2 g3 g4 g5
  subst g2; subst g3; subst g4; subst g5
  rfl
 subst eo
 have kh' := kh.snoc vi' vv
 obtain ⟨y, e⟩ := hr.updD (tk := s.toks + (ng W.prog W.w).draws k) U hs g1 (uj.mpr (by rw [← kh'.keys]; exact g8)) (by rw [g6]; exact F2 kh')
 exact ⟨G, H', e, y, h⟩
end
noncomputable abbrev pg : Program := Challenge.rw_nn0384_01.row.prog
noncomputable def HJ {α : Type} (d : α) : List α → Nat → α
 | [], _ => d
 | a :: _, 0 => a
 | _ :: l, n + 1 => HJ d l n
noncomputable def D (i : Nat) : Stmt := HJ (.Pass ⟨0, 0, 0, 0⟩) pg.main.body i
noncomputable def M (i j : Nat) : Stmt := match D i with
 | .ClassDef _ _ _ b _ _ _ _ _ _ _ => HJ (.Pass ⟨0, 0, 0, 0⟩) b j
 | s => s
noncomputable def en (P : Params) (x : Str) (t : Nat) (v : Value) : DictEntry := ⟨bE P x, .str x t, v⟩
noncomputable def dc (n : Nat) (l : List DictEntry) : Data := .dict l.toArray n
noncomputable def vP (n : Nat) (l : List DictEntry) : Obj := ⟨.type "dict", none, .dict l.toArray n, #[]⟩
noncomputable def lr (l : List Value) : Obj := ⟨.type "tuple", none, .seq l.toArray 0, #[]⟩
noncomputable def lU (c : Value) (l : List Value) : Obj := ⟨c, none, .fields l.toArray, #[]⟩
noncomputable def C2 (l : List (Option Value)) : Obj := ⟨.type "frame", none, .plain, l.toArray⟩
noncomputable def oS (n q : Str) (t : Nat) (a b c d e : Int) (x : Addr) (g : Bool) (z : Int) (y : Addr) (u v f : Value) (k : Nat) : Obj :=
 lU (.type "code") [.str n t, .str q (t + 1), .str "/claim/cut.py" (t + 2), .int a 0, .int b 0, .int c 0, .int d 0, .int e 0, .ref x, .bool g, .int z 0, .ref y, .none, u, v, f, .int k 0, .int a 0, .str "/claim/cut.py" (k + 1)]
noncomputable def D9 (c : Value) (st : Stmt) (q : Str) (g : Addr) (dv kv doc pm cd ct : Value) (bi : Addr) : Obj := match st with
 | .FunctionDef n a b _ _ _ sc _ _ _ => ⟨c, none, .func ⟨n, q, a, .stmts b, sc, g, [], dv, kv, doc, pm, none, cd, ct, bi⟩, #[]⟩
 | _ => default
noncomputable def Ea (n : Str) (b m : List Value) (ns : Addr) (q : Str) (hd : Bool) (sl : List Str) (su : List Value) (ab : Bool) (co : Option Bool) (de : Bool) (s : List (Option Value)) : Obj := ⟨.type "type", none, .cls ⟨n, b, m, ns, q, hd, sl, su, ab, co, de⟩, s.toArray⟩
noncomputable def sts : List Str → Nat → List Value
 | [], _ => []
 | x :: xs, t => .str x t :: sts xs (t + 1)
noncomputable def nmS : Stmt → Str
 | .FunctionDef n _ _ _ _ _ _ _ _ _ => n
 | _ => ""
noncomputable def fb (st : Stmt) (q : Str) (a t : Nat) (l c : Int) (vs : List Str) (md : Value) : List Obj :=
 [lr [], lU .none [], lr (sts vs (t + 3)), lr [], D9 .none st q 0 .none .none .none .none .none .none 0, oS (nmS st) q t l c 0 0 3 a true 181 (a + 1) (.ref (a + 2)) (.ref (a + 3)) (.ref (a + 4)) (t + 3 + vs.length), D9 (.type "function") st q 3 .none .none .none md (.ref (a + 5)) .none 0]
noncomputable def rJ (st : Stmt) (q : Str) : Obj := D9 .none st q 0 .none .none .none .none .none .none 0
noncomputable def tI (st : Stmt) (q : Str) (m : Value) (a : Addr) : Obj := D9 (.type "function") st q 3 .none .none .none m (.ref a) .none 0
noncomputable def wA (l : List Value) : Obj := lU (.type "builtin_function_or_method") l
noncomputable def Bi (l : List Value) : Obj := lU (.type "getset_descriptor") l
noncomputable def er (P : Params) (x : Str) (t : Nat) (a : Addr) : DictEntry := en P x t (.ref a)
noncomputable def mA : Value := .str "grammarmill.source" 194
noncomputable def mB : Value := .str "grammarmill.dfa" 269
noncomputable def mC : Value := .str "grammarmill.tables" 341
noncomputable def mD : Value := .str "grammarmill.packing" 490
noncomputable def mF : Value := .str "law_nn0384_01" 1034
noncomputable def tr (c : Int) : List Nat → List Value
 | l :: a :: r => .int l 0 :: .int c 0 :: .ref a :: tr c r
 | _ => []
noncomputable def lf : Life := PySem.Life.mk [] [] [] 0 [] [] false #[] [] 0 false false false 0 [2000, 10, 10] false 0 true [] [] 0 false
noncomputable def evs : List Obj → List Obj
 | [] => []
 | [a] => [a]
 | a :: _ :: l => a :: evs l
noncomputable def ods : List Obj → List Obj
 | [] => []
 | [_] => []
 | _ :: b :: l => b :: ods l
noncomputable def bt : Nat → List Obj → BT
 | 0, _ => .nil
 | _, [] => .nil
 | n + 1, a :: l => .node a (bt n (evs l)) (bt n (ods l))
noncomputable def sl (i c : Nat) : List Stmt := (pg.main.body.drop i).take c
noncomputable def ev : Env := { scope := pg.main.scope, locals := mainNs, globals := mainNs, cells := [], code := .ref 13, frame := some 14 }
noncomputable def cE : Code := .body (behindTheImports pg) ev
noncomputable def nt (x : Str) (t : Nat) (v : Value) : Str × Nat × Value := (x, t, v)
noncomputable def mN : List (Str × Nat × Value) := [nt "__doc__" 166 .none, nt "__package__" 167 .none, nt "__loader__" 168 (.builtin "__main__.__loader__#opaque"), nt "__spec__" 169 .none, nt "__annotations__" 170 (.ref 6), nt "__builtins__" 171 (.ref 4), nt "__file__" 173 (.str "/claim/cut.py" 172), nt "__cached__" 174 .none, nt "_wall" 193 (.ref 21), nt "ToolError" 233 (.ref 46), nt "TableError" 249 (.ref 59), nt "bits" 259 (.ref 68), nt "mask_of" 268 (.ref 75), nt "DEAD" 273 (.int (-1) 272), nt "Dfa" 340 (.ref 125), nt "ACCEPT" 346 (.int 1048576 345), nt "BARRED" 351 (.int (-1048576) 350), nt "ERROR" 353 (.int 1 352), nt "UNDEFINED" 355 (.int 2 354), nt "Tables" 489 (.ref 223), nt "TEMPLATES" 493 (.int 8 492), nt "KINDS" 512 (.ref 232), nt "row_key" 518 (.ref 237), nt "owners_of" 529 (.ref 244), nt "packing_order" 535 (.ref 249), nt "Comb" 611 (.ref 301), nt "pack_rows" 617 (.ref 310), nt "look_up" 630 (.ref 317), nt "PackedRows" 725 (.ref 379), nt "packed_rows" 735 (.ref 390), nt "most_frequent" 745 (.ref 397), nt "PackedTables" 827 (.ref 442), nt "action_rows" 839 (.ref 451), nt "goto_columns" 851 (.ref 458), nt "pack" 857 (.ref 463), nt "saved" 865 (.ref 470), nt "goto_states" 873 (.ref 477), nt "cell_kind" 886 (.ref 484), nt "octets" 896 (.ref 491), nt "PackedDfa" 990 (.ref 550), nt "live_entries" 999 (.ref 561), nt "unlike_entries" 1009 (.ref 568), nt "choose_parent" 1021 (.ref 575), nt "pack_dfa" 1027 (.ref 581), nt "unpack_dfa" 1033 (.ref 586), nt "_law_pen" 1041 (.ref 591), nt "_law_draw" 1054 (.ref 598), nt "_law_pick" 1062 (.ref 605), nt "_law_sparse" 1074 (.ref 612), nt "_law_first_fit" 1080 (.ref 617), nt "_law_rows_hold" 1096 (.ref 624), nt "_law_usual" 1102 (.ref 629), nt "_law_lines" 1117 (.ref 636), nt "_law_goals" 1123 (.ref 641), nt "_law_rests" 1129 (.ref 646), nt "_law_cells_hold" 1135 (.ref 651), nt "_law_width" 1146 (.ref 658), nt "_law_widths_hold" 1152 (.ref 663), nt "_law_tables_hold" 1158 (.ref 668), nt "_law_automaton" 1164 (.ref 673), nt "_law_farthest" 1177 (.ref 680), nt "_law_walked" 1187 (.ref 687), nt "_law_parents" 1193 (.ref 692), nt "_law_chain" 1202 (.ref 699), nt "_law_automaton_holds" 1208 (.ref 704), nt "_law_is_sound" 1214 (.ref 709), nt "_law_arrays_hold" 1220 (.ref 714), nt "law" 1226 (.ref 719)]
noncomputable def mE (P : Params) : List DictEntry := mN.map fun (x, t, v) => en P x t v
noncomputable def o3 (P : Params) (nm : Value) (n k : Nat) : Obj := vP n (en P "__name__" 165 nm :: (mE P).take k)
noncomputable def l12 : List Value := (tr 0 [1, 20, 5, 27, 16, 55, 18, 67, 28, 74, 35, 81, 62, 135, 121, 236, 123, 243, 132, 248, 138, 255, 172, 309, 179, 316, 184, 323, 246, 389, 249, 396, 258, 403, 297, 450, 307, 457, 317, 462, 331, 469, 333, 476, 335, 483, 342, 490, 350, 497, 403, 560, 409, 567, 415, 574, 424, 580, 437, 585, 443, 590, 445, 597, 462, 604, 464, 611, 477, 616, 492, 623, 509, 628, 512, 635, 526, 640, 531, 645, 537, 650, 554, 657, 563, 662, 571, 667, 596, 672, 607, 679, 616, 686, 621, 691, 630, 698, 635, 703, 661, 708, 673, 713, 694, 718])
noncomputable def c0 (P : Params) (a b c : Obj) : List Obj := [boot_o_0 P, boot_o_1 P, a, b, boot_o_4 P, boot_o_5 P, boot_o_6 P, boot_o_7 P, boot_o_8 P, boot_o_9 P, boot_o_10 P, lr [], c, oS "<module>" "<module>" 182 1 0 0 0 0 11 false 181 12 .none .none .none 185, C2 [some (.ref 13), some (.ref 3), some (.ref 3), none, some (.str "__main__" 164), none, some (.ref 0)]]
noncomputable def T0 (P : Params) : BT := bt 12 (c0 P (boot_o_2 P) (boot_o_3 P) (lU .none []))
noncomputable def S0 (w : World) (os : OsState) : SharedT := ⟨T0 w.params, 15, lf, #[], ⟨0, 0, 0, 0⟩, 187, os⟩
noncomputable def c1 (P : Params) : List Obj := fb (D 0) "_wall" 15 187 1 1 ["k"] (.str "__main__" 164) ++ ([lr [.type "Exception"], wA [.builtin "type.__prepare__", .type "type"], vP 6 [en P "__module__" 203 mA, en P "__qualname__" 205 (.str "ToolError" 204), en P "__firstlineno__" 207 (.int 5 206), er P "__init__" 216 36, er P "told" 223 43, er P "__static_attributes__" 226 44], lr [], lU .none [.int 7 0, .int 4 0, .ref 35, .int 12 0, .int 4 0, .ref 42], oS "ToolError" "ToolError" 198 5 0 0 0 0 25 false 181 26 .none .none .none 201, C2 [some (.ref 27), some (.ref 3), some (.ref 24), none, some mA, none, some (.ref 0)], lr [.none], lr [], lU .none [], lr [.str "self" 211, .str "what" 212, .str "at" 213], lr [], rJ (M 2 0) "ToolError.__init__", oS "__init__" "ToolError.__init__" 208 7 3 0 0 3 30 true 181 31 (.ref 32) (.ref 33) (.ref 34) 214, D9 (.type "function") (M 2 0) "ToolError.__init__" 3 (.ref 29) .none .none mA (.ref 35) .none 0] ++ (fb (M 2 1) "ToolError.told" 37 217 12 1 ["self"] mA ++ ([lr [.str "at" 224, .str "what" 225], vP 3 [en P "__module__" 203 mA, en P "__firstlineno__" 207 (.int 5 206), er P "__init__" 216 36, er P "told" 223 43, er P "__static_attributes__" 226 44, er P "__weakref__" 228 47, en P "__doc__" 229 .none], Ea "ToolError" [.type "Exception"] [.ref 46, .type "Exception", .type "BaseException", .type "object"] 45 "ToolError" true [] [.ref 59] false none false [some (.ref 22), none, some (.str "ToolError" 196), some (.str "ToolError" 204), some (.builtin "Exception.__new__"), some (.bool true)], Bi [.str "__weakref__" 227, .ref 46, .builtin "ExceptionGroup.__weakref__", .none], lU (.type "super") [.ref 46, .ref 46, .ref 46], wA [.builtin "object.__init_subclass__", .ref 46], lr [.ref 46], wA [.builtin "type.__prepare__", .type "type"], vP 4 [en P "__module__" 241 mA, en P "__qualname__" 243 (.str "TableError" 242), en P "__firstlineno__" 245 (.int 16 244), er P "__static_attributes__" 246 57], lr [], lU .none [], oS "TableError" "TableError" 236 16 0 0 0 0 53 false 181 54 .none .none .none 239, C2 [some (.ref 55), some (.ref 3), some (.ref 52), none, some mA, none, some (.ref 0)], lr [], vP 2 [en P "__module__" 241 mA, en P "__firstlineno__" 245 (.int 16 244), er P "__static_attributes__" 246 57, en P "__doc__" 247 .none], Ea "TableError" [.ref 46] [.ref 59, .ref 46, .type "Exception", .type "BaseException", .type "object"] 58 "TableError" true [] [] false none false [some (.ref 50), none, some (.str "TableError" 234), some (.str "TableError" 242), some (.builtin "Exception.__new__"), some (.bool true)], lU (.type "super") [.ref 59, .ref 59, .ref 59], wA [.builtin "object.__init_subclass__", .ref 59]] ++ (fb (D 4) "bits" 62 250 18 1 ["mask", "found", "at", "left"] mA ++ (fb (D 5) "mask_of" 69 260 28 1 ["numbers", "mask", "number"] mA)))))
noncomputable def s2 (P : Params) : Obj := ⟨.none, none, dc 2 [en P "type.__subclasses__.Exception.0" 230 (.int 46 0), en P "type.__subclasses__.Exception.n" 231 (.int 1 0)], #[]⟩
noncomputable def T1 (P : Params) : BT := bt 12 (c0 P (s2 P) (o3 P mB 15 14) (lU .none (l12.take 15)) ++ c1 P)
noncomputable def S1 (w : World) (os : OsState) : SharedT := ⟨T1 w.params, 76, lf, #[], ⟨0, 0, 0, 0⟩, 274, os⟩
noncomputable def c2 (P : Params) : List Obj := [lr [], wA [.builtin "type.__prepare__", .type "type"], vP 10 [en P "__module__" 281 mB, en P "__qualname__" 283 (.str "Dfa" 282), en P "__firstlineno__" 285 (.int 35 284), er P "__init__" 294 89, er P "class_count" 301 96, er P "state_count" 308 103, er P "step" 317 110, er P "links" 324 117, er P "told" 330 122, er P "__static_attributes__" 333 123], lr [], lU .none (tr 4 [37, 88, 41, 95, 44, 102, 47, 109, 52, 116, 55, 121]), oS "Dfa" "Dfa" 276 35 0 0 0 0 79 false 181 80 .none .none .none 279, C2 [some (.ref 81), some (.ref 3), some (.ref 78), none, some mB, none, some (.ref 0)]] ++ (fb (M 8 0) "Dfa.__init__" 83 286 37 3 ["self", "rows", "tags"] mB ++ (fb (M 8 1) "Dfa.class_count" 90 295 41 1 ["self"] mB ++ (fb (M 8 2) "Dfa.state_count" 97 302 44 1 ["self"] mB ++ (fb (M 8 3) "Dfa.step" 104 309 47 3 ["self", "state", "number"] mB ++ (fb (M 8 4) "Dfa.links" 111 318 52 1 ["self"] mB ++ ([lr [], lU .none [], rJ (M 8 5) "Dfa.told", oS "told" "Dfa.told" 325 55 1 0 0 3 118 true 181 119 .none .none (.ref 120) 328, tI (M 8 5) "Dfa.told" mB 121, lr [.str "rows" 331, .str "tags" 332], vP 4 [en P "__module__" 281 mB, en P "__firstlineno__" 285 (.int 35 284), er P "__init__" 294 89, er P "class_count" 301 96, er P "state_count" 308 103, er P "step" 317 110, er P "links" 324 117, er P "told" 330 122, er P "__static_attributes__" 333 123, er P "__dict__" 335 126, er P "__weakref__" 337 127, en P "__doc__" 338 .none], Ea "Dfa" [.type "object"] [.ref 125, .type "object"] 124 "Dfa" true [] [] false none false [none, none, some (.str "Dfa" 274), some (.str "Dfa" 282), some (.builtin "object.__new__"), some (.bool true)], Bi [.str "__dict__" 334, .ref 125, .builtin "function.__dict__", .builtin "function.__dict__#set"], Bi [.str "__weakref__" 336, .ref 125, .builtin "ExceptionGroup.__weakref__", .none], lU (.type "super") [.ref 125, .ref 125, .ref 125], wA [.builtin "object.__init_subclass__", .ref 125]]))))))
noncomputable def T2 (P : Params) : BT := bt 12 (c0 P (s2 P) (o3 P mC 20 19) (lU .none (l12.take 18)) ++ c1 P ++ c2 P)
noncomputable def S2 (w : World) (os : OsState) : SharedT := ⟨T2 w.params, 130, lf, #[], ⟨0, 0, 0, 0⟩, 356, os⟩
noncomputable def c3 (P : Params) (u : List Value) : List Obj := [lr [], wA [.builtin "type.__prepare__", .type "type"], vP 16 [en P "__module__" 363 mC, en P "__qualname__" 365 (.str "Tables" 364), en P "__firstlineno__" 367 (.int 62 366), er P "__init__" 380 143, er P "terminal" 388 150, er P "left" 396 157, er P "length" 404 164, er P "before" 412 171, er P "state_count" 419 178, er P "explicit" 428 185, er P "default" 436 192, er P "goto" 445 199, er P "action" 455 206, er P "expected" 466 213, er P "is_consistent" 474 220, er P "__static_attributes__" 482 221], lr [], lU .none (tr 4 [64, 142, 75, 149, 78, 156, 81, 163, 84, 170, 87, 177, 90, 184, 93, 191, 96, 198, 99, 205, 107, 212, 116, 219]), oS "Tables" "Tables" 358 62 0 0 0 0 133 false 181 134 .none .none .none 361, C2 [some (.ref 135), some (.ref 3), some (.ref 132), none, some mC, none, some (.ref 0)]] ++ (fb (M 14 0) "Tables.__init__" 137 368 64 6 ["self", "names", "terminal_count", "lefts", "lengths", "befores", "number"] mC ++ (fb (M 14 1) "Tables.terminal" 144 381 75 2 ["self", "name"] mC ++ (fb (M 14 2) "Tables.left" 151 389 78 2 ["self", "rule"] mC ++ (fb (M 14 3) "Tables.length" 158 397 81 2 ["self", "rule"] mC ++ (fb (M 14 4) "Tables.before" 165 405 84 2 ["self", "rule"] mC ++ (fb (M 14 5) "Tables.state_count" 172 413 87 1 ["self"] mC ++ (fb (M 14 6) "Tables.explicit" 179 420 90 3 ["self", "state", "terminal"] mC ++ (fb (M 14 7) "Tables.default" 186 429 93 2 ["self", "state"] mC ++ (fb (M 14 8) "Tables.goto" 193 437 96 3 ["self", "state", "nonterminal"] mC ++ (fb (M 14 9) "Tables.action" 200 446 99 3 ["self", "state", "terminal", "told"] mC ++ (fb (M 14 10) "Tables.expected" 207 456 107 2 ["self", "state", "found", "terminal", "told"] mC ++ (fb (M 14 11) "Tables.is_consistent" 214 467 116 2 ["self", "state"] mC ++ ([lr [.str "befores" 475, .str "defaults" 476, .str "lefts" 477, .str "lengths" 478, .str "names" 479, .str "numbers" 480, .str "terminal_count" 481], vP 4 [en P "__module__" 363 mC, en P "__firstlineno__" 367 (.int 62 366), er P "__init__" 380 143, er P "terminal" 388 150, er P "left" 396 157, er P "length" 404 164, er P "before" 412 171, er P "state_count" 419 178, er P "explicit" 428 185, er P "default" 436 192, er P "goto" 445 199, er P "action" 455 206, er P "expected" 466 213, er P "is_consistent" 474 220, er P "__static_attributes__" 482 221, er P "__dict__" 484 224, er P "__weakref__" 486 225, en P "__doc__" 487 .none], Ea "Tables" [.type "object"] [.ref 223, .type "object"] 222 "Tables" true [] u false none false [none, none, some (.str "Tables" 356), some (.str "Tables" 364), some (.builtin "object.__new__"), some (.bool true)], Bi [.str "__dict__" 483, .ref 223, .builtin "function.__dict__", .builtin "function.__dict__#set"], Bi [.str "__weakref__" 485, .ref 223, .builtin "ExceptionGroup.__weakref__", .none], lU (.type "super") [.ref 223, .ref 223, .ref 223], wA [.builtin "object.__init_subclass__", .ref 223]])))))))))))))
noncomputable def T3 (P : Params) : BT := bt 12 (c0 P (s2 P) (o3 P mD 22 21) (lU .none (l12.take 21)) ++ c1 P ++ c2 P ++ c3 P [])
noncomputable def S3 (w : World) (os : OsState) : SharedT := ⟨T3 w.params, 228, lf, #[], ⟨0, 0, 0, 0⟩, 494, os⟩
noncomputable def c4 (P : Params) : List Obj := [lr [.str "int8" 494, .int (-128) 496, .int 127 497, .int 1 498], lr [.str "uint8" 499, .int 0 500, .int 255 501, .int 1 502], lr [.str "int16" 503, .int (-32768) 505, .int 32767 506, .int 2 507], lr [.str "uint16" 508, .int 0 509, .int 65535 510, .int 2 511], lr [.ref 228, .ref 229, .ref 230, .ref 231], lr [], lU .none [], rJ (D 18) "row_key", oS "row_key" "row_key" 513 121 1 0 0 3 233 true 181 234 .none .none (.ref 235) 516, tI (D 18) "row_key" mD 236] ++ (fb (D 19) "owners_of" 238 519 123 1 ["rows", "firsts", "owners", "number", "key"] mD ++ ([lr [], lU .none [], rJ (D 20) "packing_order", oS "packing_order" "packing_order" 530 132 2 0 0 3 245 true 181 246 .none .none (.ref 247) 533, tI (D 20) "packing_order" mD 248, lr [], wA [.builtin "type.__prepare__", .type "type"], vP 10 [en P "__module__" 543 mD, en P "__qualname__" 545 (.str "Comb" 544), en P "__firstlineno__" 547 (.int 138 546), er P "__init__" 554 263, er P "is_free" 562 270, er P "fits" 572 277, er P "first_fit" 581 284, er P "grow" 589 291, er P "put" 601 298, er P "__static_attributes__" 604 299], lr [], lU .none (tr 4 [140, 262, 144, 269, 147, 276, 153, 283, 159, 290, 164, 297]), oS "Comb" "Comb" 538 138 0 0 0 0 253 false 181 254 .none .none .none 541, C2 [some (.ref 255), some (.ref 3), some (.ref 252), none, some mD, none, some (.ref 0)]] ++ (fb (M 21 0) "Comb.__init__" 257 548 140 1 ["self"] mD ++ (fb (M 21 1) "Comb.is_free" 264 555 144 2 ["self", "cell"] mD ++ (fb (M 21 2) "Comb.fits" 271 563 147 3 ["self", "base", "columns", "column"] mD ++ (fb (M 21 3) "Comb.first_fit" 278 573 153 2 ["self", "columns", "base"] mD ++ (fb (M 21 4) "Comb.grow" 285 582 159 2 ["self", "many"] mD ++ (fb (M 21 5) "Comb.put" 292 590 164 3 ["self", "owner", "row", "columns", "base", "column"] mD ++ ([lr [.str "check" 602, .str "table" 603], vP 4 [en P "__module__" 543 mD, en P "__firstlineno__" 547 (.int 138 546), er P "__init__" 554 263, er P "is_free" 562 270, er P "fits" 572 277, er P "first_fit" 581 284, er P "grow" 589 291, er P "put" 601 298, er P "__static_attributes__" 604 299, er P "__dict__" 606 302, er P "__weakref__" 608 303, en P "__doc__" 609 .none], Ea "Comb" [.type "object"] [.ref 301, .type "object"] 300 "Comb" true [] [] false none false [none, none, some (.str "Comb" 536), some (.str "Comb" 544), some (.builtin "object.__new__"), some (.bool true)], Bi [.str "__dict__" 605, .ref 301, .builtin "function.__dict__", .builtin "function.__dict__#set"], Bi [.str "__weakref__" 607, .ref 301, .builtin "ExceptionGroup.__weakref__", .none], lU (.type "super") [.ref 301, .ref 301, .ref 301], wA [.builtin "object.__init_subclass__", .ref 301], lr [], lU .none [], rJ (D 22) "pack_rows", oS "pack_rows" "pack_rows" 612 172 1 0 0 3 306 true 181 307 .none .none (.ref 308) 615, tI (D 22) "pack_rows" mD 309] ++ (fb (D 23) "look_up" 311 618 179 6 ["bases", "table", "check", "owner", "row", "column", "cell"] mD))))))))))
noncomputable def T4 (P : Params) : BT := bt 12 (c0 P (s2 P) (o3 P mD 29 28) (lU .none (l12.take 39)) ++ c1 P ++ c2 P ++ c3 P [] ++ c4 P)
noncomputable def S4 (w : World) (os : OsState) : SharedT := ⟨T4 w.params, 318, lf, #[], ⟨0, 0, 0, 0⟩, 631, os⟩
noncomputable def c5 (P : Params) : List Obj := [lr [], wA [.builtin "type.__prepare__", .type "type"], vP 12 [en P "__module__" 638 mD, en P "__qualname__" 640 (.str "PackedRows" 639), en P "__firstlineno__" 642 (.int 184 641), er P "__init__" 653 331, er P "get" 662 338, er P "unpacked" 668 343, er P "cell_count" 675 350, er P "gaps" 681 355, er P "flaw_of_rows" 691 362, er P "flaw_of_cells" 701 369, er P "flaw" 713 376, er P "__static_attributes__" 718 377], lr [], lU .none (tr 4 [186, 330, 192, 337, 195, 342, 203, 349, 206, 354, 209, 361, 220, 368, 235, 375]), oS "PackedRows" "PackedRows" 633 184 0 0 0 0 321 false 181 322 .none .none .none 636, C2 [some (.ref 323), some (.ref 3), some (.ref 320), none, some mD, none, some (.ref 0)]] ++ (fb (M 24 0) "PackedRows.__init__" 325 643 186 5 ["self", "bases", "table", "check", "owners"] mD ++ (fb (M 24 1) "PackedRows.get" 332 654 192 3 ["self", "row", "column"] mD ++ ([lr [], lU .none [], rJ (M 24 2) "PackedRows.unpacked", oS "unpacked" "PackedRows.unpacked" 663 195 1 0 0 3 339 true 181 340 .none .none (.ref 341) 666, tI (M 24 2) "PackedRows.unpacked" mD 342] ++ (fb (M 24 3) "PackedRows.cell_count" 344 669 203 1 ["self"] mD ++ ([lr [], lU .none [], rJ (M 24 4) "PackedRows.gaps", oS "gaps" "PackedRows.gaps" 676 206 1 0 0 3 351 true 181 352 .none .none (.ref 353) 679, tI (M 24 4) "PackedRows.gaps" mD 354] ++ (fb (M 24 5) "PackedRows.flaw_of_rows" 356 682 209 2 ["self", "many", "row", "owner"] mD ++ (fb (M 24 6) "PackedRows.flaw_of_cells" 363 692 220 2 ["self", "columns", "cell", "owner"] mD ++ (fb (M 24 7) "PackedRows.flaw" 370 702 235 3 ["self", "many", "columns", "found", "rows", "row"] mD ++ ([lr [.str "bases" 714, .str "check" 715, .str "owners" 716, .str "table" 717], vP 4 [en P "__module__" 638 mD, en P "__firstlineno__" 642 (.int 184 641), er P "__init__" 653 331, er P "get" 662 338, er P "unpacked" 668 343, er P "cell_count" 675 350, er P "gaps" 681 355, er P "flaw_of_rows" 691 362, er P "flaw_of_cells" 701 369, er P "flaw" 713 376, er P "__static_attributes__" 718 377, er P "__dict__" 720 380, er P "__weakref__" 722 381, en P "__doc__" 723 .none], Ea "PackedRows" [.type "object"] [.ref 379, .type "object"] 378 "PackedRows" true [] [] false none false [none, none, some (.str "PackedRows" 631), some (.str "PackedRows" 639), some (.builtin "object.__new__"), some (.bool true)], Bi [.str "__dict__" 719, .ref 379, .builtin "function.__dict__", .builtin "function.__dict__#set"], Bi [.str "__weakref__" 721, .ref 379, .builtin "ExceptionGroup.__weakref__", .none], lU (.type "super") [.ref 379, .ref 379, .ref 379], wA [.builtin "object.__init_subclass__", .ref 379]] ++ (fb (D 25) "packed_rows" 384 726 246 1 ["rows", "bases", "table", "check"] mD ++ (fb (D 26) "most_frequent" 391 736 249 1 ["numbers", "counts", "number", "best"] mD)))))))))))
noncomputable def T5 (P : Params) : BT := bt 12 (c0 P (s2 P) (o3 P mD 32 31) (lU .none (l12.take 48)) ++ c1 P ++ c2 P ++ c3 P [] ++ c4 P ++ c5 P)
noncomputable def S5 (w : World) (os : OsState) : SharedT := ⟨T5 w.params, 398, lf, #[], ⟨0, 0, 0, 0⟩, 746, os⟩
noncomputable def c6 (P : Params) : List Obj := [lr [.ref 223], wA [.builtin "type.__prepare__", .type "type"], vP 9 [en P "__module__" 753 mD, en P "__qualname__" 755 (.str "PackedTables" 754), en P "__firstlineno__" 757 (.int 258 756), er P "__init__" 775 411, er P "state_count" 782 418, er P "explicit" 792 425, er P "goto" 803 432, er P "cells" 810 439, er P "__static_attributes__" 824 440], lr [], lU .none (tr 4 [260, 410, 277, 417, 280, 424, 286, 431, 295, 438]), oS "PackedTables" "PackedTables" 748 258 0 0 0 0 401 false 181 402 .none .none .none 751, C2 [some (.ref 403), some (.ref 3), some (.ref 400), none, some mD, none, some (.ref 0)]] ++ (fb (M 27 0) "PackedTables.__init__" 405 758 260 7 ["self", "frame", "defaults", "actions", "gotos", "goto_defaults", "goto_masks", "names", "terminal_count", "lefts", "lengths", "befores"] mD ++ (fb (M 27 1) "PackedTables.state_count" 412 776 277 1 ["self"] mD ++ (fb (M 27 2) "PackedTables.explicit" 419 783 280 3 ["self", "state", "terminal", "found"] mD ++ (fb (M 27 3) "PackedTables.goto" 426 793 286 3 ["self", "state", "nonterminal", "row", "found"] mD ++ (fb (M 27 4) "PackedTables.cells" 433 804 295 1 ["self"] mD ++ ([lr [.str "actions" 811, .str "bases" 812, .str "check" 813, .str "defaults" 814, .str "goto_bases" 815, .str "goto_check" 816, .str "goto_defaults" 817, .str "goto_masks" 818, .str "goto_owners" 819, .str "goto_table" 820, .str "gotos" 821, .str "owners" 822, .str "table" 823], vP 2 [en P "__module__" 753 mD, en P "__firstlineno__" 757 (.int 258 756), er P "__init__" 775 411, er P "state_count" 782 418, er P "explicit" 792 425, er P "goto" 803 432, er P "cells" 810 439, er P "__static_attributes__" 824 440, en P "__doc__" 825 .none], Ea "PackedTables" [.ref 223] [.ref 442, .ref 223, .type "object"] 441 "PackedTables" true [] [] false none false [some (.ref 398), none, some (.str "PackedTables" 746), some (.str "PackedTables" 754), some (.builtin "object.__new__"), some (.bool true)], lU (.type "super") [.ref 442, .ref 442, .ref 442], wA [.builtin "object.__init_subclass__", .ref 442]] ++ (fb (D 28) "action_rows" 445 828 297 1 ["tables", "rows", "state", "row", "terminal", "action"] mD ++ (fb (D 29) "goto_columns" 452 840 307 1 ["tables", "columns", "nonterminal", "column", "state", "goal"] mD ++ ([lr [], lU .none [], rJ (D 30) "pack", oS "pack" "pack" 852 317 1 0 0 3 459 true 181 460 .none .none (.ref 461) 855, tI (D 30) "pack" mD 462] ++ (fb (D 31) "saved" 464 858 331 2 ["tables", "packed"] mD ++ (fb (D 32) "goto_states" 471 866 333 2 ["packed", "nonterminal"] mD ++ (fb (D 33) "cell_kind" 478 874 335 1 ["numbers", "low", "high", "name", "least", "most", "size"] mD ++ (fb (D 34) "octets" 485 887 342 1 ["packed", "total", "rows", "numbers"] mD)))))))))))))
noncomputable def T6 (P : Params) : BT := bt 12 (c0 P (s2 P) (o3 P mD 40 39) (lU .none (l12.take 72)) ++ c1 P ++ c2 P ++ c3 P [.ref 442] ++ c4 P ++ c5 P ++ c6 P)
noncomputable def S6 (w : World) (os : OsState) : SharedT := ⟨T6 w.params, 492, lf, #[], ⟨0, 0, 0, 0⟩, 897, os⟩
noncomputable def c7 (P : Params) : List Obj := [lr [], wA [.builtin "type.__prepare__", .type "type"], vP 11 [en P "__module__" 904 mD, en P "__qualname__" 906 (.str "PackedDfa" 905), en P "__firstlineno__" 908 (.int 350 907), er P "__init__" 914 504, er P "step" 925 511, er P "run" 937 519, er P "accepts" 946 526, er P "longest" 958 533, er P "state_count" 965 540, er P "chain" 975 547, er P "__static_attributes__" 983 548], lr [], lU .none (tr 4 [352, 503, 361, 510, 370, 518, 376, 525, 382, 532, 393, 539, 396, 546]), oS "PackedDfa" "PackedDfa" 899 350 0 0 0 0 495 false 181 496 .none .none .none 902, C2 [some (.ref 497), some (.ref 3), some (.ref 494), none, some mD, none, some (.ref 0)], lr [.none], lr [], lU .none [], rJ (M 35 0) "PackedDfa.__init__", oS "__init__" "PackedDfa.__init__" 909 352 8 0 0 3 500 true 181 501 .none .none (.ref 502) 912, D9 (.type "function") (M 35 0) "PackedDfa.__init__" 3 (.ref 499) .none .none mD (.ref 503) .none 0] ++ (fb (M 35 1) "PackedDfa.step" 505 915 361 3 ["self", "state", "number", "here", "found"] mD ++ ([lr [.int 0 926], lr [], lU .none [], lr [.str "self" 930, .str "numbers" 931, .str "state" 932, .str "here" 933, .str "number" 934], lr [], rJ (M 35 2) "PackedDfa.run", oS "run" "PackedDfa.run" 927 370 3 0 0 3 513 true 181 514 (.ref 515) (.ref 516) (.ref 517) 935, D9 (.type "function") (M 35 2) "PackedDfa.run" 3 (.ref 512) .none .none mD (.ref 518) .none 0] ++ (fb (M 35 3) "PackedDfa.accepts" 520 938 376 2 ["self", "numbers", "state"] mD ++ (fb (M 35 4) "PackedDfa.longest" 527 947 382 3 ["self", "numbers", "at", "best", "state", "here"] mD ++ (fb (M 35 5) "PackedDfa.state_count" 534 959 393 1 ["self"] mD ++ (fb (M 35 6) "PackedDfa.chain" 541 966 396 2 ["self", "state", "found", "here"] mD ++ ([lr [.str "bases" 976, .str "check" 977, .str "count" 978, .str "owners" 979, .str "parents" 980, .str "table" 981, .str "tags" 982], vP 4 [en P "__module__" 904 mD, en P "__firstlineno__" 908 (.int 350 907), er P "__init__" 914 504, er P "step" 925 511, er P "run" 937 519, er P "accepts" 946 526, er P "longest" 958 533, er P "state_count" 965 540, er P "chain" 975 547, er P "__static_attributes__" 983 548, er P "__dict__" 985 551, er P "__weakref__" 987 552, en P "__doc__" 988 .none], Ea "PackedDfa" [.type "object"] [.ref 550, .type "object"] 549 "PackedDfa" true [] [] false none false [none, none, some (.str "PackedDfa" 897), some (.str "PackedDfa" 905), some (.builtin "object.__new__"), some (.bool true)], Bi [.str "__dict__" 984, .ref 550, .builtin "function.__dict__", .builtin "function.__dict__#set"], Bi [.str "__weakref__" 986, .ref 550, .builtin "ExceptionGroup.__weakref__", .none], lU (.type "super") [.ref 550, .ref 550, .ref 550], wA [.builtin "object.__init_subclass__", .ref 550]] ++ (fb (D 36) "live_entries" 555 991 403 1 ["row", "found", "number"] mD ++ (fb (D 37) "unlike_entries" 562 1000 409 2 ["row", "parent", "found", "number"] mD ++ (fb (D 38) "choose_parent" 569 1010 415 2 ["rows", "state", "best", "fewest", "other", "many"] mD ++ ([lr [.bool false], lr [], lU .none [], rJ (D 39) "pack_dfa", oS "pack_dfa" "pack_dfa" 1022 424 2 0 0 3 577 true 181 578 .none .none (.ref 579) 1025, D9 (.type "function") (D 39) "pack_dfa" 3 (.ref 576) .none .none mD (.ref 580) .none 0, lr [], lU .none [], rJ (D 40) "unpack_dfa", oS "unpack_dfa" "unpack_dfa" 1028 437 1 0 0 3 582 true 181 583 .none .none (.ref 584) 1031, tI (D 40) "unpack_dfa" mD 585, lr [], lU .none [], rJ (D 42) "_law_pen", oS "_law_pen" "_law_pen" 1036 443 1 0 0 3 587 true 181 588 .none .none (.ref 589) 1039, tI (D 42) "_law_pen" mF 590])))))))))))
noncomputable def T7 (P : Params) : BT := bt 12 (c0 P (s2 P) (o3 P mF 47 46) (lU .none (l12.take 93)) ++ c1 P ++ c2 P ++ c3 P [.ref 442] ++ c4 P ++ c5 P ++ c6 P ++ c7 P)
noncomputable def S7 (w : World) (os : OsState) : SharedT := ⟨T7 w.params, 592, lf, #[], ⟨0, 0, 0, 0⟩, 1042, os⟩
noncomputable def c8 (P : Params) : List Obj := fb (D 43) "_law_draw" 592 1042 445 2 ["pen", "many", "digit", "spot", "cell", "great", "mixed"] mF ++ (fb (D 44) "_law_pick" 599 1055 462 2 ["pen", "some"] mF ++ (fb (D 45) "_law_sparse" 606 1063 464 1 ["pen", "found", "turn", "one", "column", "number"] mF ++ ([lr [], lU .none [], rJ (D 46) "_law_first_fit", oS "_law_first_fit" "_law_first_fit" 1075 477 1 0 0 3 613 true 181 614 .none .none (.ref 615) 1078, tI (D 46) "_law_first_fit" mF 616] ++ (fb (D 47) "_law_rows_hold" 618 1081 492 1 ["some", "places", "cells", "marks", "firsts", "heard", "at", "column", "held", "back"] mF ++ ([lr [], lU .none [], rJ (D 48) "_law_usual", oS "_law_usual" "_law_usual" 1097 509 1 0 0 3 625 true 181 626 .none .none (.ref 627) 1100, tI (D 48) "_law_usual" mF 628] ++ (fb (D 49) "_law_lines" 630 1103 512 4 ["pen", "size", "count", "many", "lines", "state", "line", "terminal", "way"] mF ++ ([lr [], lU .none [], rJ (D 50) "_law_goals", oS "_law_goals" "_law_goals" 1118 526 3 0 0 3 637 true 181 638 .none .none (.ref 639) 1121, tI (D 50) "_law_goals" mF 640, lr [], lU .none [], rJ (D 51) "_law_rests", oS "_law_rests" "_law_rests" 1124 531 2 0 0 3 642 true 181 643 .none .none (.ref 644) 1127, tI (D 51) "_law_rests" mF 645, lr [], lU .none [], rJ (D 52) "_law_cells_hold", oS "_law_cells_hold" "_law_cells_hold" 1130 537 4 0 0 3 647 true 181 648 .none .none (.ref 649) 1133, tI (D 52) "_law_cells_hold" mF 650] ++ (fb (D 53) "_law_width" 652 1136 554 1 ["numbers", "low", "high", "size", "half"] mF ++ ([lr [], lU .none [], rJ (D 54) "_law_widths_hold", oS "_law_widths_hold" "_law_widths_hold" 1147 563 2 0 0 3 659 true 181 660 .none .none (.ref 661) 1150, tI (D 54) "_law_widths_hold" mF 662, lr [], lU .none [], rJ (D 55) "_law_tables_hold", oS "_law_tables_hold" "_law_tables_hold" 1153 571 1 0 0 3 664 true 181 665 .none .none (.ref 666) 1156, tI (D 55) "_law_tables_hold" mF 667, lr [], lU .none [], rJ (D 56) "_law_automaton", oS "_law_automaton" "_law_automaton" 1159 596 1 0 0 3 669 true 181 670 .none .none (.ref 671) 1162, tI (D 56) "_law_automaton" mF 672] ++ (fb (D 57) "_law_farthest" 674 1165 607 4 ["lines", "marks", "word", "start", "best", "state", "at"] mF ++ (fb (D 58) "_law_walked" 681 1178 616 2 ["lines", "word", "state", "number"] mF ++ ([lr [], lU .none [], rJ (D 59) "_law_parents", oS "_law_parents" "_law_parents" 1188 621 1 0 0 3 688 true 181 689 .none .none (.ref 690) 1191, tI (D 59) "_law_parents" mF 691] ++ (fb (D 60) "_law_chain" 693 1194 630 2 ["parents", "state", "found"] mF ++ ([lr [], lU .none [], rJ (D 61) "_law_automaton_holds", oS "_law_automaton_holds" "_law_automaton_holds" 1203 635 3 0 0 3 700 true 181 701 .none .none (.ref 702) 1206, tI (D 61) "_law_automaton_holds" mF 703, lr [], lU .none [], rJ (D 62) "_law_is_sound", oS "_law_is_sound" "_law_is_sound" 1209 661 5 0 0 3 705 true 181 706 .none .none (.ref 707) 1212, tI (D 62) "_law_is_sound" mF 708, lr [], lU .none [], rJ (D 63) "_law_arrays_hold", oS "_law_arrays_hold" "_law_arrays_hold" 1215 673 1 0 0 3 710 true 181 711 .none .none (.ref 712) 1218, tI (D 63) "_law_arrays_hold" mF 713]))))))))))))))
noncomputable def T8 (P : Params) : BT := bt 12 (c0 P (s2 P) (o3 P mF 68 67) (lU .none (l12.take 156)) ++ c1 P ++ c2 P ++ c3 P [.ref 442] ++ c4 P ++ c5 P ++ c6 P ++ c7 P ++ c8 P)
noncomputable def S8 (w : World) (os : OsState) : SharedT := ⟨T8 w.params, 715, lf, #[], ⟨0, 0, 0, 0⟩, 1221, os⟩
noncomputable def c9 (P : Params) : List Obj := [lr [], lU .none [], rJ (D 64) "law", oS "law" "law" 1221 694 1 0 0 3 715 true 181 716 .none .none (.ref 717) 1224, tI (D 64) "law" mF 718]
noncomputable def T9 (P : Params) : BT := bt 12 (c0 P (s2 P) (o3 P mF 69 68) (lU .none (l12.take 159)) ++ c1 P ++ c2 P ++ c3 P [.ref 442] ++ c4 P ++ c5 P ++ c6 P ++ c7 P ++ c8 P ++ c9 P)
noncomputable def S9 (w : World) (os : OsState) : SharedT := ⟨T9 w.params, 720, lf, #[], ⟨0, 0, 0, 0⟩, 1227, os⟩
theorem g1 (w : World) (os : OsState) : segRunT treeTable pg w 11 (some (.ref 6)) 1 600 (S0 w os) ⟨(execs (sl 0 8) ev).wrap doneF deadEnd id id, cE, ⟨0, 0, 0, 0⟩, [topFrame ⟨0, 0, 0, 0⟩]⟩ = some (.next, S1 w os, cE, ⟨34, 0, 34, 4⟩) := by rw [bn, bh, bp]; kernel_rfl
theorem g2 (w : World) (os : OsState) : segRunT treeTable pg w 11 (some (.ref 6)) 1 441 (S1 w os) ⟨(execs (sl 8 6) ev).wrap doneF deadEnd id id, cE, ⟨34, 0, 34, 4⟩, [topFrame ⟨0, 0, 0, 0⟩]⟩ = some (.next, S2 w os, cE, ⟨61, 0, 61, 9⟩) := by rw [bn, bh, bp]; kernel_rfl
theorem g3 (w : World) (os : OsState) : segRunT treeTable pg w 11 (some (.ref 6)) 1 610 (S2 w os) ⟨(execs (sl 14 3) ev).wrap doneF deadEnd id id, cE, ⟨61, 0, 61, 9⟩, [topFrame ⟨0, 0, 0, 0⟩]⟩ = some (.next, S3 w os, cE, ⟨119, 0, 119, 9⟩) := by rw [bn, bh, bp]; kernel_rfl
theorem g4 (w : World) (os : OsState) : segRunT treeTable pg w 11 (some (.ref 6)) 1 580 (S3 w os) ⟨(execs (sl 17 7) ev).wrap doneF deadEnd id id, cE, ⟨119, 0, 119, 9⟩, [topFrame ⟨0, 0, 0, 0⟩]⟩ = some (.next, S4 w os, cE, ⟨179, 0, 183, 22⟩) := by rw [bn, bh, bp]; kernel_rfl
theorem g5 (w : World) (os : OsState) : segRunT treeTable pg w 11 (some (.ref 6)) 1 517 (S4 w os) ⟨(execs (sl 24 3) ev).wrap doneF deadEnd id id, cE, ⟨179, 0, 183, 22⟩, [topFrame ⟨0, 0, 0, 0⟩]⟩ = some (.next, S5 w os, cE, ⟨249, 0, 257, 15⟩) := by rw [bn, bh, bp]; kernel_rfl
theorem g6 (w : World) (os : OsState) : segRunT treeTable pg w 11 (some (.ref 6)) 1 620 (S5 w os) ⟨(execs (sl 27 8) ev).wrap doneF deadEnd id id, cE, ⟨249, 0, 257, 15⟩, [topFrame ⟨0, 0, 0, 0⟩]⟩ = some (.next, S6 w os, cE, ⟨342, 0, 349, 16⟩) := by rw [bn, bh, bp]; kernel_rfl
theorem g7 (w : World) (os : OsState) : segRunT treeTable pg w 11 (some (.ref 6)) 1 617 (S6 w os) ⟨(execs (sl 35 8) ev).wrap doneF deadEnd id id, cE, ⟨342, 0, 349, 16⟩, [topFrame ⟨0, 0, 0, 0⟩]⟩ = some (.next, S7 w os, cE, ⟨443, 0, 444, 54⟩) := by rw [bn, bh, bp]; kernel_rfl
theorem g8 (w : World) (os : OsState) : segRunT treeTable pg w 11 (some (.ref 6)) 1 618 (S7 w os) ⟨(execs (sl 43 21) ev).wrap doneF deadEnd id id, cE, ⟨443, 0, 444, 54⟩, [topFrame ⟨0, 0, 0, 0⟩]⟩ = some (.next, S8 w os, cE, ⟨673, 0, 693, 47⟩) := by rw [bn, bh, bp]; kernel_rfl
theorem g9 (w : World) (os : OsState) : segRunT treeTable pg w 11 (some (.ref 6)) 1 27 (S8 w os) ⟨(execs (sl 64 1) ev).wrap doneF deadEnd id id, cE, ⟨673, 0, 693, 47⟩, [topFrame ⟨0, 0, 0, 0⟩]⟩ = some (.next, S9 w os, cE, ⟨694, 0, 705, 15⟩) := by rw [bn, bh, bp]; kernel_rfl
noncomputable def num : Nat → List Obj → Frag
 | _, [] => []
 | n, a :: l => (n, a) :: num (n + 1) l
noncomputable def LL (P : Params) : List Obj := c0 P (s2 P) (o3 P mF 69 68) (lU .none l12) ++ (c1 P ++ (c2 P ++ (c3 P [.ref 442] ++ (c4 P ++ (c5 P ++ (c6 P ++ (c7 P ++ (c8 P ++ c9 P))))))))
noncomputable def KF (P : Params) : Frag := num 0 (LL P)
open TablesWhole in
theorem Bj {α : Type} {A : Alg α} (ha : ∀ a b c, A.both (A.both a b) c = A.both a (A.both b c)) (hu : ∀ a, A.both A.unit a = a) {t c d} (a b : List Stmt) : wSs A t c d (a ++ b) = A.both (wSs A t c d a) (wSs A t c d b) := by
 induction a with
 | nil => exact (hu _).symm
 | cons s r ih => show A.both (wS A t c d s) (wSs A t c d (r ++ b)) = A.both (A.both (wS A t c d s) (wSs A t c d r)) _; rw [ih, ha]
theorem EO (k : Look) (a b : List Stmt) : Fast.tw8326940854005059898 k (a ++ b) = (Fast.tw8326940854005059898 k a && Fast.tw8326940854005059898 k b) := by
 rw [← Fast.te8326940854005059898]
 induction a with
 | nil => rfl
 | cons s r ih => show (noRoadLS k s && noRoadLSs k (r ++ b)) = (noRoadLS k s && noRoadLSs k r && _); rw [ih, Bool.and_assoc]
theorem bd_ : pg.main.body = sl 0 8 ++ (sl 8 6 ++ (sl 14 3 ++ (sl 17 7 ++ (sl 24 3 ++ (sl 27 8 ++ (sl 35 8 ++ (sl 43 7 ++ (sl 50 7 ++ (sl 57 7 ++ sl 64 1))))))))) := by kernel_rfl
theorem b9 {α : Type} {f : List Stmt → α} {o : α → α → α} {u} (h : ∀ a b, f (a ++ b) = o (f a) (f b)) (z : o u u = u) (h1 : f (sl 0 8) = u) (h2 : f (sl 8 6) = u) (h3 : f (sl 14 3) = u) (h4 : f (sl 17 7) = u) (h5 : f (sl 24 3) = u) (h6 : f (sl 27 8) = u) (h7 : f (sl 35 8) = u) (h8 : f (sl 43 7) = u) (h9 : f (sl 50 7) = u) (h10 : f (sl 57 7) = u) (h11 : f (sl 64 1) = u) : f pg.main.body = u := by
 rw [bd_, h, h, h, h, h, h, h, h, h, h, h1, h2, h3, h4, h5, h6, h7, h8, h9, h10, h11]
 simp only [z]
theorem n5 : Fast.tw8326940854005059898 { strict := false, foot := none, bare := [] } pg.main.body = true := by
 refine b9 (f := Fast.tw8326940854005059898 { strict := false, foot := none, bare := [] }) (o := fun a b => a && b) (EO _) rfl ?_ ?_ ?_ ?_ ?_ ?_ ?_ ?_ ?_ ?_ ?_ <;> decide +kernel
theorem nr5 {s : Bool} {f : Str → Bool} {x y z b} (es : s = false) (h1 : f x = false) (h2 : f y = false) (h3 : f z = false) (eb : b = pg.main.body) : Fast.tw8326940854005059898 { strict := s, foot := none, bare := R.filterR f [x, y, z] } b = true := by
 have e : R.filterR f [x, y, z] = [] := by
  rw [← R.filterR_eq, List.filter_cons_of_neg (h1 ▸ cD), List.filter_cons_of_neg (h2 ▸ cD), List.filter_cons_of_neg (h3 ▸ cD)]; rfl
 rw [es, eb, e]; exact n5
theorem okT : Challenge.rw_nn0384_01.wellSaid = true := by
 refine (congrFun PySem.W.Fast.te9446332074065402090 _).trans ?_
 delta Fast.tw9446332074065402090
 delta Fast.tw17960256430627541270
 try delta Fast.tw2436336058641802641
 try delta Fast.tw12908688711261696721
 repeat' with_reducible refine look_both ?_ ?_
 all_goals try with_reducible refine nr5 ?_ ?_ ?_ ?_ ?_
 all_goals first | decide +kernel | kernel_rfl
open TablesWhole in
theorem tb1 : wSs gather pg.main.scope ⟨pg.main.scope, [], [], [], none⟩ pg.main.scope pg.main.body = [] := by
 refine b9 (f := wSs gather _ _ _) (o := fun a b => a ++ b) (Bj d6 eM) rfl ?_ ?_ ?_ ?_ ?_ ?_ ?_ ?_ ?_ ?_ ?_ <;> rw [Fast.te16421684217811934046] <;> decide +kernel
open TablesWhole in
theorem tb2 : wSs holds pg.main.scope ⟨pg.main.scope, [], [], [], none⟩ pg.main.scope pg.main.body = true := by
 refine b9 (f := wSs holds _ _ _) (o := fun a b => a && b) (Bj Bool.and_assoc hJ) rfl ?_ ?_ ?_ ?_ ?_ ?_ ?_ ?_ ?_ ?_ ?_ <;> rw [Fast.te16421684217811934046] <;> decide +kernel
open TablesWhole in
theorem tb3 : noTwice pg.main.scope = true := (congrFun Fast.te8331962902438777018 _).trans (by kernel_rfl)
open TablesWhole in
theorem wm1 {m : PySem.Module} (e : wSs gather m.scope ⟨m.scope, [], [], [], none⟩ m.scope m.body = []) (n : noTwice m.scope = true) (b : wSs holds m.scope ⟨m.scope, [], [], [], none⟩ m.scope m.body = true) : wModule holds m = true := by
 unfold wModule
 rw [e]
 show (true && (noTwice m.scope && (wSs _ _ _ _ m.body && true))) = true
 rw [n, b]; rfl
theorem wm2 {p : Program} (e1 : p.modules = []) (e2 : p.parses = []) (e3 : p.harvested = []) (h : TablesWhole.wModule TablesWhole.holds p.main = true) : p.tablesWhole = true := by
 unfold Program.tablesWhole TablesWhole.wProgram
 rw [e1, e2, e3, h]; rfl
theorem tbW : pg.tablesWhole = true := wm2 rfl rfl rfl (wm1 tb1 tb3 tb2)
noncomputable def Hk : Hook := kHook KF (av 720) (fun _ => by kernel_rfl)
noncomputable def qv : Program := { pg with main := { pg.main with body := [D 64] } }
noncomputable def lo : List Str := ((mN.drop 8).take 59).map (·.1)
noncomputable abbrev rr := Challenge.rw_nn0384_01.row
noncomputable abbrev XT : Shared → Bool := fun s => xlAt qv [] s && recOk (RowW.records rr.toRowW) s
noncomputable abbrev Hf (P : Params) : Heap := absHeap (T9 P) 720 lf
theorem l1 (w : World) : staticsOk (importedModules pg.main.body) (eE w.params) (Hf w.params) = true := by kernel_rfl
theorem l2 (w : World) : namesBound pg (Hf w.params) = true := by kernel_rfl
theorem l4 (w : World) : laidKept (eE w.params) (Hf w.params) = true := by kernel_rfl
theorem rg (t : BT) (n : Nat) (life : Life) : (av n).map (absHeap t n life).get? = (av n).map fun i => alive ((t.get i).getD default) := by
 refine bQ fun i hi => ?_
 have h := aM.mp hi
 unfold Heap.get?
 rw [absHeap_at, if_pos h]
 generalize (t.get i).getD default = o
 obtain ⟨c, d, dt, s⟩ := o
 cases dt <;> rfl
theorem l5 (w : World) : (av 720).map (Hf w.params).get? = (KF w.params).map fun p => some p.2 := (rg _ _ _).trans (by kernel_rfl)
noncomputable abbrev Sf (w : World) (os : OsState) : Shared := ⟨Hf w.params, ir [], ⟨0, 0, 0, 0⟩, 1227, os⟩
theorem l6 (w : World) (os : OsState) : openSeen qv lo (importedModules pg.main.body) XT true (Sf w os) = openGood qv lo := by rw [Fast.te4187177175401517315]; kernel_rfl
noncomputable abbrev Bs : List Frame := [topFrame ⟨0, 0, 0, 0⟩]
theorem HK (w : World) (os : OsState) : topGo treeTable pg w 11 (some (.ref 6)) 12 ⟨eE w.params, ir [], boot_drawn, boot_toks, os⟩ (topStub pg) = some ((S0 w os).abs, ⟨denote treeTable cE, cE, ⟨0, 0, 0, 0⟩, Bs⟩) := by rw [Fast.te15667345088766844465, Fast.te11892475500146522536, bh]; kernel_rfl
theorem HL (w : World) (os : OsState) : segRun treeTable pg w 11 (some (.ref 6)) 1 1 (S0 w os).abs (blockOf (behindTheImports pg) ev cE ⟨0, 0, 0, 0⟩ Bs) = some (.next, (S0 w os).abs, cE, ⟨0, 0, 0, 0⟩) := by kernel_rfl
theorem HM (w : World) (s : Shared) : topRun treeTable pg w 11 (some (.ref 6)) 2 s ⟨doneF .next, cE, ⟨694, 0, 705, 15⟩, Bs⟩ = some s := by kernel_rfl
theorem HN (w : World) (os : OsState) : topRun treeTable pg w 11 (some (.ref 6)) 2 (S9 w os).abs ⟨doneF .next, cE, ⟨694, 0, 705, 15⟩, Bs⟩ = some (S9 w os).abs := HM w _
theorem F3 : behindTheImports pg = sl 0 8 ++ (sl 8 6 ++ (sl 14 3 ++ (sl 17 7 ++ (sl 24 3 ++ (sl 27 8 ++ (sl 35 8 ++ (sl 43 21 ++ (sl 64 1 ++ [])))))))) := by kernel_rfl
theorem HP (w : World) (os : OsState) : topRun treeTable pg w 11 (some (.ref 6)) (12 + (1 + (600 + (441 + (610 + (580 + (517 + (620 + (617 + (618 + (27 + 2))))))))))) ⟨eE w.params, ir [], boot_drawn, boot_toks, os⟩ (topStub pg) = some (S9 w os).abs :=
 go_top (HK w os) (piece_block (HL w os) (F3 ▸ dU (dW (g1 w os)) (dU (dW (g2 w os)) (dU (dW (g3 w os)) (dU (dW (g4 w os)) (dU (dW (g5 w os)) (dU (dW (g6 w os)) (dU (dW (g7 w os)) (dU (dW (g8 w os)) (dU (dW (g9 w os)) (piece_nil (HN w os))))))))))))
noncomputable abbrev NN : Nat := 9368
theorem F4 : ∀ w : World, (fencedOpening treeTable pg w NN).map (fun s => (s.heap, s.gens, s.drawn, s.toks)) = some (eE w.params, ir [], boot_drawn, boot_toks) := boot_open (by kernel_rfl) (by kernel_rfl) (fun s => by kernel_rfl)
theorem F5 : ∀ w : World, ((eE w.params).isNs mainGlobals && (ir [] : Array GenState).size == 0, (eE w.params).objs.size, (eE w.params).nsMap mainGlobals "__annotations__") = (true, 11, some (.ref 6)) := fun w => by kernel_rfl
theorem F6 : LeftO pg qv lo XT Hk.obs Hk.val NN := LeftO.of_pieces (H₁ := Hf) F4 F5 HP (by decide +kernel) fun w => funext fun os => by
 refine ga ?_ (ga (l6 w os) (l5 w))
 show (_ && _ && _ && _) = true
 rw [l1, l2, l4]; rfl
noncomputable def dL : DefRec := match D 64 with
 | .FunctionDef n a b _ _ _ sc _ _ ps => ⟨n, a, b, sc, ps⟩
 | _ => ⟨"", ⟨[], [], none, [], [], none, []⟩, [], pg.main.scope, ⟨0, 0, 0, 0⟩⟩
theorem head (call : WalkO qv lo (XL qv []) Hk.says rr.toRowW dL [] fun f vs => PySem.call f vs) : Challenge.rw_nn0384_01.Holds :=
 holds_law okT fun said => holds_open F6 Hk.of Hk.keeps (fun s e => xl_of s (cq.mp e).1) XL.keeps (by kernel_rfl) (by kernel_rfl) (by kernel_rfl) (fun s e => recFacts_of (cq.mp e).2) (by rfl) said (by decide +kernel) ⟨rfl, rfl, rfl, rfl, rfl, tbW⟩ (by w_witness2) call
local macro_rules | `(tactic| kd_p) => return zW "ms"
local macro_rules | `(tactic| kd_in) => return zW "upd"
local macro_rules | `(tactic| kd_mem) => return zW "mem"
local macro_rules | `(tactic| kd_all) => return zW "rhow"
local macro_rules | `(tactic| kd_p1) => return zW "m1"
local macro_rules | `(tactic| exists $t) => `(tactic| (refine $t; wtm_at "ms"))
noncomputable abbrev gb (x : Str) : Str × Bd := (x, .glb)
noncomputable abbrev lu (x : Str) : Str × Bd := (x, .loc false none)
noncomputable abbrev lc (x : Str) (v : PV) : Str × Bd := (x, .loc false (some v))
noncomputable abbrev cu (x : Str) : Str × Bd := (x, .loc true none)
noncomputable abbrev cc (x : Str) (v : PV) : Str × Bd := (x, .loc true (some v))
noncomputable abbrev fr (x : Str) (v : PV) : Str × Bd := (x, .fre v)
noncomputable def tS (K : Frag) (x : Str) : Option Value := match K.lookup 3 with
 | some ⟨_, _, .dict es _, _⟩ => (es.toList.find? (·.key.isStr x)).map (·.val)
 | _ => none
structure PW (W : Wd) : Prop where
 K : W.K = KF W.w.params
 mg : ∀ x, W.mg x = tS (KF W.w.params) x
theorem PW.fn {W : Wd} (P : PW W) {x : Str} {f : Addr} (h : tS (KF W.w.params) x = some (.ref f)) (hf : fnIn (KF W.w.params) f = true) : EB W x f :=
 ⟨(P.mg x).trans h, uG W.inK (by rw [P.K]; exact hf)⟩
theorem PW.at (P : PW W) {x : Str} {C : Addr} (h : W.mg x = some (.ref C)) {attr : Str} (ha : pZ (KF W.w.params) C attr = true) : nL W x attr := ⟨C, h, by rw [P.K]; exact ha⟩
theorem PW.me (P : PW W) {x : Str} {C f : Addr} (h : W.mg x = some (.ref C)) {attr : Str} (ha : uF (KF W.w.params) C attr f = true) : sH W x attr f := ⟨C, h, by rw [P.K]; exact ha⟩
section
variable {W : Wd} {n : Nat} {r : jt} {H : HH} {Q : CV}
noncomputable abbrev Bk (Q : CV) (a : Addr) : CV := fun p H => p = .none ∧ Q (.ref a) H
theorem Bl (P : PW W) : W.mg "Dfa" = some (.ref 125) := (P.mg _).trans (by kernel_rfl)
theorem Eb (P : PW W) {args p pos} (hm : gb "Dfa" ∈ r) (h : nT W n r H args (FO W n (.ref 125) Q)) (hs : autoParam (args.all jG = true) aR) : Ev W n r H (.Call (.Name "Dfa" p) args [] pos) Q := sG hm (Bl P) (by rw [P.K]; kernel_rfl) hs h (by kernel_rfl)
theorem C3 (P : PW W) {ps : List PV} (h : ∀ a, jZ W n ((a, .ins "Dfa" []) :: H) (.ref 89) (.ref a :: ps) (Bk Q a)) : jZ W (n + 1) H (.ref 125) ps Q := qo (Bl P) (by rw [P.K]; kernel_rfl) (by rw [P.K]; kernel_rfl) (by rw [P.K]; kernel_rfl) h
theorem y5 (P : PW W) : W.mg "Tables" = some (.ref 223) := (P.mg _).trans (by kernel_rfl)
theorem C4 (P : PW W) : W.mg "Comb" = some (.ref 301) := (P.mg _).trans (by kernel_rfl)
theorem Bm (P : PW W) {ps : List PV} (h : ∀ a, jZ W n ((a, .ins "Comb" []) :: H) (.ref 263) (.ref a :: ps) (Bk Q a)) : jZ W (n + 1) H (.ref 301) ps Q := qo (C4 P) (by rw [P.K]; kernel_rfl) (by rw [P.K]; kernel_rfl) (by rw [P.K]; kernel_rfl) h
theorem pQ (P : PW W) : W.mg "PackedRows" = some (.ref 379) := (P.mg _).trans (by kernel_rfl)
theorem uS (P : PW W) {args p pos} (hm : gb "PackedRows" ∈ r) (h : nT W n r H args (FO W n (.ref 379) Q)) (hs : autoParam (args.all jG = true) aR) : Ev W n r H (.Call (.Name "PackedRows" p) args [] pos) Q := sG hm (pQ P) (by rw [P.K]; kernel_rfl) hs h (by kernel_rfl)
theorem tb (P : PW W) {ps : List PV} (h : ∀ a, jZ W n ((a, .ins "PackedRows" []) :: H) (.ref 331) (.ref a :: ps) (Bk Q a)) : jZ W (n + 1) H (.ref 379) ps Q := qo (pQ P) (by rw [P.K]; kernel_rfl) (by rw [P.K]; kernel_rfl) (by rw [P.K]; kernel_rfl) h
theorem rX (P : PW W) : W.mg "PackedTables" = some (.ref 442) := (P.mg _).trans (by kernel_rfl)
theorem rd (P : PW W) {ps : List PV} (h : ∀ a, jZ W n ((a, .ins "PackedTables" []) :: H) (.ref 411) (.ref a :: ps) (Bk Q a)) : jZ W (n + 1) H (.ref 442) ps Q := qo (rX P) (by rw [P.K]; kernel_rfl) (by rw [P.K]; kernel_rfl) (by rw [P.K]; kernel_rfl) h
theorem uT (P : PW W) : W.mg "PackedDfa" = some (.ref 550) := (P.mg _).trans (by kernel_rfl)
theorem pR (P : PW W) {ps : List PV} (h : ∀ a, jZ W n ((a, .ins "PackedDfa" []) :: H) (.ref 504) (.ref a :: ps) (Bk Q a)) : jZ W (n + 1) H (.ref 550) ps Q := qo (uT P) (by rw [P.K]; kernel_rfl) (by rw [P.K]; kernel_rfl) (by rw [P.K]; kernel_rfl) h
theorem EP (P : PW W) : W.mg "abs" = none := (P.mg _).trans (by kernel_rfl)
theorem Ec (P : PW W) {args p pos} (hm : gb "abs" ∈ r) (h : nT W n r H args (xK W n (.builtin "abs") Q)) (hs : autoParam (args.all jG = true) aR) : Ev W n r H (.Call (.Name "abs" p) args [] pos) Q := nZ hm (EP P) (by kernel_rfl) hs h (by exact Aj (by kernel_rfl)) (by kernel_rfl)
theorem C5 (P : PW W) : W.mg "dict" = none := (P.mg _).trans (by kernel_rfl)
theorem td (P : PW W) {args p pos} (hm : gb "dict" ∈ r) (h : nT W n r H args (xK W n (.type "dict") Q)) (hs : autoParam (args.all jG = true) aR) : Ev W n r H (.Call (.Name "dict" p) args [] pos) Q := n0 hm (C5 P) (by kernel_rfl) hs h (by exact Aj (by kernel_rfl)) (by kernel_rfl)
theorem qz (P : PW W) : W.mg "enumerate" = none := (P.mg _).trans (by kernel_rfl)
theorem EQ (P : PW W) : W.mg "int" = none := (P.mg _).trans (by kernel_rfl)
theorem Ed (P : PW W) {args p pos} (hm : gb "int" ∈ r) (h : nT W n r H args (xK W n (.type "int") Q)) (hs : autoParam (args.all jG = true) aR) : Ev W n r H (.Call (.Name "int" p) args [] pos) Q := n0 hm (EQ P) (by kernel_rfl) hs h (by exact Aj (by kernel_rfl)) (by kernel_rfl)
theorem ER (P : PW W) : W.mg "len" = none := (P.mg _).trans (by kernel_rfl)
theorem vQ (P : PW W) {args p pos} (hm : gb "len" ∈ r) (h : nT W n r H args (xK W n (.builtin "len") Q)) (hs : autoParam (args.all jG = true) aR) : Ev W n r H (.Call (.Name "len" p) args [] pos) Q := nZ hm (ER P) (by kernel_rfl) hs h (by exact Aj (by kernel_rfl)) (by kernel_rfl)
theorem C6 (P : PW W) : W.mg "list" = none := (P.mg _).trans (by kernel_rfl)
theorem wO (P : PW W) {args p pos} (hm : gb "list" ∈ r) (h : nT W n r H args (xK W n (.type "list") Q)) (hs : autoParam (args.all jG = true) aR) : Ev W n r H (.Call (.Name "list" p) args [] pos) Q := n0 hm (C6 P) (by kernel_rfl) hs h (by exact Aj (by kernel_rfl)) (by kernel_rfl)
theorem ES (P : PW W) : W.mg "max" = none := (P.mg _).trans (by kernel_rfl)
theorem vR (P : PW W) {args p pos} (hm : gb "max" ∈ r) (h : nT W n r H args (xK W n (.builtin "max") Q)) (hs : autoParam (args.all jG = true) aR) : Ev W n r H (.Call (.Name "max" p) args [] pos) Q := nZ hm (ES P) (by kernel_rfl) hs h (by exact Aj (by kernel_rfl)) (by kernel_rfl)
theorem ET (P : PW W) : W.mg "min" = none := (P.mg _).trans (by kernel_rfl)
theorem vS (P : PW W) {args p pos} (hm : gb "min" ∈ r) (h : nT W n r H args (xK W n (.builtin "min") Q)) (hs : autoParam (args.all jG = true) aR) : Ev W n r H (.Call (.Name "min" p) args [] pos) Q := nZ hm (ET P) (by kernel_rfl) hs h (by exact Aj (by kernel_rfl)) (by kernel_rfl)
theorem Bn (P : PW W) : W.mg "range" = none := (P.mg _).trans (by kernel_rfl)
theorem uU (P : PW W) {args p pos} (hm : gb "range" ∈ r) (h : nT W n r H args (xK W n (.type "range") Q)) (hs : autoParam (args.all jG = true) aR) : Ev W n r H (.Call (.Name "range" p) args [] pos) Q := n0 hm (Bn P) (by kernel_rfl) hs h (by exact Aj (by kernel_rfl)) (by kernel_rfl)
theorem y6 (P : PW W) : W.mg "sorted" = none := (P.mg _).trans (by kernel_rfl)
theorem lv (P : PW W) {args p pos} (hm : gb "sorted" ∈ r) (h : nT W n r H args (xK W n (.builtin "sorted") Q)) (hs : autoParam (args.all jG = true) aR) : Ev W n r H (.Call (.Name "sorted" p) args [] pos) Q := nZ hm (y6 P) (by kernel_rfl) hs h (by exact Aj (by kernel_rfl)) (by kernel_rfl)
theorem EU (P : PW W) : W.mg "str" = none := (P.mg _).trans (by kernel_rfl)
theorem F7 (P : PW W) {args p pos} (hm : gb "str" ∈ r) (h : nT W n r H args (xK W n (.type "str") Q)) (hs : autoParam (args.all jG = true) aR) : Ev W n r H (.Call (.Name "str" p) args [] pos) Q := n0 hm (EU P) (by kernel_rfl) hs h (by exact Aj (by kernel_rfl)) (by kernel_rfl)
theorem EV (P : PW W) : W.mg "sum" = none := (P.mg _).trans (by kernel_rfl)
theorem Bo (P : PW W) {args p pos} (hm : gb "sum" ∈ r) (h : nT W n r H args (xK W n (.builtin "sum") Q)) (hs : autoParam (args.all jG = true) aR) : Ev W n r H (.Call (.Name "sum" p) args [] pos) Q := nZ hm (EV P) (by kernel_rfl) hs h (by exact Aj (by kernel_rfl)) (by kernel_rfl)
theorem Bp (P : PW W) : W.mg "tuple" = none := (P.mg _).trans (by kernel_rfl)
theorem sk (P : PW W) {args p pos} (hm : gb "tuple" ∈ r) (h : nT W n r H args (xK W n (.type "tuple") Q)) (hs : autoParam (args.all jG = true) aR) : Ev W n r H (.Call (.Name "tuple" p) args [] pos) Q := n0 hm (Bp P) (by kernel_rfl) hs h (by exact Aj (by kernel_rfl)) (by kernel_rfl)
end
section
variable {W : Wd} {n : Nat} {r : jt} {H : HH}
noncomputable def j6 {β : Type} (x : Str) : List (Str × β) → Option β
 | [] => none
 | (y, b) :: r => match cH x y with
  | true => some b
  | false => j6 x r
theorem jF {β : Type} {x : Str} {b : β} : ∀ {r : List (Str × β)}, j6 x r = some b → (x, b) ∈ r := fun {r} => by
 induction r with
 | nil => exact fun h => nomatch h
 | cons p r ih =>
  intro h
  have h : (match cH x p.1 with | true => some p.2 | false => j6 x r) = some b := h
  cases e : cH x p.1 with
  | true => rw [e] at h; cases h; cases cG.mp e; exact .head _
  | false => rw [e] at h; exact .tail _ (ih h)
noncomputable def mkE (x : Str) (k : NameKind) (bs : List (Str × PV)) (r : jt) : Option jt := match k with
 | .globalImplicit => some ((x, .glb) :: r)
 | .local => match j6 x bs with
  | some p => some ((x, .loc false (some p)) :: r)
  | none => some ((x, .loc false none) :: r)
 | .cell => match j6 x bs with
  | some p => some ((x, .loc true (some p)) :: r)
  | none => some ((x, .loc true none) :: r)
 | _ => none
noncomputable def EW : List (Str × NameKind) → List (Str × PV) → Option jt
 | [], _ => some []
 | (x, k) :: ns, bs => match EW ns bs with
  | some r => mkE x k bs r
  | none => none
theorem wP {bs : List (Str × PV)} : ∀ {ns : List (Str × NameKind)} {r : jt}, EW ns bs = some r → lW ns bs r := fun {ns} => by
 induction ns with
 | nil => intro r h; cases h; exact .nil
 | cons p ns ih =>
  obtain ⟨x, k⟩ := p
  intro r h
  have h : (match EW ns bs with | some r => mkE x k bs r | none => none) = some r := h
  cases e : EW ns bs with
  | none => rw [e] at h; cases h
  | some q =>
   rw [e] at h
   have := ih e
   cases k with
   | globalImplicit => cases h; exact .glb this
   | «local» =>
    have h : (match j6 x bs with | some p => some ((x, Bd.loc false (some p)) :: q) | none => some ((x, Bd.loc false none) :: q)) = some r := h
    cases z : j6 x bs <;> rw [z] at h <;> cases h
    ·exact .locL this
    ·exact .parL (jF z) this
   | cell =>
    have h : (match j6 x bs with | some p => some ((x, Bd.loc true (some p)) :: q) | none => some ((x, Bd.loc true none) :: q)) = some r := h
    cases z : j6 x bs <;> rw [z] at h <;> cases h
    ·exact .locC this
    ·exact .parC (jF z) this
   | _ => cases h
theorem F8 {Q : CV} {f : Addr} {name qual : Str} {ps : List Arg} {es : List Expr} {body : List Stmt} {scope : Scope} {kV doc pm cdv ct oc : Value} {an od : Option Addr} {osl : Array (Option Value)} {pvs : List PV} {r0 : jt} {K : Frag} (hK : W.K = K)
  (ho : K.lookup f = some ⟨oc, od, .func (fnX name qual ⟨[], ps, none, [], [], none, es⟩ body scope [] .none kV doc pm an cdv ct), osl⟩)
  (hk : scope.kind = .function) (hco : scope.isCoroutine = false) (hgen : scope.isGenerator = false) (hcd : codeIn K cdv qual = true)
  (hn : (ps.map (·.arg)).Nodup) (hnn : (scope.names.map ai).Nodup) (hkd : ((ps.map (·.arg)).all fun y => scope.names.lookup y == some .local || scope.names.lookup y == some .cell) = true)
  (hl : pvs.length = ps.length) (hr0 : EW scope.names ((ps.map (·.arg)).zip pvs) = some r0) (h : lm W n r0 H body (vA Q)) :
  jZ W (n + 1) H (.ref f) pvs Q := AM (by rw [hK]; exact ho) (by rw [hK]; exact hcd) hn hnn hkd hl (wP hr0) h hk hco hgen
theorem jC.pos {c : Prop} [Decidable c] {P P' : Prop} (hc : c) (h : P) : jC (decide c) P P' := jC.dec (fun _ => h) fun h' => absurd hc h'
theorem jC.neg {c : Prop} [Decidable c] {P P' : Prop} (hc : ¬ c) (h : P') : jC (decide c) P P' := jC.dec (fun h' => absurd h' hc) fun _ => h
theorem mG.drop {W r r' H} (w : mH [] r r') : mG W r H r' H := mG.frz jK.none w mV.refl
theorem EX {α : Type} {x y : α} {l : List α} (h : x ∈ l) : x ∈ y :: l := .tail _ h
theorem szL {α : Type} {l : List α} (h : l.length ≤ 64) : l.length ≤ sizeLine := bj h (by decide)
theorem F9 {Q : CV} {x pos c} {v : PV} (hm : (x, Bd.loc c (some v)) ∈ r) (h : Q v H) (hd : autoParam ((x == ("__debug__" : Str)) = false) aK) : Ev W n r H (.Name x pos) Q := Az hm h hd
theorem Ga {Q : CV} {x pos} {v : PV} (hm : (x, Bd.fre v) ∈ r) (h : Q v H) (hd : autoParam ((x == ("__debug__" : Str)) = false) aK) (hn : autoParam ((x == ("__classdict__" : Str)) = false) aK) : Ev W n r H (.Name x pos) Q := AA hm h hd hn
noncomputable abbrev HQ (W : Wd) (n : Nat) (f : Value) (p : PV) (Q : CV) : CL := fun ps H => mP W n H (fun vs => call f vs) (p :: ps) Q
noncomputable abbrev HS (W : Wd) (n : Nat) (r : jt) (T : String) (f : Value) (args : List Expr) (Q : CV) : CV := fun p H => sM W H T p ∧ nT W n r H args (HQ W n f p Q)
noncomputable abbrev HT (W : Wd) (n : Nat) (f : Addr) (p : PV) (Q : CV) : CL := fun ps H => jZ W n H (.ref f) (p :: ps) Q
noncomputable abbrev HU (W : Wd) (n : Nat) (r : jt) (args : List Expr) (p : PV) (H : HH) (Q : CV) : Addr → Prop := fun f => nT W n r H args (HT W n f p Q)
noncomputable abbrev kMt (W : Wd) (n : Nat) (r : jt) (name : Str) (args : List Expr) (Q : CV) : CV := fun p H => oV W H p name (HU W n r args p H Q)
noncomputable abbrev HV (Q : CV) (H : HH) : PV → Prop := fun v => Q v H
noncomputable abbrev kAt (W : Wd) (a : Str) (Q : CV) : CV := fun p H => rF W H p a (HV Q H)
theorem lb {Q : CV} {o apos pos} {args : List Expr}
  (h : Ev W n r H o (HS W n r "list" (.builtin "list.append") args Q)) (hl : autoParam ((apos.endLine == pos.line) = true) aR) (hb : autoParam (k6 o = true) aR) (hs : autoParam (args.all jG = true) aR) (hn : autoParam (args.length < 29) aE) : Ev W n r H (.Call (.Attribute o "append" apos) args [] pos) Q :=
 sN "list" "list.append" iu slot_list_append F.type_list_append hb hl hs hn h
theorem x4 {Q : CV} {o apos pos} {args : List Expr}
  (h : Ev W n r H o (HS W n r "list" (.builtin "list.count") args Q)) (hl : autoParam ((apos.endLine == pos.line) = true) aR) (hb : autoParam (k6 o = true) aR) (hs : autoParam (args.all jG = true) aR) (hn : autoParam (args.length < 29) aE) : Ev W n r H (.Call (.Attribute o "count" apos) args [] pos) Q :=
 sN "list" "list.count" iu F.slot_list_count F.type_list_count hb hl hs hn h
theorem x_get {Q : CV} {o apos pos} {args : List Expr}
  (h : Ev W n r H o (HS W n r "dict" (.builtin "dict.get") args Q)) (hl : autoParam ((apos.endLine == pos.line) = true) aR) (hb : autoParam (k6 o = true) aR) (hs : autoParam (args.all jG = true) aR) (hn : autoParam (args.length < 29) aE) : Ev W n r H (.Call (.Attribute o "get" apos) args [] pos) Q :=
 sN "dict" "dict.get" F.plainAttrs_dict gw F.type_dict_get hb hl hs hn h
theorem nA.snoc {S : HH} : ∀ {xs : List PV} {p q}, pA S p q → nA S (xs ++ [p]) (xs ++ [q])
 | [], _, _, h => .cons h .refl
 | _ :: xs, _, _, h => .cons .refl (nA.snoc (xs := xs) h)
theorem jK.one {H : HH} {e} : jK (e :: H) H [e] := .r .none
theorem jK.two {H : HH} {e f} : jK (e :: f :: H) H [e, f] := .r (.r .none)
theorem jK.three {H : HH} {e f g} : jK (e :: f :: g :: H) H [e, f, g] := .r (.r (.r .none))
theorem jK.four {H : HH} {e f g i} : jK (e :: f :: g :: i :: H) H [e, f, g, i] := .r (.r (.r (.r .none)))
inductive ZP (p : PV) (H1 : HH) (K : CL) : Prop
 | mk (a : Addr) (xs : List PV) (H0 : HH) (e : p = .ref a) (e1 : H1 = (a, .lst xs) :: H0) (q : K xs H0)
inductive ZDP (p : PV) (H1 : HH) (K : List (PV × PV) → HH → Prop) : Prop
 | mk (a : Addr) (xs : List (PV × PV)) (H0 : HH) (e : p = .ref a) (e1 : H1 = (a, .dct xs) :: H0) (q : K xs H0)
inductive GcP (H1 : HH) (K : HH → Prop) : Prop
 | mk (H2 S : HH) (sp : jK H1 H2 S) (q : K H2)
noncomputable abbrev kZ2 (Q : CV) : CL := fun xs H => Q (.lst xs) H
noncomputable abbrev kZ (Q : CV) : CV := fun p H => ZP p H (kZ2 Q)
noncomputable abbrev HW (Q : CV) : List (PV × PV) → HH → Prop := fun xs H => Q (.dct xs) H
noncomputable abbrev kZd (Q : CV) : CV := fun p H => ZDP p H (HW Q)
noncomputable abbrev kGc (Q : CV) : CV := fun p H => GcP H (Q p)
theorem li {Q : CV} {e} (h : Ev W n r H e (kZ Q)) : Ev W n r H e Q :=
 Ev.frz (h.mono fun p H1 h => by obtain ⟨a, xs, H0, rfl, rfl, q⟩ := h; exact ⟨_, _, _, _, .one, .lst (.head _) .refl, mV.refl, q⟩)
theorem vT {Q : CV} {e} (h : Ev W n r H e (kZd Q)) : Ev W n r H e Q :=
 Ev.frz (h.mono fun p H1 h => by obtain ⟨a, xs, H0, rfl, rfl, q⟩ := h; exact ⟨_, _, _, _, .one, .dct (.head _) .refl, mV.refl, q⟩)
theorem kR {Q : CV} {e} (h : Ev W n r H e (kGc Q)) : Ev W n r H e Q :=
 Ev.frz (h.mono fun p H1 h => by obtain ⟨K, S, sp, q⟩ := h; exact ⟨K, S, K, p, sp, .refl, mV.refl, q⟩)
theorem Bq {Q : jJ} {c K S} (sp : jK H K S) (h : lm W n r K c Q) : lm W n r H c Q := mI (mG.frz sp mH.refl mV.refl) h
noncomputable abbrev HX {α : Type} (W : Wd) (n : Nat) (r : jt) (elt : Expr) (x : Str) (scope : Scope) (φ : α → PV) (Q : CV) : CL := fun xs H => yW W n r elt x scope φ (fun L => Q (.lst (L.map φ)) H) xs H
noncomputable abbrev HY {α : Type} (W : Wd) (n : Nat) (r : jt) (elt : Expr) (x : Str) (c : Expr) (scope : Scope) (p : α → Bool) (φ : α → PV) (Q : CV) : CL := fun xs H => ub W n r elt x c scope p φ (fun L => Q (.lst ((L.filter p).map φ)) H) xs H
noncomputable abbrev Gb {α : Type} (W : Wd) (n : Nat) (r : jt) (elt : Expr) (x : Str) (scope : Scope) (φ : α → PV) (t : Str) (Q : jJ) : CL := fun xs H => yW W n r elt x scope φ (fun L => lL t (.lst (L.map φ)) r (Hs Q H)) xs H
noncomputable abbrev Gc {α : Type} (W : Wd) (n : Nat) (r : jt) (elt : Expr) (x : Str) (c : Expr) (scope : Scope) (p : α → Bool) (φ : α → PV) (t : Str) (Q : jJ) : CL := fun xs H => ub W n r elt x c scope p φ (fun L => lL t (.lst ((L.filter p).map φ)) r (Hs Q H)) xs H
theorem ku {Q : CV} {α : Type} {elt iter : Expr} {x : Str} {px pos : Pos} {scope : Scope} (φ : α → PV) (hcap : ∃ cr, k9 r scope.names cr)
  (h : tP W false n r H iter (HX W n r elt x scope φ Q))
  (hk : autoParam (scope.kind = .function) aF) (hn : autoParam ((scope.names.map ai).Nodup) aN) (hs : autoParam (∀ env x, foldedSetIterable iter env x = pure x) aI) :
  Ev W n r H (.ListComp elt [⟨.Name x px, iter, [], 0⟩] scope pos) Q :=
 li (qr hcap (sR φ (h.mono fun xs H1 h1 => h1.mono fun L q D => ⟨D, _, _, rfl, rfl, q⟩)) hk hn hs)
theorem lj {Q : CV} {α : Type} {elt iter c : Expr} {x : Str} {px pos : Pos} {scope : Scope} (p : α → Bool) (φ : α → PV) (hcap : ∃ cr, k9 r scope.names cr)
  (h : tP W false n r H iter (HY W n r elt x c scope p φ Q))
  (hk : autoParam (scope.kind = .function) aF) (hn : autoParam ((scope.names.map ai).Nodup) aN) (hs : autoParam (∀ env x, foldedSetIterable iter env x = pure x) aI) :
  Ev W n r H (.ListComp elt [⟨.Name x px, iter, [c], 0⟩] scope pos) Q :=
 li (qr hcap (rH p φ (h.mono fun xs H1 h1 => h1.mono fun L q D => ⟨D, _, _, rfl, rfl, q⟩)) hk hn hs)
inductive qA (x : Str) (v w : PV) : jt → jt → jt → Prop
 | head {c o r} : qA x v w ((x, .loc c o) :: r) ((x, .loc c (some v)) :: r) ((x, .loc c (some w)) :: r)
 | tail {p r r' r''} : qA x v w r r' r'' → qA x v w (p :: r) (p :: r') (p :: r'')
theorem lp.two {x v w} {r r'' : jt} (h : lp x w r r'') : ∃ r', qA x v w r r' r'' := by
 induction h with
 | head => exact ⟨_, .head⟩
 | tail _ ih => obtain ⟨_, q⟩ := ih; exact ⟨_, .tail q⟩
theorem qA.fst {x v w} {r r' r'' : jt} (h : qA x v w r r' r'') : lp x v r r' := by
 induction h with
 | head => exact .head
 | tail _ ih => exact .tail ih
theorem qA.rhow {x v w S} (hv : pA S v w) {r r' r'' : jt} (h : qA x v w r r' r'') : mH S r' r'' := by
 induction h with
 | head => exact .rfy hv mH.refl
 | tail _ ih => exact .same ih
inductive Gd (t : Str) (r : jt) (Q : jJ) (fl : Fl) (r' : jt) (H1 : HH) : Prop
 | mk (e : fl = .next) (D : Addr) (ys : List PV) (H' : HH) (r'' : jt) (U : qA t (.ref D) (.lst ys) r r' r'') (e1 : H1 = (D, .lst ys) :: H') (q : Q .next r'' H')
theorem uV {t pt spos elt gens scope pos} {Q : jJ} (h : ∀ Q' : jJ, (∀ D ys H' r'' , lp t (.lst ys) r r'' → Q .next r'' H' → lL t (.ref D) r fun r' => Q' .next r' ((D, .lst ys) :: H')) → Ex W n r H (.Assign [.Name t pt] (.ListComp elt gens scope pos) spos) Q') :
  Ex W n r H (.Assign [.Name t pt] (.ListComp elt gens scope pos) spos) Q :=
 CJ (h (Gd t r Q) fun D ys H' r'' U q => by
   obtain ⟨r', U2⟩ := U.two (v := .ref D)
   exact ⟨r', U2.fst, rfl, D, ys, H', r'', U2, rfl, q⟩)
  fun fl r' H1 h => by
   obtain ⟨rfl, D, ys, H', r'', U2, rfl, q⟩ := h
   exact .inr ⟨.inl rfl, r'', H', mG.frz .one (U2.rhow (.lst (.head _) .refl)) mV.refl, q⟩
theorem lB {t pt spos} {Q : jJ} {α : Type} {elt iter : Expr} {x : Str} {px pos : Pos} {scope : Scope} (φ : α → PV) (hcap : ∃ cr, k9 r scope.names cr)
  (h : tP W false n r H iter (Gb W n r elt x scope φ t Q))
  (hk : autoParam (scope.kind = .function) aF) (hn : autoParam ((scope.names.map ai).Nodup) aN) (hs : autoParam (∀ env x, foldedSetIterable iter env x = pure x) aI) :
  Ex W n r H (.Assign [.Name t pt] (.ListComp elt [⟨.Name x px, iter, [], 0⟩] scope pos) spos) Q :=
 uV fun Q' hQ => nc hcap (sR φ (h.mono fun xs H1 h1 => h1.mono fun L q D => by obtain ⟨r', b5, b6⟩ := q; exact hQ D _ _ r' b5 b6)) hk hn hs
theorem C7 {t pt spos} {Q : jJ} {α : Type} {elt iter c : Expr} {x : Str} {px pos : Pos} {scope : Scope} (p : α → Bool) (φ : α → PV) (hcap : ∃ cr, k9 r scope.names cr)
  (h : tP W false n r H iter (Gc W n r elt x c scope p φ t Q))
  (hk : autoParam (scope.kind = .function) aF) (hn : autoParam ((scope.names.map ai).Nodup) aN) (hs : autoParam (∀ env x, foldedSetIterable iter env x = pure x) aI) :
  Ex W n r H (.Assign [.Name t pt] (.ListComp elt [⟨.Name x px, iter, [c], 0⟩] scope pos) spos) Q :=
 uV fun Q' hQ => nc hcap (rH p φ (h.mono fun xs H1 h1 => h1.mono fun L q D => by obtain ⟨r', b5, b6⟩ := q; exact hQ D _ _ r' b5 b6)) hk hn hs
theorem jx.nx {Inv : CR} {Q : jJ} {r3 r4 H3} (w : mH [] r3 r4) (h : Inv r4 H3) : jx W Inv Q .next r3 H3 := ⟨r4, H3, mG.drop w, h⟩
theorem jx.ct {Inv : CR} {Q : jJ} {r3 r4 H3} (w : mH [] r3 r4) (h : Inv r4 H3) : jx W Inv Q .cont r3 H3 := ⟨r4, H3, mG.drop w, h⟩
theorem jx.fz {Inv : CR} {Q : jJ} {r3 r4 H3 K S K'} (sp : jK H3 K S) (w : mH S r3 r4) (k : mV S K K') (h : Inv r4 K') : jx W Inv Q .next r3 H3 := ⟨r4, K', mG.frz sp w k, h⟩
inductive Ee (p : PV) (K : Bool → Prop) : Prop
 | mk (b : Bool) (e : p = .bool b) (k : K b)
theorem uW {Q : CV} {x y rest pos} (h : Ev W n r H x fun p H1 => Ee p fun b => jC b (Ev W n r H1 (.BoolOp .And (y :: rest) pos) Q) (Q (.bool false) H1)) : Ev W n r H (.BoolOp .And (x :: y :: rest) pos) Q := fun A env fa G s R hr f => by
 refine BoolOp_and (ay (h A env fa G s R hr f) (fun v s1 h1 => ?_) fun _ _ x => x)
 obtain ⟨G1, p, H1, e1, r1, v1, ⟨b, rfl, q⟩⟩ := h1
 have : v = .bool b := by exact v1
 subst this
 refine cR ?_
 cases b with
 | false => exact ⟨G1, _, H1, e1, r1, v1, q.2 rfl⟩
 | true => exact ay (q.1 rfl A env fa G1 s1 R r1 (f.ext e1)) (fun v s4 h4 => h4.trans e1) fun _ _ x => x
theorem Br {Q : CV} {x y rest pos} (h : Ev W n r H x fun p H1 => Ee p fun b => jC b (Q (.bool true) H1) (Ev W n r H1 (.BoolOp .Or (y :: rest) pos) Q)) : Ev W n r H (.BoolOp .Or (x :: y :: rest) pos) Q := fun A env fa G s R hr f => by
 refine BoolOp_or (ay (h A env fa G s R hr f) (fun v s1 h1 => ?_) fun _ _ x => x)
 obtain ⟨G1, p, H1, e1, r1, v1, ⟨b, rfl, q⟩⟩ := h1
 have : v = .bool b := by exact v1
 subst this
 refine cR ?_
 cases b with
 | true => exact ⟨G1, _, H1, e1, r1, v1, q.1 rfl⟩
 | false => exact ay (q.2 rfl A env fa G1 s1 R r1 (f.ext e1)) (fun v s4 h4 => h4.trans e1) fun _ _ x => x
theorem Bt {Q : CV} {op x pos} (h : Ev W n r H x Q) : Ev W n r H (.BoolOp op [x] pos) Q := fun A env fa G s R hr f => BoolOp_one (h A env fa G s R hr f)
inductive HZ (p : PV) (K : Int → Int → Prop) : Prop
 | mk (lo hi : Int) (e : p = .rng lo hi) (b : -(2 ^ 62) ≤ lo ∧ lo < 2 ^ 62 ∧ -(2 ^ 62) ≤ hi ∧ hi < 2 ^ 62) (k : K lo hi)
inductive Ge (p : PV) (K : Nat → Prop) : Prop
 | mk (hi : Nat) (e : p = .rng 0 hi) (b : hi < 2 ^ 62) (k : K hi)
inductive H8 (p : PV) (K : List PV → Prop) : Prop
 | mk (xs : List PV) (e : p = .lst xs) (k : K xs)
inductive Ia (p : PV) (K : List PV → Prop) : Prop
 | mk (xs : List PV) (e : p = .tup xs) (k : K xs)
inductive Ib {α : Type} (f : α → PV) (p : PV) (K : List (Int × α) → Prop) : Prop
 | mk (d : List (Int × α)) (e : p = .dct (Dk f d)) (k : K d)
noncomputable abbrev Ic (Q : CL) (H : HH) : Int → Int → Prop := fun lo hi => Q ((tQ lo hi).map .int) H
noncomputable abbrev kIr (Q : CL) : CV := fun p H => HZ p (Ic Q H)
noncomputable abbrev Id (Q : CL) (H : HH) : Nat → Prop := fun hi => Q ((av hi).map fun (i : Nat) => PV.int i) H
noncomputable abbrev kIn (Q : CL) : CV := fun p H => Ge p (Id Q H)
noncomputable abbrev Gf (Q : CL) (H : HH) : List PV → Prop := fun xs => Q xs H
noncomputable abbrev kIl (Q : CL) : CV := fun p H => H8 p (Gf Q H)
noncomputable abbrev kIt (Q : CL) : CV := fun p H => Ia p (Gf Q H)
noncomputable abbrev Ie {α : Type} (Q : CL) (H : HH) : List (Int × α) → Prop := fun d => Q (d.map fun p => .int p.1) H
noncomputable abbrev kId {α : Type} (f : α → PV) (Q : CL) : CV := fun p H => Ib f p (Ie Q H)
theorem te {e} {Q : CL} (h : Ev W n r H e (kIr Q)) : tP W false n r H e Q :=
 uJ (h.mono fun p H1 h => by obtain ⟨lo, hi, rfl, hb, q⟩ := h; exact CO hb.1 hb.2.1 hb.2.2.1 hb.2.2.2 q)
theorem jO {e} {Q : CL} (h : Ev W n r H e (kIn Q)) : tP W false n r H e Q :=
 te (h.mono fun p H1 h => by
  obtain ⟨hi, rfl, hb, q⟩ := h
  refine ⟨0, hi, rfl, ⟨by decide, by decide, by exact J3 18, by exact J14 0 hb⟩, ?_⟩
  have : (tQ 0 (hi : Int)).map PV.int = (av hi).map fun (i : Nat) => PV.int i := by
   unfold tQ; simp [aX, Function.comp_def]
  show Q _ _
  rw [this]; exact q)
theorem jP {e} {Q : CL} (h : Ev W n r H e (kIl Q)) : tP W false n r H e Q :=
 uJ (h.mono fun p H1 h => by obtain ⟨xs, rfl, q⟩ := h; exact CM q)
theorem tf {e} {Q : CL} (h : Ev W n r H e (kIt Q)) : tP W false n r H e Q :=
 uJ (h.mono fun p H1 h => by obtain ⟨xs, rfl, q⟩ := h; exact CN q)
theorem wQ {α : Type} {f : α → PV} {e} {Q : CL} (h : Ev W n r H e (kId f Q)) : tP W false n r H e Q :=
 uJ (h.mono fun p H1 h => by obtain ⟨d, rfl, q⟩ := h; exact CP q)
inductive Gg (W : Wd) (n : Nat) (r : jt) (x : Str) (body : List Stmt) (Q : jJ) (p : PV) (H1 : HH) : Prop
 | mk (hi : Nat) (e : p = .rng 0 hi) (b : hi < 2 ^ 62) (I : IT jt) (i0 : Of (I 0) r H1)
   (step : ∀ i, i < hi → I i (CK W n x (.int (i : Nat)) body (jx W (Of (I (i + 1))) Q))) (fin : I hi (Q .next))
inductive Ef (W : Wd) (n : Nat) (r : jt) (x : Str) (body : List Stmt) (Q : jJ) (α : Type) (ct : List PV → PV) (p : PV) (H1 : HH) : Prop
 | mk (L : List α) (g : α → PV) (e : p = ct (L.map g)) (I : IT jt) (i0 : Of (I 0) r H1)
   (step : ∀ i a, L[i]? = some a → I i (CK W n x (g a) body (jx W (Of (I (i + 1))) Q))) (fin : I L.length (Q .next))
theorem jI {x px iter body pos} {Q : jJ} (h : Ev W n r H iter (Gg W n r x body Q))
  (hs : autoParam (∀ env x, foldedSetIterable iter env x = pure x) aI) : Ex W n r H (.For (.Name x px) iter body [] pos) Q :=
 m9 (tt := false) (fun h => nomatch h) (jO (h.mono fun p H1 h => by
  obtain ⟨hi, e, hb, I, h0, step, done⟩ := h
  exact ⟨hi, e, hb, fun i => Of (I i), h0, fun i x' r' H' hx hI => by
  rw [ax] at hx
  obtain ⟨y, hy, rfl⟩ := bc.mp hx
  obtain ⟨hi', hy⟩ := aA.mp hy
  rw [bL] at hy
  subst hy
  rw [aq] at hi'
  obtain ⟨r2, U, E⟩ := hI _ (step i hi')
  exact m8 U E, fun r' H' hI => by rw [aa, aq] at hI; exact hI _ done⟩)) hs
theorem mZ {α : Type} {x px iter body pos} {Q : jJ} (h : Ev W n r H iter (Ef W n r x body Q α .lst))
  (hs : autoParam (∀ env x, foldedSetIterable iter env x = pure x) aI) : Ex W n r H (.For (.Name x px) iter body [] pos) Q :=
 m9 (tt := false) (fun h => nomatch h) (jP (h.mono fun p H1 h => by
  obtain ⟨L, g, e, I, h0, step, done⟩ := h
  exact ⟨_, e, fun i => Of (I i), h0, fun i x' r' H' hx hI => by
  rw [ax] at hx
  obtain ⟨y, hy, rfl⟩ := bc.mp hx
  obtain ⟨r2, U, E⟩ := hI _ (step i y hy)
  exact m8 U E, fun r' H' hI => by rw [aa] at hI; exact hI _ done⟩)) hs
noncomputable abbrev kWh (W : Wd) (n : Nat) (test : Expr) (body : List Stmt) (I : IT jt) (k : Nat) (Q : jJ) : CR := fun r H => Tv W n r H test fun b H1 => jC b (lm W n r H1 body (jx W (AU (fun i => Of (I i)) k) Q)) (Q .next r H1)
theorem lE {test body pos} {Q : jJ} (I : IT jt) (m : Nat) (h0 : Of (I m) r H) (step : ∀ k, I k (kWh W n test body I k Q)) : Ex W n r H (.While test body [] pos) Q :=
 AV (fun i => Of (I i)) m h0 fun k r' H' h => h _ (step k)
noncomputable abbrev Gi (W : Wd) (n : Nat) (tgt : Expr) (v : PV) (c : List Stmt) (Q : jJ) : CR := fun r H => Ft W n tgt v r H fun r2 H2 => lm W n r2 H2 c Q
theorem uK.T {tgt : Expr} {body : List Stmt} {Q : jJ} {xs : List PV} (I : IT jt) (i0 : Of (I 0) r H) (step : ∀ i v, xs[i]? = some v → I i (Gi W n tgt v body (jx W (Of (I (i + 1))) Q))) (fin : I xs.length (Q .next)) : uK W n r tgt body Q xs H :=
 ⟨fun i => Of (I i), i0, fun i v _ _ hx h => h _ (step i v hx), fun _ _ h => h _ fin⟩
inductive vU (name : Str) (v : PV) : List (Str × PV) → List (Str × PV) → Prop
 | nil : vU name v [] [(name, v)]
 | cons {p fs fs'} : vU name v fs fs' → vU name v (p :: fs) (p :: fs')
theorem vU.eq {name v fs fs'} (h : vU name v fs fs') : fs' = fs ++ [(name, v)] := by
 induction h with
 | nil => rfl
 | cons _ ih => rw [ih]; rfl
theorem Bu {a : Addr} {c : Str} {fs fs' : List (Str × PV)} {attr : Str} {v : PV} {H' : HH} {P : HH → Prop} (U : kQ a (.ins c fs) (.ins c fs') H H') (V : vU attr v fs fs') (hc : (fs.map ai).contains attr = false) (ha : nL W c attr) (hz : fs.length ≤ 1000) (h : P H') : vu W n H (.ref a) attr v P := by
 have := V.eq
 subst this
 exact AQ U (fun q => by rw [eg.mpr q] at hc; cases hc) ha hz h
theorem x_meth {Q : CV} {o name apos pos} {args : List Expr}
  (h : Ev W n r H o (kMt W n r name args Q)) (hl : autoParam ((apos.endLine == pos.line) = true) aR) (hb : autoParam (k6 o = true) aR) (hs : autoParam (args.all jG = true) aR) (hn : autoParam (args.length < 29) aE) : Ev W n r H (.Call (.Attribute o name apos) args [] pos) Q :=
 CH hb hl hs hn h
theorem mG.perm {H' : HH} (p : H.Perm H') : mG W r H r H' := fun env fa G s hr f => ⟨G, kA.refl, hr.perm p, f⟩
theorem Bv {Q : CV} {x xp attr pos} (h : Ev W n r H (.Name x xp) (kAt W attr Q)) : Ev W n r H (.Attribute (.Name x xp) attr pos) Q := CF (c := "") h
theorem C8 {r' : jt} {H' : HH} {c} {Q : jJ} (w : mG W r H r' H') (h : Ex W n r' H' c Q) : Ex W n r H c Q := fun A env fa G s R hr f => by
 obtain ⟨G', e, hr', f'⟩ := w env fa G s hr f
 exact jH (h A env fa G' s R hr' f') fun _ _ q => q.trans e.weak
theorem x5 {H' : HH} {c} {Q : jJ} (p : H.Perm H') (h : Ex W n r H' c Q) : Ex W n r H c Q := C8 (mG.perm p) h
theorem C9 {Q : CV} {G s v s1} (h : Fin W (EF Q) G s v s1) : Fin W Q G s v s1 := by
 obtain ⟨G1, p, P', e1, r1, v1, ⟨K, S, K', q, sp, rf, hw, q1⟩⟩ := h
 obtain ⟨e2, y, hy, _⟩ := r1.freeze2 sp hw
 exact ⟨_, q, K', e1.trans e2, y, hy _ _ _ rf v1, q1⟩
theorem jZ.frz {Q : CV} {f ps} (h : jZ W n H f ps (EF Q)) : jZ W n H f ps Q := fun A G s vs R hr hv =>
 gj (h A G s vs R hr hv) fun r s' ⟨v, e, x⟩ => ⟨v, e, C9 x⟩
noncomputable def slots (as : List Addr) (os : List HO) : HH := as.zip os
theorem uk : ∀ {as : List Addr} {os : List HO} {j : Nat} {a : Addr} {o o' : HO} {H : HH}, as[j]? = some a → os[j]? = some o → kQ a o o' (slots as os ++ H) (slots as (os.set j o') ++ H)
 | [], _, _, _, _, _, _, h, _ => by simp at h
 | _ :: _, [], _, _, _, _, _, _, h => by simp at h
 | b :: as, p :: os, 0, a, o, o', H, h, h' => by
  simp at h h'; subst h h'; exact .head
 | b :: as, p :: os, j + 1, a, o, o', H, h, h' => by
  simp only [fY] at h h'
  exact .tail (uk h h')
theorem y7 {as : List Addr} {os : List HO} {j : Nat} {a : Addr} {o : HO} {H : HH} (h : as[j]? = some a) (h' : os[j]? = some o) : (a, o) ∈ slots as os ++ H := by
 refine bu _ ?_
 unfold slots
 exact aS (i := j) (by rw [fE]; exact ⟨h, h'⟩)
theorem th {as : List Addr} {os : List HO} {a o} (h : as.length = os.length) : slots (as ++ [a]) (os ++ [o]) = slots as os ++ [(a, o)] := by
 unfold slots; rw [gy h]; rfl
theorem nA.slots {S : HH} {f : HO → PV} (hf : ∀ a o, (a, o) ∈ S → pA S (.ref a) (f o)) : ∀ {as : List Addr} {os : List HO}, as.length = os.length → (∀ p ∈ Mine.Internal.slots as os, p ∈ S) → nA S (as.map .ref) (os.map f)
 | [], [], _, _ => .refl
 | a :: as, o :: os, h, hm => .cons (hf a o (hm _ (.head _))) (nA.slots hf (by simpa using h) fun p hp => hm p (.tail _ hp))
theorem jK.slots : ∀ {S H : HH}, jK (S ++ H) H S
 | [], H => .none
 | e :: S, H => .r jK.slots
inductive Gj (H1 : HH) (K : HH → Prop) : Prop
 | mk (H2 : HH) (p : H1.Perm H2) (q : K H2)
theorem Bw {Q : CV} {e} (h : Ev W n r H e fun p H1 => Gj H1 (Q p)) : Ev W n r H e Q := fun A env fa G s R hr f =>
 jH (h A env fa G s R hr f) fun v s1 h1 => by
  obtain ⟨G1, p, H1, e1, r1, v1, ⟨H2, hp, q⟩⟩ := h1
  exact ⟨G1, p, H2, e1, r1.perm hp, v1, q⟩
theorem jK.pre {H K S : HH} (h : jK H K S) : ∀ L : HH, jK (L ++ H) (L ++ K) S
 | [] => h
 | _ :: L => .l (jK.pre h L)
end
noncomputable abbrev jp (L : List Int) : List PV := L.map .int
noncomputable abbrev o4 (L : List Nat) : List PV := L.map fun (x : Nat) => PV.int (x : Int)
noncomputable section
structure jo (p : Prop) : Prop where
 i ::
 o : p
noncomputable def Gk (x : Str) (v : PV) (b : Bd) (r : jt) : Option jt := match b with
 | .loc c _ => some ((x, .loc c (some v)) :: r)
 | _ => none
noncomputable def y8 (x : Str) (v : PV) : jt → Option jt
 | [] => none
 | p :: r => match cH x p.1 with
  | true => Gk x v p.2 r
  | false => match y8 x v r with
   | some r' => some (p :: r')
   | none => none
theorem ti {x : Str} {v : PV} : ∀ {r r' : jt}, y8 x v r = some r' → lp x v r r' := fun {r} => by
 induction r with
 | nil => exact fun h => nomatch h
 | cons p r ih =>
  obtain ⟨y, b⟩ := p
  intro r' h
  have h : (match cH x y with | true => Gk x v b r | false => match y8 x v r with | some r' => some ((y, b) :: r') | none => none) = some r' := h
  cases e : cH x y with
  | true =>
   rw [e] at h
   cases cG.mp e
   cases b <;> cases h
   exact .head
  | false =>
   rw [e] at h
   cases e2 : y8 x v r with
   | none => rw [e2] at h; cases h
   | some q => rw [e2] at h; cases h; exact .tail (ih e2)
noncomputable def crE (x : Str) (o : Option Bd) (r' : jt) : Option jt := match o with
 | none => none
 | some b => match b with
  | .fre v => some ((x, .fre v) :: r')
  | .loc c u => match c with
   | true => match u with
    | some v => some ((x, .fre v) :: r')
    | none => none
   | false => none
  | .glb => none
noncomputable def crK (r : jt) (x : Str) (k : NameKind) (r' : jt) : Option jt := match k with
 | .globalImplicit => some ((x, .glb) :: r')
 | .local => some ((x, .loc false none) :: r')
 | .cell => some ((x, .loc true none) :: r')
 | .free => crE x (j6 x r) r'
 | _ => none
noncomputable def Gl (r : jt) : List (Str × NameKind) → Option jt
 | [] => some []
 | (x, k) :: ns => match Gl r ns with
  | none => none
  | some r' => crK r x k r'
theorem Bx {r : jt} : ∀ {ns : List (Str × NameKind)} {r' : jt}, Gl r ns = some r' → k9 r ns r' := fun {ns} => by
 induction ns with
 | nil => intro r' h; cases h; exact .nil
 | cons p ns ih =>
  obtain ⟨x, k⟩ := p
  intro r' h
  have h : (match Gl r ns with | none => none | some r' => crK r x k r') = some r' := h
  cases e : Gl r ns with
  | none => rw [e] at h; cases h
  | some q =>
   rw [e] at h
   have := ih e
   cases k with
   | globalImplicit => cases h; exact .glb this
   | «local» => cases h; exact .loc this
   | cell => cases h; exact .cel this
   | free =>
    have h : crE x (j6 x r) q = some r' := h
    cases z : j6 x r with
    | none => rw [z] at h; cases h
    | some b => cases b with
     | glb => rw [z] at h; cases h
     | fre v => rw [z] at h; cases h; exact .capF (jF z) this
     | loc c u => cases c with
      | false => rw [z] at h; cases h
      | true => cases u with
       | none => rw [z] at h; cases h
       | some v => rw [z] at h; cases h; exact .capL (jF z) this
   | _ => cases h
noncomputable def fT : List (Str × Addr) := List.append [("bits", 68), ("mask_of", 75), ("row_key", 237), ("owners_of", 244), ("packing_order", 249), ("pack_rows", 310), ("look_up", 317), ("packed_rows", 390), ("most_frequent", 397), ("action_rows", 451), ("goto_columns", 458), ("pack", 463), ("saved", 470), ("goto_states", 477), ("cell_kind", 484), ("octets", 491), ("live_entries", 561), ("unlike_entries", 568), ("choose_parent", 575), ("pack_dfa", 581), ("unpack_dfa", 586), ("_law_pen", 591)] [("_law_draw", 598), ("_law_pick", 605), ("_law_sparse", 612), ("_law_first_fit", 617), ("_law_rows_hold", 624), ("_law_usual", 629), ("_law_lines", 636), ("_law_goals", 641), ("_law_rests", 646), ("_law_cells_hold", 651), ("_law_width", 658), ("_law_widths_hold", 663), ("_law_tables_hold", 668), ("_law_automaton", 673), ("_law_farthest", 680), ("_law_walked", 687), ("_law_parents", 692), ("_law_chain", 699), ("_law_automaton_holds", 704), ("_law_is_sound", 709), ("_law_arrays_hold", 714), ("law", 719)]
noncomputable def kT : List (Str × Addr) := [("Dfa", 125), ("Tables", 223), ("Comb", 301), ("PackedRows", 379), ("PackedTables", 442), ("PackedDfa", 550)]
noncomputable def gT : List (Str × Int) := [("DEAD", -1), ("UNDEFINED", 2), ("ERROR", 1), ("TEMPLATES", 8), ("ACCEPT", 1048576), ("BARRED", -1048576)]
noncomputable def bT : List (Str × Nat) := [("len", 0), ("range", 1), ("int", 2), ("abs", 3), ("max", 4), ("min", 5), ("sorted", 6), ("sum", 7), ("dict", 8), ("list", 9), ("str", 10), ("tuple", 11)]
noncomputable def aT : List (Str × List Str) := [("Dfa", ["rows", "tags"]), ("Comb", ["table", "check"]), ("PackedRows", ["bases", "table", "check", "owners"]), ("PackedTables", ["names", "terminal_count", "lefts", "lengths", "befores", "defaults", "numbers", "actions", "bases", "table", "check", "owners", "gotos", "goto_bases", "goto_table", "goto_check", "goto_owners", "goto_defaults", "goto_masks"]), ("PackedDfa", ["bases", "table", "check", "owners", "tags", "count", "parents"])]
noncomputable def mT : List (Str × List (Str × Addr)) := [("Dfa", [("class_count", 96), ("state_count", 103), ("step", 110)]), ("Comb", [("is_free", 270), ("fits", 277), ("first_fit", 284), ("grow", 291), ("put", 298)]), ("PackedRows", [("get", 338), ("unpacked", 343), ("cell_count", 350), ("gaps", 355), ("flaw_of_rows", 362), ("flaw_of_cells", 369), ("flaw", 376)]), ("PackedTables", [("state_count", 418), ("explicit", 425), ("goto", 432), ("cells", 439), ("default", 192), ("action", 206), ("expected", 213)]), ("PackedDfa", [("step", 511), ("run", 519), ("accepts", 526), ("longest", 533), ("state_count", 540), ("chain", 547)])]
noncomputable def Ha (c : Str) : Addr := match j6 c kT with | some a => a | none => 0
noncomputable def Gm (v : Value) (a : Addr) : Bool := match v with | .ref b => b.beq a | _ => false
noncomputable def vV (o : Option Value) (a : Addr) : Bool := match o with | some v => Gm v a | none => false
theorem qB {o a} (h : vV o a = true) : o = some (.ref a) := by
 cases o with
 | none => cases h
 | some v => cases v with
  | ref b => rw [Nat.eq_of_beq_eq_true h]
  | _ => cases h
noncomputable def Gn (v : Value) (i : Int) : Bool := match v with | .int j _ => decide (j = i) | _ => false
noncomputable def Eg (o : Option Value) (i : Int) : Bool := match o with | some v => Gn v i | none => false
theorem By {o i} (h : Eg o i = true) : ∃ t, o = some (.int i t) := by
 cases o with
 | none => cases h
 | some v => cases v with
  | int j t => exact ⟨t, by rw [of_decide_eq_true h]⟩
  | _ => cases h
theorem tA1 (P : Params) : (fT.all fun p => vV (tS (KF P) p.1) p.2 && fnIn (KF P) p.2) = true := by kernel_rfl
theorem tA2 (P : Params) : (kT.all fun p => vV (tS (KF P) p.1) p.2 && keepIn (KF P) (.ref p.2)) = true := by kernel_rfl
theorem tA3 (P : Params) : (gT.all fun p => Eg (tS (KF P) p.1) p.2) = true := by kernel_rfl
theorem tA4 (P : Params) : (aT.all fun p => vV (tS (KF P) p.1) (Ha p.1) && p.2.all fun x => pZ (KF P) (Ha p.1) x) = true := by kernel_rfl
theorem tA5 (P : Params) : (mT.all fun p => vV (tS (KF P) p.1) (Ha p.1) && p.2.all fun q => uF (KF P) (Ha p.1) q.1 q.2) = true := by kernel_rfl
structure Go (W : Wd) : Prop where
 f : ∀ p ∈ fT, EB W p.1 p.2
 k : ∀ p ∈ kT, W.mg p.1 = some (.ref p.2) ∧ keepIn W.K (.ref p.2) = true
 g : ∀ p ∈ gT, ∃ t, W.mg p.1 = some (.int p.2 t)
 a : ∀ p ∈ aT, ∀ x ∈ p.2, nL W p.1 x
 m : ∀ p ∈ mT, ∀ q ∈ p.2, sH W p.1 q.1 q.2
theorem m0 {W : Wd} (P : PW W) : Go W := by
 have h1 := aV.mp (tA1 W.w.params)
 have h2 := aV.mp (tA2 W.w.params)
 have h3 := aV.mp (tA3 W.w.params)
 have h4 := aV.mp (tA4 W.w.params)
 have h5 := aV.mp (tA5 W.w.params)
 refine ⟨fun p hp => ?_, fun p hp => ?_, fun p hp => ?_, fun p hp x hx => ?_, fun p hp q hq => ?_⟩
 ·have := cq.mp (h1 p hp); exact P.fn (qB this.1) this.2
 ·have := cq.mp (h2 p hp); exact ⟨(P.mg _).trans (qB this.1), by rw [P.K]; exact this.2⟩
 ·obtain ⟨t, e⟩ := By (h3 p hp); exact ⟨t, (P.mg _).trans e⟩
 ·have := cq.mp (h4 p hp); exact P.at ((P.mg _).trans (qB this.1)) (aV.mp this.2 x hx)
 ·have := cq.mp (h5 p hp); exact P.me ((P.mg _).trans (qB this.1)) (aV.mp this.2 q hq)
noncomputable def pD (x : Str) : Bool := match cH x "__debug__" with
 | true => false
 | false => match cH x "__classdict__" with
  | true => false
  | false => true
theorem lF {x : Str} (h : pD x = true) : (x == ("__debug__" : Str)) = false ∧ (x == ("__classdict__" : Str)) = false := by
 unfold pD at h
 constructor
 ·refine beq_eq_false_iff_ne.mpr fun e => ?_
  rw [cG.mpr e] at h; cases h
 ·refine beq_eq_false_iff_ne.mpr fun e => ?_
  rw [cG.mpr e] at h
  cases q : cH x "__debug__" <;> rw [q] at h <;> cases h
section
variable {W : Wd} {n : Nat} {r : jt} {H : HH}
noncomputable abbrev RE := Expr → HH → CV → Prop
noncomputable def Hb (K : CV) : CV := fun v H => jo (K v H)
noncomputable def Ig (K : CB) : CB := fun v H => jo (K v H)
noncomputable def kLs (K : CL) : CL := fun v H => jo (K v H)
noncomputable def oK (b : Bool) (p q : Prop) : Prop := match b with | true => p | false => q
theorem oK.e {b : Bool} {p q R : Prop} (h : oK b p q) (h1 : b = true → p → R) (h2 : b = false → q → R) : R := by
 cases b
 ·exact h2 rfl h
 ·exact h1 rfl h
noncomputable def Fu (o : Option Bd) (f : PV → Prop) (g d : Prop) : Prop := match o with
 | none => d
 | some b => match b with
  | .loc _ u => match u with
   | some v => f v
   | none => d
  | .fre v => f v
  | .glb => g
theorem Fu.e {o : Option Bd} {f : PV → Prop} {g d R : Prop} (h : Fu o f g d) (h1 : ∀ c v, o = some (.loc c (some v)) → f v → R) (h2 : ∀ v, o = some (.fre v) → f v → R) (h3 : o = some .glb → g → R) (h4 : d → R) : R := by
 cases o with
 | none => exact h4 h
 | some b => cases b with
  | loc c u => cases u with
   | none => exact h4 h
   | some v => exact h1 c v rfl h
  | fre v => exact h2 v rfl h
  | glb => exact h3 rfl h
noncomputable def Fv (a : PV) (f : Str → List (Str × PV) → Prop) (d : Prop) : Prop := match a with
 | .ins c fs => f c fs
 | _ => d
theorem Fv.e {a : PV} {f : Str → List (Str × PV) → Prop} {d R : Prop} (h : Fv a f d) (h1 : ∀ c fs, a = .ins c fs → f c fs → R) (h2 : d → R) : R := by
 cases a with
 | ins c fs => exact h1 c fs rfl h
 | _ => exact h2 h
noncomputable def sm {α : Type} (o : Option α) (f : α → Prop) (d : Prop) : Prop := match o with
 | some x => f x
 | none => d
theorem sm.e {α : Type} {o : Option α} {f : α → Prop} {d R : Prop} (h : sm o f d) (h1 : ∀ x, o = some x → f x → R) (h2 : d → R) : R := by
 cases o with
 | none => exact h2 h
 | some x => exact h1 x rfl h
noncomputable def vl (a : PV) (f : Int → Prop) (d : Prop) : Prop := match a with
 | .int i => f i
 | _ => d
theorem vl.e {a : PV} {f : Int → Prop} {d R : Prop} (h : vl a f d) (h1 : ∀ i, a = .int i → f i → R) (h2 : d → R) : R := by
 cases a with
 | int i => exact h1 i rfl h
 | _ => exact h2 h
noncomputable def Am {α : Type} (l : List α) (f : α → Prop) (d : Prop) : Prop := match l with
 | [] => d
 | x :: r => match r with
  | [] => f x
  | _ :: _ => d
theorem Am.e {α : Type} {l : List α} {f : α → Prop} {d R : Prop} (h : Am l f d) (h1 : ∀ x, l = [x] → f x → R) (h2 : d → R) : R := by
 cases l with
 | nil => exact h2 h
 | cons x r => cases r with
  | nil => exact h1 x rfl h
  | cons _ _ => exact h2 h
noncomputable def Da {α : Type} (l : List α) (f : α → Prop) (g : α → α → Prop) (d : Prop) : Prop := match l with
 | [] => d
 | x :: r => match r with
  | [] => f x
  | y :: s => match s with
   | [] => g x y
   | _ :: _ => d
theorem Da.e {α : Type} {l : List α} {f : α → Prop} {g : α → α → Prop} {d R : Prop} (h : Da l f g d) (h1 : ∀ x, l = [x] → f x → R) (h2 : ∀ x y, l = [x, y] → g x y → R) (h3 : d → R) : R := by
 cases l with
 | nil => exact h3 h
 | cons x r => cases r with
  | nil => exact h1 x rfl h
  | cons y s => cases s with
   | nil => exact h2 x y rfl h
   | cons _ _ => exact h3 h
noncomputable def tJ (a b : PV) (f : Int → Int → Prop) (d : Prop) : Prop := vl a (fun i => vl b (fun j => f i j) d) d
theorem tJ.e {a b : PV} {f : Int → Int → Prop} {d R : Prop} (h : tJ a b f d) (h1 : ∀ i j, a = .int i → b = .int j → f i j → R) (h2 : d → R) : R :=
 vl.e h (fun i e h => vl.e h (fun j e2 h => h1 i j e e2 h) h2) h2
noncomputable def opB (W : Wd) (n : Nat) (op : Operator) (a b : PV) (H : HH) (K : CV) : Prop := match op with
 | .Add => tJ a b (fun i j => K (.int (i + j)) H) (jo (lC W n H (binaryOp .Add) a b K))
 | .Sub => tJ a b (fun i j => K (.int (i - j)) H) (jo (lC W n H (binaryOp .Sub) a b K))
 | .BitAnd => tJ a b (fun i j => K (.int (fm i j)) H) (jo (lC W n H (binaryOp .BitAnd) a b K))
 | .BitOr => tJ a b (fun i j => K (.int (eF i j)) H) (jo (lC W n H (binaryOp .BitOr) a b K))
 | op => jo (lC W n H (binaryOp op) a b K)
theorem Bz {op a b} {K : CV} (h : opB W n op a b H K) : lC W n H (binaryOp op) a b K := by
 cases op with
 | Add => exact tJ.e h (fun i j e1 e2 h => e1 ▸ e2 ▸ AI h) jo.o
 | Sub => exact tJ.e h (fun i j e1 e2 h => e1 ▸ e2 ▸ AJ h) jo.o
 | BitAnd => exact tJ.e h (fun i j e1 e2 h => e1 ▸ e2 ▸ AK h) jo.o
 | BitOr => exact tJ.e h (fun i j e1 e2 h => e1 ▸ e2 ▸ DV h) jo.o
 | _ => exact jo.o h
noncomputable def opC (W : Wd) (n : Nat) (op : CmpOp) (a b : PV) (H : HH) (K : CV) : Prop := match op with
 | .Lt => tJ a b (fun i j => K (.bool (decide (i < j))) H) (jo (lC W n H (compareOp .Lt) a b K))
 | .LtE => tJ a b (fun i j => K (.bool (decide (i ≤ j))) H) (jo (lC W n H (compareOp .LtE) a b K))
 | .Gt => tJ a b (fun i j => K (.bool (decide (i > j))) H) (jo (lC W n H (compareOp .Gt) a b K))
 | .GtE => tJ a b (fun i j => K (.bool (decide (i ≥ j))) H) (jo (lC W n H (compareOp .GtE) a b K))
 | .Eq => vl b (fun j => vl a (fun i => K (.bool (decide (i = j))) H) (jo (lC W n H (compareOp .Eq) a b K))) (jo (lC W n H (compareOp .Eq) a b K))
 | .NotEq => vl b (fun j => vl a (fun i => K (.bool (decide (i ≠ j))) H) (jo (lC W n H (compareOp .NotEq) a b K))) (jo (lC W n H (compareOp .NotEq) a b K))
 | op => jo (lC W n H (compareOp op) a b K)
theorem uX {op a b} {K : CV} (h : opC W n op a b H K) : lC W n H (compareOp op) a b K := by
 cases op with
 | Lt => exact tJ.e h (fun i j e1 e2 h => e1 ▸ e2 ▸ DZ h) jo.o
 | LtE => exact tJ.e h (fun i j e1 e2 h => e1 ▸ e2 ▸ D0 h) jo.o
 | Gt => exact tJ.e h (fun i j e1 e2 h => e1 ▸ e2 ▸ D1 h) jo.o
 | GtE => exact tJ.e h (fun i j e1 e2 h => e1 ▸ e2 ▸ D3 h) jo.o
 | Eq => exact vl.e h (fun j e2 h => vl.e h (fun i e1 h => e1 ▸ e2 ▸ DX h) jo.o) jo.o
 | NotEq => exact vl.e h (fun j e2 h => vl.e h (fun i e1 h => e1 ▸ e2 ▸ DY h) jo.o) jo.o
 | _ => exact jo.o h
noncomputable def opI (W : Wd) (n : Nat) (op : Operator) (a b : PV) (H : HH) (K : CV) : Prop := match op with
 | .Add => tJ a b (fun i j => K (.int (i + j)) H) (jo (lC W n H (inplaceOp .Add) a b K))
 | op => jo (lC W n H (inplaceOp op) a b K)
theorem EY {op a b} {K : CV} (h : opI W n op a b H K) : lC W n H (inplaceOp op) a b K := by
 cases op with
 | Add => exact tJ.e h (fun i j e1 e2 h => e1 ▸ e2 ▸ xI h) jo.o
 | _ => exact jo.o h
noncomputable def Gp (W : Wd) (n : Nat) (op : Operator) (a : PV) (K : CV) : CV := fun b H => opB W n op a b H K
noncomputable def Eh (W : Wd) (n : Nat) (R : RE) (op : Operator) (e : Expr) (K : CV) : CV := fun a H => R e H (Gp W n op a K)
noncomputable def Gq (W : Wd) (n : Nat) (op : CmpOp) (a : PV) (K : CV) : CV := fun b H => opC W n op a b H K
noncomputable def x6 (W : Wd) (n : Nat) (R : RE) (op : CmpOp) (e : Expr) (K : CV) : CV := fun a H => R e H (Gq W n op a K)
noncomputable def Gr (W : Wd) (n : Nat) (o : PV) (K : CV) : CV := fun i H => jo (oP W n H o i K)
noncomputable def Ei (W : Wd) (n : Nat) (R : RE) (e : Expr) (K : CV) : CV := fun a H => R e H (Gr W n a K)
noncomputable def opU (W : Wd) (n : Nat) (op : UnaryOp) (a : PV) (H : HH) (K : CV) : Prop := match op with
 | .USub => vl a (fun i => K (.int (-i)) H) (jo (FJ W n H (unaryOp .USub) a K))
 | op => jo (FJ W n H (unaryOp op) a K)
theorem EZ {op a} {K : CV} (h : opU W n op a H K) : FJ W n H (unaryOp op) a K := by
 cases op with
 | USub => exact vl.e h (fun i e h => e ▸ DW h) jo.o
 | _ => exact jo.o h
noncomputable def kUn (W : Wd) (n : Nat) (op : UnaryOp) (K : CV) : CV := fun a H => opU W n op a H K
noncomputable def E0 (K : CV) : CL := fun ps H => oK (Nat.ble ps.length sizeLine) (K (.tup ps) H) False
noncomputable def E1 (K : CV) : CL := fun ps H => oK (Nat.ble ps.length sizeLine) (jo (∀ a, K (.ref a) ((a, .lst ps) :: H))) False
theorem uY {K : CV} {ps H} (h : E0 K ps H) : ps.length ≤ sizeLine ∧ K (.tup ps) H := oK.e h (fun e h => ⟨du e, h⟩) fun _ h => h.elim
theorem x7 {K : CV} {ps H} (h : E1 K ps H) : ps.length ≤ sizeLine ∧ ∀ a, K (.ref a) ((a, .lst ps) :: H) := oK.e h (fun e h => ⟨du e, h.o⟩) fun _ h => h.elim
noncomputable def Gs (p : PV) (K : CL) : CL := fun ps H => K (p :: ps) H
noncomputable def kB (W : Wd) (n : Nat) (K : CB) : CV := fun c H => match c with
 | .bool b => K b H
 | c => jo (Ak W n H c K)
noncomputable def Ih (W : Wd) (n : Nat) (K : CB) : CV := fun c H => jo (Ak W n H c K)
theorem BA {c} {K : CB} (h : kB W n K c H) : Ak W n H c K := by
 cases c with
 | bool b => exact vr h
 | _ => exact jo.o h
noncomputable def Gu (K : CB) : CB := fun b H => K (!b) H
noncomputable def kIf (R : RE) (a b : Expr) (K : CV) : CB := fun c H => jo (jC c (R a H K) (R b H K))
noncomputable def kL1 (RL : List Expr → HH → (CL) → Prop) (es : List Expr) (K : CL) : CV := fun p H => RL es H (Gs p K)
noncomputable def Ii (RT : Expr → HH → (CB) → Prop) (rest : List Expr) (pos : Pos) (K : CB) : CB := fun b H => jo (jC b (RT (.BoolOp .And rest pos) H K) (K false H))
noncomputable def kOr (RT : Expr → HH → (CB) → Prop) (rest : List Expr) (pos : Pos) (K : CB) : CB := fun b H => jo (jC b (K true H) (RT (.BoolOp .Or rest pos) H K))
noncomputable def BB (W : Wd) (n : Nat) (r : jt) (c : Const) (a : Nat) (p : Pos) (H : HH) (K : CV) : Prop := match c with
 | .int i => K (.int i) H
 | .none => K .none H
 | .bool b => K (.bool b) H
 | .str s => K (.str s) H
 | c => jo (Ev W n r H (.Constant c a p) K)
theorem y9 {c a p K} (h : BB W n r c a p H K) : Ev W n r H (.Constant c a p) K := by
 cases c with
 | int i => exact Ax h
 | none => exact xA h
 | bool b => exact xB h
 | str s => exact Ay h
 | _ => exact jo.o h
noncomputable def Ej (W : Wd) (n : Nat) (r : jt) (x : Str) (p : Pos) (H : HH) (K : CV) : Prop :=
 oK (pD x) (Fu (j6 x r) (fun v => K v H) (sm (j6 x gT) (fun i => K (.int i) H) (jo (Ev W n r H (.Name x p) K))) (jo (Ev W n r H (.Name x p) K))) (jo (Ev W n r H (.Name x p) K))
theorem BC (P : PW W) {x p K} (h : Ej W n r x p H K) : Ev W n r H (.Name x p) K :=
 oK.e h (fun hp h => Fu.e h (fun c v e h => Az (jF e) h (lF hp).1) (fun v e h => AA (jF e) h (lF hp).1 (lF hp).2)
  (fun e h => sm.e h (fun i e2 h => by
   obtain ⟨t, q⟩ := (m0 P).g _ (jF e2)
   exact xC (jF e) ⟨_, q, fun _ _ _ => Ey⟩ h (lF hp).1) jo.o) jo.o) fun _ => jo.o
theorem nT.mono {e} {Q Q' : CL} (h : nT W n r H e Q) (hq : ∀ p H', Q p H' → Q' p H') : nT W n r H e Q' := fun A env fa G s R x f =>
 ay (h A env fa G s R x f) (fun v s' h => by obtain ⟨G', p, H', e, h1, h2, h3⟩ := h; exact ⟨G', p, H', e, h1, h2, hq _ _ h3⟩) fun _ _ x => x
noncomputable def bV : Nat → Value
 | 0 => .builtin "len" | 1 => .type "range" | 2 => .type "int" | 3 => .builtin "abs" | 4 => .builtin "max" | 5 => .builtin "min" | 6 => .builtin "sorted" | 7 => .builtin "sum"
 | 8 => .type "dict" | 9 => .type "list" | 10 => .type "str" | _ => .type "tuple"
noncomputable def opF (W : Wd) (n : Nat) (b : Nat) (ps : List PV) (H : HH) (K : CV) : Prop := match b with
 | 0 => jo (mP W n H (fun vs => call (.builtin "len") vs) ps K)
 | 1 => Da ps (fun p => vl p (fun i => K (.rng 0 i) H) (jo (mP W n H (fun vs => call (.type "range") vs) ps K))) (fun p q => tJ p q (fun i j => K (.rng i j) H) (jo (mP W n H (fun vs => call (.type "range") vs) ps K))) (jo (mP W n H (fun vs => call (.type "range") vs) ps K))
 | 2 => jo (mP W n H (fun vs => call (.type "int") vs) ps K)
 | 3 => jo (mP W n H (fun vs => call (.builtin "abs") vs) ps K)
 | 4 => jo (mP W n H (fun vs => call (.builtin "max") vs) ps K)
 | 5 => jo (mP W n H (fun vs => call (.builtin "min") vs) ps K)
 | 6 => jo (mP W n H (fun vs => call (.builtin "sorted") vs) ps K)
 | 7 => jo (mP W n H (fun vs => call (.builtin "sum") vs) ps K)
 | 8 => jo (mP W n H (fun vs => call (.type "dict") vs) ps K)
 | 9 => jo (mP W n H (fun vs => call (.type "list") vs) ps K)
 | 10 => jo (mP W n H (fun vs => call (.type "str") vs) ps K)
 | _ => jo (mP W n H (fun vs => call (.type "tuple") vs) ps K)
theorem E3 {b ps} {K : CV} (h : opF W n b ps H K) : mP W n H (fun vs => call (bV b) vs) ps K := by
 rcases b with _ | _ | _ | _ | _ | _ | _ | _ | _ | _ | _ | b
 case succ.zero => exact Da.e h (fun p e h => vl.e h (fun i e2 h => by subst e e2; exact sS h) jo.o) (fun p q e h => tJ.e h (fun i j e2 e3 h => by subst e e2 e3; exact sT h) jo.o) jo.o
 all_goals exact jo.o h
noncomputable def kBi (W : Wd) (n : Nat) (b : Nat) (K : CV) : CL := fun ps H => opF W n b ps H K
noncomputable def kC (W : Wd) (n : Nat) (f : Addr) (K : CV) : CL := fun ps H => jo (jZ W n H (.ref f) ps K)
noncomputable def Fw (W : Wd) (n : Nat) (f : Addr) (p : PV) (K : CV) : CL := fun ps H => jo (jZ W n H (.ref f) (p :: ps) K)
noncomputable def kBm (W : Wd) (n : Nat) (s : String) (p : PV) (K : CV) : CL := fun ps H => jo (mP W n H (fun vs => call (.builtin s) vs) (p :: ps) K)
noncomputable abbrev E4 := List Expr → HH → (CL) → Prop
noncomputable def Gv (W : Wd) (a : Str) (K : CV) : CV := fun p H => Fv p (fun c fs => sm (j6 c aT) (fun l => oK (l.any (cH a)) (sm (j6 a fs) (fun v => K v H) (jo (rF W H p a fun v => K v H))) (jo (rF W H p a fun v => K v H))) (jo (rF W H p a fun v => K v H))) (jo (rF W H p a fun v => K v H))
noncomputable def Gw (W : Wd) (n : Nat) (RL : E4) (a : Str) (args : List Expr) (K : CV) : CV := fun p H => Fv p (fun c fs => sm (j6 c mT) (fun l => sm (j6 a l) (fun f => oK (fs.any fun q => cH a q.1) (jo (oV W H p a fun f => RL args H (Fw W n f p K))) (RL args H (Fw W n f p K))) (jo (oV W H p a fun f => RL args H (Fw W n f p K)))) (jo (oV W H p a fun f => RL args H (Fw W n f p K)))) (jo (oV W H p a fun f => RL args H (Fw W n f p K)))
noncomputable def Gx (W : Wd) (n : Nat) (RL : E4) (s : String) (args : List Expr) (K : CV) : CV := fun p H => jo (sM W H "list" p ∧ RL args H (kBm W n s p K))
theorem oV.mono {p a} {K K' : Addr → Prop} (h : oV W H p a K) (k : ∀ v, K v → K' v) : oV W H p a K' := by obtain ⟨c, fs, v, w, m, z, q⟩ := h; exact ⟨c, fs, v, w, m, z, k _ q⟩
theorem Db (P : PW W) {a p} {K : CV} (h : Gv W a K p H) : rF W H p a fun v => K v H :=
 Fv.e h (fun c fs e h => sm.e h (fun l e2 h => oK.e h (fun e3 h => sm.e h (fun v e4 h => by
  obtain ⟨b, hb, hs⟩ := bN.mp e3
  cases cG.mp hs
  exact e ▸ ⟨c, fs, v, .refl, jF e4, (m0 P).a _ (jF e2) _ hb, h⟩) jo.o) fun _ => jo.o) jo.o) jo.o
theorem Dc (P : PW W) {RL : E4} {a args p} {K : CV} (ih : ∀ {es H K}, RL es H K → nT W n r H es K) (h : Gw W n RL a args K p H) : oV W H p a fun f => nT W n r H args fun ps H2 => jZ W n H2 (.ref f) (p :: ps) K := by
 have z : (∀ f, RL args H (Fw W n f p K) → nT W n r H args fun ps H2 => jZ W n H2 (.ref f) (p :: ps) K) := fun f h => (ih h).mono fun _ _ h => h.o
 exact Fv.e h (fun c fs e h => sm.e h (fun l e2 h => sm.e h (fun f e3 h => oK.e h (fun _ h => h.o.mono z) fun e4 h => ⟨c, fs, f, e ▸ .refl, by
   rw [ec]; intro q
   rw [eg] at q
   obtain ⟨y, hy, e5⟩ := az.mp q
   rw [ik] at e4
   exact e4 y hy (cG.mpr e5.symm), (m0 P).m _ (jF e2) _ (jF e3), z f h⟩) fun h => h.o.mono z) fun h => h.o.mono z) fun h => h.o.mono z
noncomputable def wR (o : Expr) (args : List Expr) (apos pos : Pos) : Bool := (apos.endLine == pos.line) && k6 o && args.all jG && gP args.length 29
theorem za {o args apos pos} (h : wR o args apos pos = true) : (apos.endLine == pos.line) = true ∧ k6 o = true ∧ args.all jG = true ∧ args.length < 29 := by
 unfold wR at h
 rw [a9, a9, a9] at h
 obtain ⟨⟨⟨a, b⟩, c⟩, d⟩ := h
 exact ⟨a, b, c, by unfold gP at d; exact du d⟩
noncomputable def Ij (r : jt) (o : Expr) : Bool := match o with
 | .Name x _ => match j6 x r with
  | some .glb => false
  | none => false
  | _ => true
 | _ => true
noncomputable def BD (W : Wd) (n : Nat) (r : jt) (RL : E4) (x : Str) (p : Pos) (args : List Expr) (kw : List Keyword) (pos : Pos) (H : HH) (K : CV) : Prop :=
 oK (kw.isEmpty && args.all jG && pD x) (Fu (j6 x r) (fun _ => jo (Ev W n r H (.Call (.Name x p) args kw pos) K)) (sm (j6 x fT) (fun f => RL args H (kC W n f K)) (sm (j6 x bT) (fun b => RL args H (kBi W n b K)) (sm (j6 x kT) (fun f => RL args H (kC W n f K)) (jo (Ev W n r H (.Call (.Name x p) args kw pos) K))))) (jo (Ev W n r H (.Call (.Name x p) args kw pos) K))) (jo (Ev W n r H (.Call (.Name x p) args kw pos) K))
noncomputable def BE (W : Wd) (n : Nat) (r : jt) (RE : RE) (RL : E4) (o : Expr) (a : Str) (ap : Pos) (args : List Expr) (kw : List Keyword) (pos : Pos) (H : HH) (K : CV) : Prop :=
 oK (kw.isEmpty && wR o args ap pos && Ij r o) (oK (cH a "append") (RE o H (Gx W n RL "list.append" args K)) (oK (cH a "count") (RE o H (Gx W n RL "list.count" args K)) (oK (cH a "get") (jo (Ev W n r H (.Call (.Attribute o a ap) args kw pos) K)) (RE o H (Gw W n RL a args K))))) (jo (Ev W n r H (.Call (.Attribute o a ap) args kw pos) K))
theorem Gy (P : PW W) {b x args p pos} {K : CV} (e : j6 x bT = some b) (hm : (x, Bd.glb) ∈ r) (hs : args.all jG = true) (h : nT W n r H args fun ps H1 => mP W n H1 (fun vs => call (bV b) vs) ps K) : Ev W n r H (.Call (.Name x p) args [] pos) K := by
 have hm2 := jF e
 unfold bT at hm2
 repeat' (rcases au.mp hm2 with q | hm2; · cases q; first | exact vQ P hm h hs | exact uU P hm h hs | exact Ed P hm h hs | exact Ec P hm h hs | exact vR P hm h hs | exact vS P hm h hs | exact lv P hm h hs | exact Bo P hm h hs | exact td P hm h hs | exact wO P hm h hs | exact F7 P hm h hs | exact sk P hm h hs)
 cases hm2
theorem zb (P : PW W) {RL : E4} (ih : ∀ {es H K}, RL es H K → nT W n r H es K) {x p args kw pos} {K : CV} (h : BD W n r RL x p args kw pos H K) : Ev W n r H (.Call (.Name x p) args kw pos) K :=
 oK.e h (fun hb h => by
  rw [a9, a9] at hb
  obtain ⟨⟨hk, hs⟩, hp⟩ := hb
  have hk := dI.mp hk
  subst hk
  exact Fu.e h (fun _ _ _ => jo.o) (fun _ _ => jo.o) (fun e h => sm.e h (fun f e2 h => vB (jF e) ((m0 P).f _ (jF e2)) hs ((ih h).mono fun _ _ h => h.o) (lF hp).1)
   fun h => sm.e h (fun b e2 h => Gy P e2 (jF e) hs ((ih h).mono fun _ _ h => E3 h))
   fun h => sm.e h (fun f e2 h => sG (jF e) ((m0 P).k _ (jF e2)).1 ((m0 P).k _ (jF e2)).2 hs ((ih h).mono fun _ _ h => h.o) (lF hp).1) jo.o) jo.o) fun _ => jo.o
theorem ze (P : PW W) {RL : E4} {RE : RE} (ih : ∀ {e H K}, RE e H K → Ev W n r H e K) (il : ∀ {es H K}, RL es H K → nT W n r H es K) {o a ap args kw pos} {K : CV} (h : BE W n r RE RL o a ap args kw pos H K) : Ev W n r H (.Call (.Attribute o a ap) args kw pos) K :=
 oK.e h (fun hb h => by
  rw [a9, a9] at hb
  obtain ⟨⟨hk, hs⟩, _⟩ := hb
  obtain ⟨h1, h2, h3, h4⟩ := za hs
  have hk := dI.mp hk
  subst hk
  exact oK.e h (fun e h => by
    cases cG.mp e
    exact lb ((ih h).mono fun p H1 h => ⟨h.o.1, (il h.o.2).mono fun _ _ h => h.o⟩) h1 h2 h3 h4)
   fun _ h => oK.e h (fun e h => by
    cases cG.mp e
    exact x4 ((ih h).mono fun p H1 h => ⟨h.o.1, (il h.o.2).mono fun _ _ h => h.o⟩) h1 h2 h3 h4)
   fun _ h => oK.e h (fun _ => jo.o) fun _ h => x_meth ((ih h).mono fun p H1 h => Dc P il h) h1 h2 h3 h4) fun _ => jo.o
noncomputable def Gz (W : Wd) (n : Nat) (r : jt) (RE : RE) (o : Expr) (a : Str) (pos : Pos) (H : HH) (K : CV) : Prop := match o with
 | .Name x p => RE (.Name x p) H (Gv W a K)
 | o => jo (Ev W n r H (.Attribute o a pos) K)
theorem Dd (P : PW W) {RE : RE} (ih : ∀ {e H K}, RE e H K → Ev W n r H e K) {o a pos} {K : CV} (h : Gz W n r RE o a pos H K) : Ev W n r H (.Attribute o a pos) K := by
 cases o with
 | Name x p => exact Bv ((ih h).mono fun p H1 h => Db P h)
 | _ => exact jo.o h
noncomputable def E5 : Expr → Bool
 | .Slice .. => true
 | _ => false
mutual
noncomputable def pL (W : Wd) (n : Nat) (r : jt) : Nat → Expr → HH → CV → Prop
 | 0, e, H, K => jo (Ev W n r H e K)
 | k + 1, e, H, K => match e with
  | .Name x p => Ej W n r x p H K
  | .Constant c a p => BB W n r c a p H K
  | .BinOp l op e _ => pL W n r k l H (Eh W n (pL W n r k) op e K)
  | .Compare l ops es p => Am ops (fun op => Am es (fun e => oK (behindInMarks op e) (jo (Ev W n r H (.Compare l ops es p) K)) (pL W n r k l H (x6 W n (pL W n r k) op e K))) (jo (Ev W n r H (.Compare l ops es p) K))) (jo (Ev W n r H (.Compare l ops es p) K))
  | .Subscript v s p => oK (E5 s) (jo (Ev W n r H (.Subscript v s p) K)) (pL W n r k v H (Ei W n (pL W n r k) s K))
  | .UnaryOp op e _ => pL W n r k e H (kUn W n op K)
  | .IfExp t a b _ => Ct W n r k t H (kIf (pL W n r k) a b K)
  | .Tuple es x p => oK (es.all jG) (De W n r k es H (E0 K)) (jo (Ev W n r H (.Tuple es x p) K))
  | .List es p => oK (es.all jG) (De W n r k es H (E1 K)) (jo (Ev W n r H (.List es p) K))
  | .Attribute o a p => Gz W n r (pL W n r k) o a p H K
  | .Dict ks vs p => oK (ks.isEmpty && vs.isEmpty) (jo (∀ a, K (.ref a) ((a, .dct []) :: H))) (jo (Ev W n r H (.Dict ks vs p) K))
  | .Call f args kw p => match f with
   | .Name x q => BD W n r (De W n r k) x q args kw p H K
   | .Attribute o a q => BE W n r (pL W n r k) (De W n r k) o a q args kw p H K
   | f => jo (Ev W n r H (.Call f args kw p) K)
  | e => jo (Ev W n r H e K)
noncomputable def De (W : Wd) (n : Nat) (r : jt) : Nat → List Expr → HH → (CL) → Prop
 | 0, es, H, K => jo (nT W n r H es K)
 | k + 1, es, H, K => match es with
  | [] => K [] H
  | e :: es => pL W n r k e H (kL1 (De W n r k) es K)
noncomputable def Ct (W : Wd) (n : Nat) (r : jt) : Nat → Expr → HH → (CB) → Prop
 | 0, e, H, K => jo (Tv W n r H e K)
 | k + 1, e, H, K => match e with
  | .Compare l ops es p => Am ops (fun op => Am es (fun e => oK (behindInMarks op e) (jo (Tv W n r H (.Compare l ops es p) K)) (pL W n r k l H (x6 W n (pL W n r k) op e (kB W n K)))) (jo (Tv W n r H (.Compare l ops es p) K))) (jo (Tv W n r H (.Compare l ops es p) K))
  | .UnaryOp op e p => match op with
   | .Not => Ct W n r k e H (Gu K)
   | op => jo (Tv W n r H (.UnaryOp op e p) K)
  | .BoolOp op es pos => match op with
   | .And => match es with
    | [] => K true H
    | x :: rest => Ct W n r k x H (Ii (Ct W n r k) rest pos K)
   | .Or => match es with
    | [] => K false H
    | x :: rest => Ct W n r k x H (kOr (Ct W n r k) rest pos K)
  | .Name x p => pL W n r k (.Name x p) H (Ih W n K)
  | .Call f args kw p => pL W n r k (.Call f args kw p) H (kB W n K)
  | e => jo (Tv W n r H e K)
end
theorem uy.mono {Q Q' : CB} {G s b s'} (h : uy W Q G s b s') (hq : ∀ p H', Q p H' → Q' p H') : uy W Q' G s b s' := by
 obtain ⟨G', H', e, h1, h3⟩ := h; exact ⟨G', H', e, h1, hq _ _ h3⟩
theorem yK.mono {Q Q' : HH → Prop} {G s b s'} (h : yK W Q G s b s') (hq : ∀ H', Q H' → Q' H') : yK W Q' G s b s' := by
 obtain ⟨G', H', e, h1, h3⟩ := h; exact ⟨G', H', e, h1, hq _ h3⟩
theorem Tv.mono {e} {Q Q' : CB} (h : Tv W n r H e Q') (hq : ∀ p H', Q' p H' → Q p H') : Tv W n r H e Q := fun A env fa G s R x f =>
 ay (h A env fa G s R x f) (fun v s' h => h.mono hq) fun _ _ x => x
noncomputable def OfP (I : jJ → Prop) : jJ := fun fl r H => ∀ C, I C → C fl r H
theorem BF {c} {Q : jJ} (I : jJ → Prop) (h : Ex W n r H c (OfP I)) (k : I Q) : Ex W n r H c Q := uH h fun _ _ _ q => q _ k
theorem lC.mono {f p q} {Q Q' : CV} (h : lC W n H f p q Q) (hq : ∀ p H', Q p H' → Q' p H') : lC W n H f p q Q' := fun A G s u v R x f g =>
 ay (h A G s u v R x f g) (fun v s' h => by obtain ⟨G', p, H', e, h1, h2, h3⟩ := h; exact ⟨G', p, H', e, h1, h2, hq _ _ h3⟩) fun _ _ x => x
theorem Ak.mono {p} {Q Q' : CB} (h : Ak W n H p Q) (hq : ∀ p H', Q p H' → Q' p H') : Ak W n H p Q' := fun A G s v R x f =>
 ay (h A G s v R x f) (fun v s' h => h.mono hq) fun _ _ x => x
theorem uB.mono {p q v} {Q Q' : HH → Prop} (h : uB W n H p q v Q) (hq : ∀ H', Q H' → Q' H') : uB W n H p q v Q' := fun A G s a b c R x f g i =>
 ay (h A G s a b c R x f g i) (fun v s' h => h.mono hq) fun _ _ x => x
theorem vu.mono {p q v} {Q Q' : HH → Prop} (h : vu W n H p q v Q) (hq : ∀ H', Q H' → Q' H') : vu W n H p q v Q' := fun A G s a b R x f g =>
 ay (h A G s a b R x f g) (fun v s' h => h.mono hq) fun _ _ x => x
structure Ik (W : Wd) (n : Nat) (r : jt) (k : Nat) : Prop where
 e : ∀ {e H K}, pL W n r k e H K → Ev W n r H e K
 l : ∀ {es H K}, De W n r k es H K → nT W n r H es K
 t : ∀ {e H K}, Ct W n r k e H K → Tv W n r H e K
theorem lP (P : PW W) : ∀ k, Ik W n r k := fun k => by
 induction k with
 | zero => exact ⟨jo.o, jo.o, jo.o⟩
 | succ k ih =>
  refine ⟨fun {e H K} h => ?_, fun {es H K} h => ?_, fun {e H K} h => ?_⟩
  ·cases e with
   | Name x p => exact BC P h
   | Attribute o a p => exact Dd P ih.e h
   | Dict ks vs p => exact oK.e h (fun e h => by rw [a9] at e; rw [dI.mp e.1, dI.mp e.2]; exact vy h.o) fun _ => jo.o
   | Call f args kw p => cases f with
    | Name x q => exact zb P ih.l h
    | Attribute o a q => exact ze P ih.e ih.l h
    | _ => exact jo.o h
   | Constant c a p => exact y9 h
   | BinOp l op e p => exact kP ((ih.e h).mono fun a H1 h1 => (ih.e h1).mono fun b H2 h2 => Bz h2)
   | Compare l ops es p => exact Am.e h (fun op e1 h => Am.e h (fun e e2 h => oK.e h (fun _ => jo.o) fun hb h => e1 ▸ e2 ▸ m7 ((ih.e h).mono fun a H1 h1 => (ih.e h1).mono fun b H2 h2 => uX h2) hb) jo.o) jo.o
   | Subscript v s p => exact oK.e h (fun _ => jo.o) fun _ h => oj ((ih.e h).mono fun a H1 h1 => (ih.e h1).mono fun b H2 h2 => h2.o)
   | UnaryOp op e p => exact vt ((ih.e h).mono fun a H1 h1 => EZ h1)
   | IfExp t a b p => exact qk ((ih.t h).mono fun c H1 h1 => ⟨fun e => ih.e (h1.o.1 e), fun e => ih.e (h1.o.2 e)⟩)
   | Tuple es x p => exact oK.e h (fun hb h => sB hb ((ih.l h).mono fun ps H1 h1 => uY h1)) fun _ => jo.o
   | List es p => exact oK.e h (fun hb h => uC hb ((ih.l h).mono fun ps H1 h1 => x7 h1)) fun _ => jo.o
   | _ => exact jo.o h
  ·cases es with
   | nil => exact ml h
   | cons e es => exact jA ((ih.e h).mono fun p H1 h1 => ih.l h1)
  ·cases e with
   | Compare l ops es p => exact Am.e h (fun op e1 h => Am.e h (fun e e2 h => oK.e h (fun _ => jo.o) fun hb h => e1 ▸ e2 ▸ jU ((ih.e h).mono fun a H1 h1 => (ih.e h1).mono fun b H2 h2 => (uX h2).mono fun c H3 h3 => BA h3) hb) jo.o) jo.o
   | UnaryOp op e p => cases op with
    | Not => exact oT (ih.t h)
    | _ => exact jo.o h
   | BoolOp op es p => cases op with
    | And => cases es with
     | nil => exact uz h
     | cons x es => exact nJ ((ih.t h).mono fun b H1 h1 => ⟨fun e => ih.t (h1.o.1 e), h1.o.2⟩)
    | Or => cases es with
     | nil => exact AB h
     | cons x es => exact rx ((ih.t h).mono fun b H1 h1 => ⟨h1.o.1, fun e => ih.t (h1.o.2 e)⟩)
   | Name x p => exact xE ((ih.e h).mono fun a H1 h1 => h1.o)
   | Call f a k p => exact oh ((ih.e h).mono fun a H1 h1 => BA h1)
   | _ => exact jo.o h
noncomputable abbrev x8 (W : Wd) (n : Nat) (rest : List Stmt) (Q : jJ) : jJ := fun fl r' H' => match fl with
 | .next => lm W n r' H' rest Q
 | fl => Q fl r' H'
theorem jn {c rest} {Q : jJ} (h : Ex W n r H c (x8 W n rest Q)) : lm W n r H (c :: rest) Q := AC h
noncomputable abbrev Df := List Stmt → jt → HH → jJ → Prop
noncomputable def E6 (R : Df) (x : Str) (r : jt) (rest : List Stmt) (Q : jJ) : CV := fun p H => sm (y8 x p r) (fun r' => R rest r' H Q) False
noncomputable def kS (R : Df) (r : jt) (rest : List Stmt) (Q : jJ) : HH → Prop := fun H => R rest r H Q
noncomputable def Il (W : Wd) (n : Nat) (v o : PV) (P : HH → Prop) : CV := fun i H => jo (uB W n H o i v P)
noncomputable def Im (W : Wd) (n : Nat) (R : RE) (v : PV) (i : Expr) (P : HH → Prop) : CV := fun o H => R i H (Il W n v o P)
noncomputable def Io (W : Wd) (n : Nat) (R : RE) (o i : Expr) (P : HH → Prop) : CV := fun v H => R o H (Im W n R v i P)
noncomputable def Ip (W : Wd) (n : Nat) (a : Str) (v : PV) (P : HH → Prop) : CV := fun o H => jo (vu W n H o a v P)
noncomputable def Iq (W : Wd) (n : Nat) (R : RE) (a : Str) (o : Expr) (P : HH → Prop) : CV := fun v H => R o H (Ip W n a v P)
noncomputable def Ir (W : Wd) (n : Nat) (r : jt) (a b : List Stmt) (Q : jJ) : CB := fun c H => jo (jC c (lm W n r H a Q) (lm W n r H b Q))
noncomputable def It (r : jt) (Q : jJ) : CV := fun p H => Q (.ret p) r H
noncomputable def GA (R : Df) (r : jt) (rest : List Stmt) (Q : jJ) : CV := fun p H => match p with
 | .none => R rest r H Q
 | p => jo (p = .none ∧ R rest r H Q)
theorem x9 {R : Df} {rest : List Stmt} {Q : jJ} {p} (h : GA R r rest Q p H) : p = .none ∧ R rest r H Q := by
 cases p with
 | none => exact ⟨rfl, h⟩
 | _ => exact h.o
noncomputable def Iu (W : Wd) (n : Nat) (op : Operator) (v : PV) (K : CV) : CV := fun p H => opI W n op v p H K
theorem ya {R : Df} {x : Str} {rest : List Stmt} {Q : jJ} (ih : ∀ {r H Q}, R rest r H Q → lm W n r H rest Q) {p} (h : E6 R x r rest Q p H) : lL x p r fun r' => x8 W n rest Q .next r' H :=
 sm.e h (fun _ e h => ⟨_, ti e, ih h⟩) fun h => h.elim
noncomputable def GB (W : Wd) (n : Nat) (RS : Df) (r : jt) (t : Expr) (e : Expr) (pos : Pos) (rest : List Stmt) (H : HH) (Q : jJ) : Prop := match t with
 | .Name x p => pL W n r 60 e H (E6 RS x r rest Q)
 | .Subscript o i p => pL W n r 60 e H (Io W n (pL W n r 60) o i (kS RS r rest Q))
 | .Attribute o a p => pL W n r 60 e H (Iq W n (pL W n r 60) a o (kS RS r rest Q))
 | t => jo (Ex W n r H (.Assign [t] e pos) (x8 W n rest Q))
theorem Dg (P : PW W) {RS : Df} {t e pos rest} {Q : jJ} (ih : ∀ {r H Q}, RS rest r H Q → lm W n r H rest Q) (hc : nK e = true) (h : GB W n RS r t e pos rest H Q) : Ex W n r H (.Assign [t] e pos) (x8 W n rest Q) := by
 have i := lP (n := n) (r := r) P 60
 cases t with
 | Name x p => exact jD hc ((i.e h).mono fun p H1 h1 => ya ih h1)
 | Subscript o j p => exact oi hc ((i.e h).mono fun p H1 h1 => (i.e h1).mono fun p2 H2 h2 => (i.e h2).mono fun p3 H3 h3 => h3.o.mono fun H4 h4 => ih h4)
 | Attribute o a p => exact sw hc ((i.e h).mono fun p H1 h1 => (i.e h1).mono fun p2 H2 h2 => h2.o.mono fun H4 h4 => ih h4)
 | _ => exact jo.o h
noncomputable def GC (W : Wd) (n : Nat) (RS : Df) (r : jt) (t : Expr) (op : Operator) (e : Expr) (pos : Pos) (rest : List Stmt) (H : HH) (Q : jJ) : Prop := match t with
 | .Name x p => sm (j6 x r) (fun b => match b with
  | .loc _ u => sm u (fun v => pL W n r 60 e H (Iu W n op v (E6 RS x r rest Q))) (jo (Ex W n r H (.AugAssign (.Name x p) op e pos) (x8 W n rest Q)))
  | _ => jo (Ex W n r H (.AugAssign (.Name x p) op e pos) (x8 W n rest Q))) (jo (Ex W n r H (.AugAssign (.Name x p) op e pos) (x8 W n rest Q)))
 | t => jo (Ex W n r H (.AugAssign t op e pos) (x8 W n rest Q))
theorem Dh (P : PW W) {RS : Df} {t op e pos rest} {Q : jJ} (ih : ∀ {r H Q}, RS rest r H Q → lm W n r H rest Q) (h : GC W n RS r t op e pos rest H Q) : Ex W n r H (.AugAssign t op e pos) (x8 W n rest Q) := by
 cases t with
 | Name x p => exact sm.e h (fun b e1 h => by
   cases b with
   | loc c u => exact sm.e h (fun v e2 h => by subst e2; exact AD (jF e1) (((lP P 60).e h).mono fun p H1 h1 => (EY h1).mono fun q H2 h2 => ya ih h2)) jo.o
   | _ => exact jo.o h) jo.o
 | _ => exact jo.o h
noncomputable def Fx (W : Wd) (n : Nat) : Nat → List Stmt → jt → HH → jJ → Prop
 | 0, c, r, H, Q => jo (lm W n r H c Q)
 | k + 1, c, r, H, Q => match c with
  | [] => jo (Q .next r H)
  | s :: rest => match s with
   | .Assign ts e pos => Am ts (fun t => oK (nK e) (GB W n (Fx W n k) r t e pos rest H Q) (jo (Ex W n r H (.Assign [t] e pos) (x8 W n rest Q)))) (jo (Ex W n r H (.Assign ts e pos) (x8 W n rest Q)))
   | .If t a b _ => Ct W n r 60 t H (Ir W n r a b (x8 W n rest Q))
   | .Return e _ => match e with
    | some e => pL W n r 60 e H (It r Q)
    | none => Q (.ret .none) r H
   | .Expr e pos => oK (nK e) (pL W n r 60 e H (GA (Fx W n k) r rest Q)) (jo (Ex W n r H (.Expr e pos) (x8 W n rest Q)))
   | .AugAssign t op e pos => GC W n (Fx W n k) r t op e pos rest H Q
   | .Continue _ => jo (Q .cont r H)
   | c => jo (Ex W n r H c (x8 W n rest Q))
theorem BG (P : PW W) : ∀ k {c r H Q}, Fx W n k c r H Q → lm W n r H c Q := fun k => by
 induction k with
 | zero => exact jo.o
 | succ k ih =>
  intro c r H Q h
  cases c with
  | nil => exact uA (jo.o h)
  | cons s rest =>
   refine jn ?_
   cases s with
   | Assign ts e pos => exact Am.e h (fun t e1 h => e1 ▸ oK.e h (fun hc h => Dg P ih hc h) fun _ => jo.o) jo.o
   | If t a b p => exact kI (((lP P 60).t h).mono fun c H1 h1 => h1.o)
   | Return e p => cases e with
    | some e => exact jR (((lP P 60).e h).mono fun p H1 h1 => h1)
    | none => exact xF h
   | Expr e p => exact oK.e h (fun hc h => lx hc (((lP P 60).e h).mono fun p H1 h1 => ⟨(x9 h1).1, ih (x9 h1).2⟩)) fun _ => jo.o
   | AugAssign t op e pos => exact Dh P ih h
   | Continue p => exact xH (jo.o h)
   | _ => exact jo.o h
theorem vA.i {Q : CV} {p} (h : Q p H) : vA Q (.ret p) r H := h
theorem E7 (P : PW W) {c} {Q : jJ} (h : Fx W n 60 c r H Q) : lm W n r H c Q := BG P _ h
theorem Di (P : PW W) (k : Nat) {c} {Q : jJ} (h : Fx W n k c r H Q) : lm W n r H c Q := BG P _ h
theorem E9 (P : PW W) {l op e p} {Q : CV} (h : pL W n r 60 l H (Eh W n (pL W n r 60) op e (Hb Q))) : Ev W n r H (.BinOp l op e p) Q :=
 kP (((lP P 60).e h).mono fun a H1 h1 => ((lP P 60).e h1).mono fun b H2 h2 => (Bz h2).mono fun _ _ x => x.o)
theorem ny (P : PW W) {x : Str} {f : Addr} {args p pos} {Q : CV} (hm : (x, Bd.glb) ∈ r) (h : nT W n r H args (FO W n (.ref f) Q)) (hf : autoParam (j6 x fT = some f) aR) (hs : autoParam (args.all jG = true) aR) (hd : autoParam ((x == ("__debug__" : Str)) = false) aK) : Ev W n r H (.Call (.Name x p) args [] pos) Q := vB hm ((m0 P).f _ (jF hf)) hs h hd
theorem Dj {r cr : jt} {ns} (h : Gl r ns = some cr) : ∃ cr, k9 r ns cr := ⟨_, Bx h⟩
theorem Iv {x : Str} {v : PV} {r r' : jt} {K : jt → Prop} (h : y8 x v r = some r') (k : K r') : lL x v r K := ⟨r', ti h, k⟩
theorem GD {p a c fs v} {K : PV → Prop} (w : Vw H p (.ins c fs)) (m : (a, v) ∈ fs) (z : nL W c a) (k : K v) : rF W H p a K := ⟨c, fs, v, w, m, z, k⟩
theorem GE {p a c fs f} {K : Addr → Prop} (w : Vw H p (.ins c fs)) (m : (fs.map ai).contains a = false) (z : sH W c a f) (k : K f) : oV W H p a K := ⟨c, fs, f, w, m, z, k⟩
theorem GF {p xs} {B : Prop} (w : Vw H p (.lst xs)) (k : B) : sM W H "list" p ∧ B := ⟨EC w, k⟩
theorem GG {p xs} {B : Prop} (w : Vw H p (.dct xs)) (k : B) : sM W H "dict" p ∧ B := ⟨ED w, k⟩
noncomputable def inT (c a : Str) : Bool := match j6 c aT with | some l => l.any (cH a) | none => false
theorem Iw (P : PW W) {c a} (h : inT c a = true) : nL W c a := by
 unfold inT at h
 cases e : j6 c aT with
 | none => rw [e] at h; cases h
 | some l =>
  rw [e] at h
  obtain ⟨b, hb, hs⟩ := bN.mp h
  cases cG.mp hs
  exact (m0 P).a _ (jF e) _ hb
noncomputable def meT (c a : Str) : Option Addr := match j6 c mT with | some l => j6 a l | none => none
theorem Ix (P : PW W) {c a f} (h : meT c a = some f) : sH W c a f := by
 unfold meT at h
 cases e : j6 c mT with
 | none => rw [e] at h; cases h
 | some l => rw [e] at h; exact (m0 P).m _ (jF e) _ (jF h)
noncomputable def Iy (r : jt) : Expr → Bool
 | .Name x _ => match j6 x r with | some .glb => (j6 x gT).isSome | _ => false
 | .Call f _ kw _ => match f with
  | .Name x _ => kw.isEmpty && (match j6 x r with | some .glb => (j6 x fT).isSome || (j6 x bT).isSome || (j6 x kT).isSome | _ => false)
  | _ => false
 | _ => false
theorem Dl (P : PW W) {e} {Q : CV} (h : pL W n r 60 e H (Hb Q)) (hg : autoParam (Iy r e = true) aR) : Ev W n r H e Q := ((lP P 60).e h).mono fun _ _ x => x.o
theorem GH {v s p} {Q : CV} (h : Ev W n r H v fun a H1 => Ev W n r H1 s fun b H2 => oP W n H2 a b Q) (hs : autoParam (E5 s = false) aR) : Ev W n r H (.Subscript v s p) Q := oj h
theorem Fa (P : PW W) {v s p} {Q : CV} (h : pL W n r 60 v H (Ei W n (pL W n r 60) s Q)) (hs : autoParam (E5 s = false) aR) : Ev W n r H (.Subscript v s p) Q :=
 oj (((lP P 60).e h).mono fun a H1 h1 => ((lP P 60).e h1).mono fun b H2 h2 => h2.o)
theorem GJ (P : PW W) {t a b p} {Q : CV} (h : Ct W n r 60 t H (kIf (fun e H K => Ev W n r H e K) a b Q)) : Ev W n r H (.IfExp t a b p) Q :=
 qk (((lP P 60).t h).mono fun c H1 h1 => h1.o)
theorem Fb (P : PW W) {es k p} {Q : CV} (hs : es.all jG = true) (h : De W n r 60 es H (E0 (Hb Q))) : Ev W n r H (.Tuple es k p) Q :=
 sB hs (((lP P 60).l h).mono fun ps H1 h1 => ⟨(uY h1).1, (uY h1).2.o⟩)
theorem Dm (P : PW W) {es p} {Q : CV} (hs : es.all jG = true) (h : De W n r 60 es H (E1 Q)) : Ev W n r H (.List es p) Q :=
 uC hs (((lP P 60).l h).mono fun ps H1 h1 => x7 h1)
theorem Fc (P : PW W) {l op e p} {Q : CV} (h : pL W n r 60 l H (x6 W n (pL W n r 60) op e (Hb Q))) (hm : autoParam (behindInMarks op e = false) aR) : Ev W n r H (.Compare l [op] [e] p) Q :=
 m7 (((lP P 60).e h).mono fun a H1 h1 => ((lP P 60).e h1).mono fun b H2 h2 => (uX h2).mono fun _ _ x => x.o) hm
theorem Do (P : PW W) {l op e p} {Q : CB} (h : pL W n r 60 l H (x6 W n (pL W n r 60) op e (kB W n (Ig Q)))) (hm : autoParam (behindInMarks op e = false) aR) : Tv W n r H (.Compare l [op] [e] p) Q :=
 jU (((lP P 60).e h).mono fun a H1 h1 => ((lP P 60).e h1).mono fun b H2 h2 => (uX h2).mono fun c H3 h3 => (show Ak W n H3 c (Ig Q) from BA h3).mono fun _ _ x => x.o) hm
theorem Dp (P : PW W) {e p} {Q : CB} (h : Ct W n r 60 e H (Gu (Ig Q))) : Tv W n r H (.UnaryOp .Not e p) Q := oT (((lP P 60).t h).mono fun b H1 h1 => h1.o)
theorem BH (P : PW W) {e es} {Q : CL} (h : De W n r 60 (e :: es) H (kLs Q)) : nT W n r H (e :: es) Q := ((lP P 60).l h).mono fun b H1 h1 => h1.o
end
end
noncomputable def pw (lh : Nat) (L : List Nat) : Nat := (L.map fun x => 2 ^ (x - lh)).sum
theorem BI {i : Nat} : pw i [] = 0 := rfl
theorem ox {i x : Nat} {L : List Nat} : pw i (x :: L) = 2 ^ (x - i) + pw i L := by simp [pw]
theorem rK {i : Nat} : ∀ {L : List Nat}, (∀ x ∈ L, i < x) → pw i L = 2 * pw (i + 1) L
 | [], _ => rfl
 | x :: L, h => by
  rw [ox, ox, rK fun y hy => h y (.tail _ hy)]
  have := h x (.head _)
  rw [show x - i = (x - (i + 1)) + 1 by exact J16 8 this, iw]; exact J16 9
theorem yc {i : Nat} {L : List Nat} {x : Nat} : pw i (L ++ [x]) = pw i L + 2 ^ (x - i) := by simp [pw]
theorem GK (k : Nat) : fm (k : Int) 1 = ((k % 2 : Nat) : Int) := by
 show ((k &&& 1 : Nat) : Int) = _
 rw [Nat.and_one_is_mod]
theorem GL (k : Nat) : (k : Int).fdiv (2 ^ (1 : Int).toNat) = ((k / 2 : Nat) : Int) := by
 show (k : Int).fdiv 2 = _
 rw [dC _ (by decide)]; lia
variable {W : Wd} {n : Nat} {r : jt} {H : HH} {Q : CV}
theorem Fd (P : PW W) {L : List Nat} (hL : L.Pairwise (· < ·)) (hz : L.length ≤ 64) (h : Q (.lst (o4 L)) H) : jZ W (n + 1) H (.ref 68) [.int (pw 0 L : Nat)] Q := by
 wtm_at "def"
 kd_p
 intro a
 kd_p
 let I1 : IT jt := fun k Z => ∀ d rest i, k = pw i rest → d ++ rest = L → (∀ x ∈ rest, i ≤ x) → Z [lc "mask" (.int (pw 0 L : Nat)), lc "found" (.ref a), lc "at" (.int (i : Nat)), lc "left" (.int (pw i rest : Nat))] ((a, .lst (o4 d)) :: H)
 refine lE I1 _ (fun Z zz => zz [] L 0 rfl rfl (fun _ _ => bF _)) ?_
 rintro k d rest i rfl hd hi
 kd_p
 refine jC.dec (fun hpos => ?_) fun hz => ?_
 ·have hp : 0 < pw i rest := by exact J4 4 hpos
  kd_p
  rw [GK]
  have hpw : rest.Pairwise (· < ·) := (bG.mp (hd ▸ hL)).2.1
  have key : (∃ r', rest = i :: r' ∧ pw i rest = 2 * pw (i + 1) r' + 1 ∧ ∀ x ∈ r', i + 1 ≤ x) ∨ (pw i rest = 2 * pw (i + 1) rest ∧ ∀ x ∈ rest, i + 1 ≤ x) := by
   cases rest with
   | nil => exact absurd hp (by simp [pw])
   | cons x r' =>
    rw [cm] at hpw
    by_cases e : x = i
    ·subst e
     exact .inl ⟨r', rfl, by rw [ox, rK hpw.1]; simp; exact J16 10, hpw.1⟩
    ·have h0 := hi x (.head _)
     have : ∀ y ∈ x :: r', i < y := fun y hy => by
      rcases au.mp hy with rfl | hy
      ·exact J2 15 h0 e
      ·have := hpw.1 y hy; exact J4 2 h0 this
     exact .inr ⟨rK this, this⟩
  refine jC.dec (fun ho => ?_) fun he => ?_
  ·obtain ⟨r', rfl, e1, e2⟩ | ⟨e1, e2⟩ := key
   ·kd_p
    ·rw [GL]
     kd_p
     refine jx.nx (by kd_all) ⟨_, ?_, Of.eq ?_ (Of.eqH (by simp) (fun Z zz => zz (d ++ [i]) r' (i + 1) rfl (by rw [← hd]; simp) e2))⟩
     ·exact J16 11 e1
     ·rw [e1, show (2 * pw (i + 1) r' + 1) / 2 = pw (i + 1) r' by lia]; rfl
    ·simp only [aa]; rw [am]; rw [← hd] at hz; simp at hz; exact J16 12 hz
   ·lia
  ·obtain ⟨r', rfl, e1, e2⟩ | ⟨e1, e2⟩ := key
   ·lia
   ·kd_p
    rw [GL]
    kd_p
    refine jx.nx (by kd_all) ⟨_, ?_, Of.eq ?_ (fun Z zz => zz d rest (i + 1) rfl hd e2)⟩
    ·exact J16 13 e1 hpos
    ·rw [e1, show (2 * pw (i + 1) rest) / 2 = pw (i + 1) rest by lia]; rfl
 ·kd_p1
  exists jR (li ?_)
  refine ⟨a, _, _, rfl, rfl, ?_⟩
  have : rest = [] := by
   cases rest with
   | nil => rfl
   | cons x r' => rw [ox] at hz; have := iY (x - i); lia
  subst this
  rw [bl] at hd
  rw [hd]; exact h
theorem GM {x : Nat} : ∀ {L : List Nat}, L.Pairwise (· < ·) → (∀ y ∈ L, y < x) → pw 0 L < 2 ^ x := by
 intro L
 induction x generalizing L with
 | zero => intro h1 h2; cases L with
  | nil => exact Nat.one_pos
  | cons y L => exact absurd (h2 y (.head _)) (by exact J16 14)
 | succ x ih =>
  intro h1 h2
  rcases cB L with rfl | ⟨L', y, rfl⟩
  ·exact iY _
  ·rw [cC] at h1 h2 ⊢
   rw [yc]
   have h3 := bG.mp h1
   have h4 : ∀ z ∈ L', z < y := fun z hz => h3.2.2 z hz y (by simp)
   have h5 := h2 y (by simp)
   have h6 : pw 0 L' < 2 ^ x := ih h3.1 fun z hz => by have := h4 z hz; exact J16 15 this h5
   have h7 : 2 ^ (y - 0) ≤ 2 ^ x := Nat.pow_le_pow_right (by decide) (by exact J16 16 h5)
   rw [iw]; exact J16 17 h7 h6
theorem zg (a b : Nat) : eF (a : Int) (b : Int) = ((a ||| b : Nat) : Int) := by
 unfold eF fm
 have h1 : decide (0 ≤ cX (a : Int)) = false := by unfold cX; exact decide_eq_false (by exact J6 23)
 have h2 : decide (0 ≤ cX (b : Int)) = false := by unfold cX; exact decide_eq_false (by exact J6 23)
 rw [h1, h2]
 have e : ∀ c : Int, cX (cX c) = c := fun c => by unfold cX; exact J16 18
 simp only [e, ag]
theorem Fe {a x : Nat} (h : a < 2 ^ x) : eF (a : Int) (1 * 2 ^ (x : Int).toNat) = ((a + 2 ^ (x - 0) : Nat) : Int) := by
 have e : (1 * 2 ^ (x : Int).toNat : Int) = ((2 ^ x : Nat) : Int) := by simp
 rw [e]
 rw [zg]
 have := Nat.two_pow_add_eq_or_of_lt h 1
 rw [Nat.mul_one] at this
 rw [Nat.or_comm, ← this, Nat.add_comm]; rfl
theorem zh (P : PW W) {L : List Nat} (hL : L.Pairwise (· < ·)) (hz : ∀ x ∈ L, x < 64) (h : Q (.int (pw 0 L : Nat)) H) : jZ W (n + 1) H (.ref 75) [.lst (o4 L)] Q := by
 wtm_at "def"
 kd_p
 exists m9 (tt := false) (fun h => nomatch h) (jP ?_)
 let I2 : IT jt := fun i Z => Z [lc "numbers" (.lst (o4 L)), lc "mask" (.int (pw 0 (L.take i) : Nat)), lu "number"] H
 refine ⟨_, rfl, uK.T I2 (fun Z zz => zz) ?_ ?_⟩
 ·rintro i x hx
  rw [ax] at hx
  obtain ⟨y, hy, rfl⟩ := bc.mp hx
  exists m8 (by kd_in) ?_
  have hy64 := hz y (aS hy)
  exists EA (by exact J0 0) (by exact J16 19 hy64) (by decide) ?_
  have hsp : L = L.take i ++ y :: L.drop (i + 1) := by
   have h1 := (aA.mp hy)
   obtain ⟨h1, h2⟩ := h1
   rw [← h2, bY, bS]
  have hp := bG.mp (hsp ▸ hL)
  have hlt : pw 0 (L.take i) < 2 ^ y := GM hp.1 fun z hz => hp.2.2 z hz y (.head _)
  rw [Fe hlt, ← yc, show L.take i ++ [y] = L.take (i + 1) by rw [a7, hy]; rfl]
  exact jx.nx (by kd_all) (fun Z zz => zz)
 ·show lm _ _ _ _ _ _
  kd_p
  rw [aa, aZ]
  exact h
noncomputable abbrev jN := List (Int × Int)
noncomputable abbrev jW (d : jN) : PV := .dct (Dk .int d)
noncomputable abbrev jY (R : List jN) : PV := .lst (R.map jW)
noncomputable def qR (d : jN) : Prop := (d.map ai).Pairwise (· < ·)
theorem qR.nodup {d : jN} (h : qR d) : (d.map ai).Nodup := h.imp fun h => by exact J21 11 h
theorem re {L : List Int} (h : L.Pairwise (· < ·)) : srt L = L := (sZ (List.Perm.refl _) (h.imp fun h => by exact J2 10 h)).symm
theorem qR.get {d : jN} (h : qR d) {p : Int × Int} (hp : p ∈ d) : jB d p.1 = some p.2 := p6 h.nodup hp
theorem jM {α : Type} {L : List α} {i : Nat} {d : α} (h : i < L.length) : L[i]? = some (L.getD i d) := by
 rw [aL, aG h]; rfl
theorem jr {α : Type} {L : List α} {i : Nat} {d : α} (h : i < L.length) : L.getD i d ∈ L := aS (jM h)
theorem tj {L : List Nat} {x : Nat} : o4 L ++ [PV.int (x : Int)] = o4 (L ++ [x]) := by simp
theorem o5 {L : List Int} {x : Int} : jp L ++ [PV.int x] = jp (L ++ [x]) := by simp
theorem qC {L : List Int} {i : Nat} {x : Int} : (jp L).set i (PV.int x) = jp (L.set i x) := by simp
theorem pE {L : List Int} {i : Nat} {x : Int} (h : L[i]? = some x) : (jp L)[i]? = some (PV.int x) := by rw [ax, h]; rfl
theorem yd {L : List Nat} {i : Nat} {x : Nat} (h : L[i]? = some x) : (o4 L)[i]? = some (PV.int x) := by rw [ax, h]; rfl
theorem Ek {L : List Nat} : o4 L = jp (L.map fun (x : Nat) => (x : Int)) := by simp
noncomputable def ko (R : List jN) : List Nat := R.map fun d => R.idxOf d
theorem jL {R} : (ko R).length = R.length := by simp [ko]
noncomputable def mQ (R : List jN) (i : Nat) : Bool := decide (R.idxOf (R.getD i []) = i) && decide (0 < (R.getD i []).length)
noncomputable def rh (R : List jN) (i : Nat) : Int × Int := (-((R.getD i []).length : Int), (i : Int))
noncomputable def o6 (R : List jN) : List (Int × Int) := ((av R.length).filter (mQ R)).map (rh R)
theorem o7 {R} : (o6 R).length ≤ R.length := by
 unfold o6; rw [aa]; exact bj (bm _ _) (by simp)
noncomputable def jq (R : List jN) : List Int := (nB (o6 R)).map bB
noncomputable abbrev Hd := List (Int × (Int × Int))
noncomputable def hfree (h : Hd) (c : Int) : Bool := (jB h c).isNone
noncomputable def pM (h : Hd) (m : Nat) : List Int := (av m).map fun (c : Nat) => ((jB h (c : Int)).getD (0, 0)).1
noncomputable def o8 (h : Hd) (m : Nat) : List Int := (av m).map fun (c : Nat) => ((jB h (c : Int)).getD (0, 0)).2
theorem kN {h m} : (pM h m).length = m := by simp [pM]
theorem ky {h m} : (o8 h m).length = m := by simp [o8]
structure lQ (h : Hd) (m : Nat) : Prop where
 low : ∀ p ∈ h, 0 ≤ p.1
 high : ∀ p ∈ h, p.1 < (m : Int)
 mark : ∀ p ∈ h, p.2.2 ≠ 0
theorem lQ.nil : lQ [] 0 := ⟨by simp, by simp, by simp⟩
theorem lw {α : Type} {d : List (Int × α)} {k : Int} {x : α} (h : jB d k = some x) : (k, x) ∈ d := by
 unfold jB at h
 obtain ⟨p, hp, rfl⟩ := bc.mp h
 have h1 := gA hp
 have h2 := fH hp
 simp at h1; rw [← h1]; exact h2
theorem lG {α : Type} {d : List (Int × α)} {k : Int} : jB d k = none ↔ k ∉ d.map ai := by
 unfold jB
 rw [Option.map_eq_none_iff, dR, az]
 constructor
 ·rintro h ⟨p, hp, rfl⟩; exact h p hp (by simp)
 ·intro h p hp e; exact h ⟨p, hp, by simpa using e⟩
theorem ri {α : Type} {d : List (Int × α)} {k : Int} : (jB d k).isSome = true ↔ k ∈ d.map ai := by
 cases h : jB d k with
 | none => simp only [Option.isSome_none, cj, false_iff]; exact lG.mp h
 | some x => simp only [ia, true_iff]; exact aO (f := ai) (lw h)
theorem m5 {α : Type} {d : List (Int × α)} {k j : Int} {x : α} : jB (dset d k x) j = if j = k then some x else jB d j := by
 unfold dset
 split
 ·rename_i h
  unfold jB
  rw [List.find?_map]
  by_cases e : j = k
  ·subst e
   rw [if_pos rfl]
   have : ((fun p : Int × α => decide (p.1 = j)) ∘ fun p : Int × α => if p.1 = j then (p.1, x) else p) = fun p => decide (p.1 = j) := by
    funext p; simp only [cK]; split <;> simp_all
   rw [this]
   cases hf : d.find? (fun p => decide (p.1 = j)) with
   | none =>
    rw [dR] at hf
    obtain ⟨p, hp, hq⟩ := bN.mp h
    exact absurd hq (hf p hp)
   | some p => have := gA hf; simp at this; simp [this]
  ·rw [if_neg e]
   have : ((fun p : Int × α => decide (p.1 = j)) ∘ fun p : Int × α => if p.1 = k then (p.1, x) else p) = fun p => decide (p.1 = j) := by
    funext p; simp only [cK]; split <;> simp_all
   rw [this]
   cases hf : d.find? (fun p => decide (p.1 = j)) with
   | none => rfl
   | some p =>
    have := gA hf; simp at this
    simp [this, e]
 ·rename_i h
  unfold jB
  rw [ed]
  have hn : ∀ p ∈ d, p.1 ≠ k := fun p hp e => h (bN.mpr ⟨p, hp, by simp [e]⟩)
  by_cases e : j = k
  ·subst e
   rw [if_pos rfl]
   have : d.find? (fun p => decide (p.1 = j)) = none := dR.mpr fun p hp => by simp [hn p hp]
   rw [this]; simp
  ·rw [if_neg e]
   have : [(k, x)].find? (fun p => decide (p.1 = j)) = none := by
    rw [dR]; intro p hp; simp at hp; subst hp; simpa using fun q => e q.symm
   rw [this, Option.or_none]
theorem o9 {α : Type} {d : List (Int × α)} {k : Int} {x : α} (h : jB d k = none) : dset d k x = d ++ [(k, x)] := by
 unfold dset
 rw [if_neg]
 intro q
 obtain ⟨p, hp, e⟩ := bN.mp q
 exact lG.mp h (az.mpr ⟨p, hp, by simpa using e⟩)
theorem lQ.get0 {h m} (x : lQ h m) {c : Int} (hc : c < 0 ∨ (m : Int) ≤ c) : jB h c = none := by
 cases e : jB h c with
 | none => rfl
 | some v =>
  have h1 := x.low _ (lw e)
  have h2 := x.high _ (lw e)
  simp only at h1 h2
  lia
theorem tm {h : Hd} {m i : Nat} (hi : i < m) : (o8 h m)[i]? = some ((jB h (i : Int)).getD (0, 0)).2 := by
 unfold o8; rw [ax, b8 hi]; rfl
theorem uZ {h : Hd} {m i : Nat} (hi : i < m) : (pM h m)[i]? = some ((jB h (i : Int)).getD (0, 0)).1 := by
 unfold pM; rw [ax, b8 hi]; rfl
theorem lQ.free {h m} (x : lQ h m) {c : Int} : (((jB h c).getD (0, 0)).2 = 0) ↔ hfree h c = true := by
 unfold hfree
 cases e : jB h c with
 | none => simp
 | some v => simp only [cM, Option.isNone_some, cj, iff_false]; exact x.mark _ (lw e)
noncomputable def mR (h : Hd) (cols : List Int) (b : Int) : Bool := cols.all fun c => hfree h (b + c)
noncomputable def pN (h : Hd) (cols : List Int) : Nat → Int → Int
 | 0, b => b
 | k + 1, b => if mR h cols b then b else pN h cols k (b + 1)
noncomputable def place (h : Hd) (m : Nat) (cols : List Int) : Int := pN h cols m (-(cols.headD 0))
theorem u0 {h m cols} (x : lQ h m) {b : Int} (hb : ∀ c ∈ cols, (m : Int) ≤ b + c) : mR h cols b = true := by
 unfold mR
 rw [aV]
 intro c hc
 unfold hfree; rw [x.get0 (.inr (hb c hc))]; rfl
theorem ye {h cols} : ∀ {k : Nat} {b : Int}, b ≤ pN h cols k b
 | 0, b => iR _
 | k + 1, b => by
  unfold pN; split
  ·exact iR _
  ·exact eY (by exact J2 23) (ye (k := k) (b := b + 1))
theorem yf {h cols} : ∀ {k : Nat} {b : Int}, pN h cols k b ≤ b + k
 | 0, b => by unfold pN; exact J0 18
 | k + 1, b => by
  unfold pN; split
  ·exact J21 12
  ·have := yf (h := h) (cols := cols) (k := k) (b := b + 1); exact J21 13 this
theorem ul {h cols} : ∀ {k : Nat} {b : Int}, mR h cols (b + k) = true → mR h cols (pN h cols k b) = true
 | 0, b, e => by unfold pN; simpa using e
 | k + 1, b, e => by
  unfold pN; split
  ·assumption
  ·exact ul (by rw [show b + 1 + (k : Int) = b + ((k + 1 : Nat) : Int) by exact J21 14]; exact e)
noncomputable def hput (h : Hd) (b : Int) (o : Int) (row : jN) : Hd := row.foldl (fun h p => dset h (b + p.1) (p.2, o)) h
theorem n3 {h b o p row} : hput h b o (p :: row) = hput (dset h (b + p.1) (p.2, o)) b o row := rfl
theorem um {h b o p row} : hput h b o (row ++ [p]) = dset (hput h b o row) (b + p.1) (p.2, o) := by simp [hput]
theorem BJ {h m m'} (x : lQ h m) (hm : m ≤ m') : pM h (m' + 1) = pM h m' ++ [0] := by
 unfold pM; rw [bA, aJ]
 simp [x.get0 (c := (m' : Int)) (.inr (by exact J8 12 hm))]
theorem BK {h m m'} (x : lQ h m) (hm : m ≤ m') : o8 h (m' + 1) = o8 h m' ++ [0] := by
 unfold o8; rw [bA, aJ]
 simp [x.get0 (c := (m' : Int)) (.inr (by exact J8 12 hm))]
theorem Dq {h : Hd} {m j : Nat} {v o : Int} (hj : j < m) : (pM h m).set j v = pM (dset h (j : Int) (v, o)) m := by
 apply dA
 intro i
 by_cases hi : i < m
 ·rw [uZ hi, m5]
  by_cases e : i = j
  ·subst e; rw [dl (by rw [kN]; exact hi), if_pos rfl]; rfl
  ·rw [dD (fun q => e q.symm), uZ hi, if_neg (by exact J8 13 e)]
 ·rw [a8 (by rw [eP, kN]; exact J1 0 hi), a8 (by rw [kN]; exact J1 0 hi)]
theorem Dr {h : Hd} {m j : Nat} {v o : Int} (hj : j < m) : (o8 h m).set j o = o8 (dset h (j : Int) (v, o)) m := by
 apply dA
 intro i
 by_cases hi : i < m
 ·rw [tm hi, m5]
  by_cases e : i = j
  ·subst e; rw [dl (by rw [ky]; exact hi), if_pos rfl]; rfl
  ·rw [dD (fun q => e q.symm), tm hi, if_neg (by exact J8 13 e)]
 ·rw [a8 (by rw [eP, ky]; exact J1 0 hi), a8 (by rw [ky]; exact J1 0 hi)]
theorem BL {α : Type} {d : List (Int × α)} {k : Int} {x : α} {p : Int × α} (h : p ∈ dset d k x) : p = (k, x) ∨ p ∈ d := by
 unfold dset at h
 split at h
 ·obtain ⟨q, hq, rfl⟩ := az.mp h
  by_cases e : q.1 = k
  ·rw [if_pos e]; left; rw [← e]
  ·rw [if_neg e]; exact .inr hq
 ·rcases aQ.mp h with h | h
  ·exact .inr h
  ·left; simpa using h
theorem lQ.mono {h m m'} (x : lQ h m) (hm : m ≤ m') : lQ h m' := ⟨x.low, fun p hp => by have := x.high p hp; exact J21 15 hm this, x.mark⟩
theorem lQ.dset {h m} (x : lQ h m) {k : Int} {v : Int × Int} (h0 : 0 ≤ k) (h1 : k < m) (hv : v.2 ≠ 0) : lQ (dset h k v) m := by
 refine ⟨fun p hp => ?_, fun p hp => ?_, fun p hp => ?_⟩ <;> rcases BL hp with rfl | hp
 ·exact h0
 ·exact x.low p hp
 ·exact h1
 ·exact x.high p hp
 ·exact hv
 ·exact x.mark p hp
theorem lQ.hput {m} {b o : Int} (ho : o ≠ 0) : ∀ {row : jN} {h : Hd}, lQ h m → (∀ p ∈ row, 0 ≤ b + p.1 ∧ b + p.1 < m) → lQ (hput h b o row) m
 | [], _, x, _ => x
 | p :: row, h, x, hr => by
  rw [n3]
  exact lQ.hput ho (x.dset (hr p (.head _)).1 (hr p (.head _)).2 ho) fun q hq => hr q (.tail _ hq)
theorem BM {c : Int} {cols : List Int} (h : (c :: cols).Pairwise (· < ·)) : ∀ x ∈ c :: cols, c ≤ x := fun x hx => by
 rw [cm] at h
 rcases au.mp hx with rfl | hx
 ·exact iR _
 ·have := h.1 x hx; exact J2 10 this
structure rY (cols : List Int) : Prop where
 srt : cols.Pairwise (· < ·)
 ne : cols ≠ []
 low : ∀ c ∈ cols, 0 ≤ c
 high : ∀ c ∈ cols, c < 64
theorem rY.head {cols} (x : rY cols) : ∀ c ∈ cols, cols.headD 0 ≤ c := by
 cases cols with
 | nil => exact absurd rfl x.ne
 | cons c cols => exact BM x.srt
theorem rY.headm {cols} (x : rY cols) : cols.headD 0 ∈ cols := by
 cases cols with
 | nil => exact absurd rfl x.ne
 | cons c cols => exact .head _
theorem qD {h m cols} : -(cols.headD 0) ≤ place h m cols := ye
theorem vW {h m cols} : place h m cols ≤ -(cols.headD 0) + m := yf
theorem wT {h m cols} (x : lQ h m) (y : rY cols) : mR h cols (place h m cols) = true :=
 ul (u0 x fun c hc => by have := y.head c hc; exact J21 16 this)
noncomputable def mS (cols : List Int) : Int := cols.getLastD 0
theorem rY.last {cols} (x : rY cols) : ∀ c ∈ cols, c ≤ mS cols := by
 rcases cB cols with rfl | ⟨L, y, rfl⟩
 ·exact absurd rfl x.ne
 ·intro c hc
  have := x.srt
  rw [cC] at hc this ⊢
  unfold mS
  rw [eK]
  rcases aQ.mp hc with hc | hc
  ·have := (bG.mp this).2.2 c hc y (by simp); exact J2 10 this
  ·simp at hc; exact J8 14 hc
theorem rY.lastm {cols} (x : rY cols) : mS cols ∈ cols := by
 rcases cB cols with rfl | ⟨L, y, rfl⟩
 ·exact absurd rfl x.ne
 ·unfold mS; rw [cC, eK]; simp
theorem u3 {cols : List Int} (h : cols ≠ []) : cols[((-1 : Int) + cols.length).toNat]? = some (mS cols) := by
 rcases cB cols with rfl | ⟨L, y, rfl⟩
 ·exact absurd rfl h
 ·unfold mS; rw [cC, eK]
  have : ((-1 : Int) + (L ++ [y]).length).toNat = L.length := by simp; exact J8 5
  rw [this]; simp
structure pc (d : jN) : Prop where
 srt : qR d
 low : ∀ p ∈ d, 0 ≤ p.1
 high : ∀ p ∈ d, p.1 < 64
 len : d.length < 64
theorem pc.cols {d : jN} (x : pc d) (h : d ≠ []) : rY (d.map ai) :=
 ⟨x.srt, fun e => h (eT.mp e), fun c hc => by obtain ⟨p, hp, rfl⟩ := az.mp hc; exact x.low p hp, fun c hc => by obtain ⟨p, hp, rfl⟩ := az.mp hc; exact x.high p hp⟩
structure j3 (R : List jN) : Prop where
 row : ∀ d ∈ R, pc d
 len : R.length < 64
structure St where
 h : Hd
 m : Nat
 b : List Int
noncomputable def kq (R : List jN) (st : St) (num : Int) : St :=
 ⟨hput st.h (place st.h st.m ((R.getD num.toNat []).map ai)) (num + 1) (R.getD num.toNat []), max st.m (place st.h st.m ((R.getD num.toNat []).map ai) + mS ((R.getD num.toNat []).map ai) + 1).toNat, st.b.set num.toNat (place st.h st.m ((R.getD num.toNat []).map ai))⟩
noncomputable def kg (R : List jN) (L : List Int) : St := L.foldl (kq R) ⟨[], 0, bd R.length 0⟩
theorem lY {R L num} : kg R (L ++ [num]) = kq R (kg R L) num := by simp [kg]
noncomputable def jv (R : List jN) : St := kg R (jq R)
noncomputable def km (R : List jN) : List Int := (ko R).map fun o => (jv R).b.getD o 0
noncomputable def lR (R : List jN) : List Int := pM (jv R).h (jv R).m
noncomputable def jS (R : List jN) : List Int := o8 (jv R).h (jv R).m
theorem lH {R : List jN} {num : Int} (h : num ∈ jq R) : 0 ≤ num ∧ num.toNat < R.length ∧ R.getD num.toNat [] ≠ [] ∧ R.idxOf (R.getD num.toNat []) = num.toNat := by
 unfold jq at h
 obtain ⟨p, hp, rfl⟩ := az.mp h
 have hp := (kk _).mem_iff.mp hp
 unfold o6 at hp
 obtain ⟨i, hi, rfl⟩ := az.mp hp
 obtain ⟨hi, hk⟩ := bz.mp hi
 rw [aM] at hi
 unfold mQ at hk
 simp only [a9, decide_eq_true_eq] at hk
 refine ⟨by simp [rh], by simpa [rh] using hi, ?_, by simpa [rh] using hk.1⟩
 intro e
 have := hk.2
 simp only [rh, ag] at e
 rw [e] at this; simp at this
structure mK (R : List jN) (st : St) (i : Nat) : Prop where
 ok : lQ st.h st.m
 m : st.m ≤ 64 * i
 len : st.b.length = R.length
theorem mK.zero {R} : mK R (kg R []) 0 := ⟨lQ.nil, aU _, by simp [kg]⟩
theorem mK.step {R : List jN} {st : St} {i : Nat} (x : mK R st i) (hR : j3 R) {num : Int} (h : num ∈ jq R) : mK R (kq R st num) (i + 1) := by
 obtain ⟨h0, h1, h2, _⟩ := lH h
 have hr := hR.row _ (jr (d := ([] : jN)) h1)
 have y := hr.cols h2
 have hge := qD (h := st.h) (m := st.m) (cols := (R.getD num.toNat []).map ai)
 have hle := vW (h := st.h) (m := st.m) (cols := (R.getD num.toNat []).map ai)
 have hl0 := y.head _ y.lastm
 have hl1 := y.high _ y.lastm
 have hc0 := y.low _ y.headm
 refine ⟨lQ.hput (by exact J21 17 h0) (x.ok.mono (by unfold kq; simp only; exact J21 18)) fun p hp => ?_, ?_, by unfold kq; simp only [eP]; exact x.len⟩
 ·have h1 := y.head p.1 (aO (f := ai) hp)
  have h2 := y.last p.1 (aO (f := ai) hp)
  unfold kq; simp only; lia
 ·have := x.m
  unfold kq; simp only; lia
theorem mK.take {R : List jN} (hR : j3 R) : ∀ i ≤ (jq R).length, mK R (kg R ((jq R).take i)) i
 | 0, _ => by rw [cb]; exact mK.zero
 | i + 1, hi => by
  rw [a7, aG (by exact J1 17 hi), cn, lY]
  exact (mK.take hR i (by exact J0 9 hi)).step hR (bJ _)
theorem pF {R : List jN} : (jq R).length ≤ R.length := by
 unfold jq; rw [aa, (kk _).length_eq]; exact o7
theorem mK.all {R : List jN} (hR : j3 R) : mK R (jv R) R.length := by
 have := mK.take hR (jq R).length (aU _)
 rw [aZ] at this
 have hl := pF (R := R)
 exact ⟨this.ok, by have := this.m; show (kg R (jq R)).m ≤ _; exact J21 19 hl this, this.len⟩
theorem nO {R} : (km R).length = R.length := by unfold km; rw [aa, jL]
theorem wU {R : List jN} {i : Nat} (h : i ∈ ko R) : i < R.length := by
 unfold ko at h
 obtain ⟨d, hd, rfl⟩ := az.mp h
 exact bW hd
noncomputable def vX : Option Int → PV
 | none => .none
 | some x => .int x
noncomputable def lI (b : Int) (T C : List Int) (o col : Int) : Option Int :=
 if b + col < 0 then none else match C[(b + col).toNat]? with
  | some k => if k = o + 1 then T[(b + col).toNat]? else none
  | none => none
noncomputable abbrev wB (B T C O : List Int) : PV := .ins "PackedRows" [("bases", .lst (jp B)), ("table", .lst (jp T)), ("check", .lst (jp C)), ("owners", .lst (jp O))]
noncomputable abbrev oI (L : List Nat) : List Int := L.map fun (x : Nat) => (x : Int)
noncomputable def jy (B T C : List Int) (j : Int) (c : Nat) : jN := (av c).filterMap fun i => if C.getD i 0 = j + 1 then some ((i : Int) - B.getD j.toNat 0, T.getD i 0) else none
noncomputable def lX (B T C O : List Int) : List jN := O.map fun o => jy B T C o C.length
structure yg (B T C O : List Int) : Prop where
 bo : B.length = O.length
 tc : T.length = C.length
 own : ∀ o ∈ O, 0 ≤ o ∧ o < O.length
 chk : ∀ k ∈ C, 0 ≤ k ∧ k ≤ O.length
 ol : O.length < 64
 cl : C.length ≤ 5000
theorem m3 {B T C j c} : jy B T C j (c + 1) = jy B T C j c ++ if C.getD c 0 = j + 1 then [((c : Int) - B.getD j.toNat 0, T.getD c 0)] else [] := by
 unfold jy
 rw [bA, List.filterMap_append]
 congr 1
 simp only [i6]
 by_cases e : C.getD c 0 = j + 1
 ·rw [if_pos e, if_pos e]
 ·rw [if_neg e, if_neg e]
theorem qE {B T C j c} : ∀ p ∈ jy B T C j c, p.1 < (c : Int) - B.getD j.toNat 0 := fun p hp => by
 unfold jy at hp
 obtain ⟨i, hi, e⟩ := fy.mp hp
 rw [aM] at hi
 split at e
 ·cases e; simp only; exact J21 20 hi
 ·cases e
theorem mL {B T C j} : ∀ {c : Nat}, qR (jy B T C j c)
 | 0 => by unfold jy qR; simp
 | c + 1 => by
  rw [m3]
  split
  ·unfold qR
   rw [aJ, bG]
   refine ⟨mL, by simp, fun a ha b hb => ?_⟩
   obtain ⟨p, hp, rfl⟩ := az.mp ha
   simp at hb; subst hb
   exact qE p hp
  ·rw [bl]; exact mL
theorem nE {B T C j c} : (jy B T C j c).length ≤ c := by
 have := fW (fun i => if C.getD i 0 = j + 1 then some ((i : Int) - B.getD j.toNat 0, T.getD i 0) else none) (av c)
 rw [aq] at this; exact this
noncomputable def dS (Ds : List jN) : List HO := Ds.map fun d => HO.dct (Dk .int d)
theorem m6 {Ds} : (dS Ds).length = Ds.length := by simp [dS]
noncomputable def nh (B T C : List Int) (N c : Nat) : List jN := (av N).map fun (j : Nat) => jy B T C (j : Int) c
theorem oy {B T C N c} : (nh B T C N c).length = N := by simp [nh]
theorem qF {B T C N c j} (h : j < N) : (nh B T C N c)[j]? = some (jy B T C (j : Int) c) := by
 unfold nh; rw [ax, b8 h]; rfl
theorem yh {Ds : List jN} {j : Nat} {d : jN} (h : Ds[j]? = some d) : (dS Ds)[j]? = some (HO.dct (Dk .int d)) := by unfold dS; rw [ax, h]; rfl
theorem wV {B T C N} : nh B T C N 0 = bd N [] := by
 unfold nh jy; simp [gB]
theorem wW {B T C N c} (h : C.getD c 0 = 0) : nh B T C N (c + 1) = nh B T C N c := by
 unfold nh
 refine bQ fun j _ => ?_
 rw [m3, if_neg (by exact J21 21 h), bl]
theorem zi {B T C : List Int} {N c j : Nat} (hj : j < N) (h : C.getD c 0 = (j : Int) + 1) : (dS (nh B T C N c)).set j (HO.dct (Dk .int (dset (jy B T C (j : Int) c) ((c : Int) - B.getD j 0) (T.getD c 0)))) = dS (nh B T C N (c + 1)) := by
 have hd : dset (jy B T C (j : Int) c) ((c : Int) - B.getD j 0) (T.getD c 0) = jy B T C (j : Int) (c + 1) := by
  rw [m3, if_pos h, ag]
  refine o9 (lG.mpr fun q => ?_)
  obtain ⟨p, hp, e⟩ := az.mp q
  have := qE p hp
  rw [ag] at this; exact J21 22 this e
 rw [hd]
 apply dA
 intro i
 by_cases hi : i < N
 ·rw [yh (qF hi)]
  by_cases e : i = j
  ·subst e; rw [dl (by rw [m6, oy]; exact hi)]
  ·rw [dD (fun q => e q.symm), yh (qF hi), m3, if_neg (by exact J21 23 e h), bl]
 ·rw [a8 (by rw [eP, m6, oy]; exact J1 0 hi), a8 (by rw [m6, oy]; exact J1 0 hi)]
theorem zj (P : PW W) {d : jN} (hd : qR d) (hz : d.length < 64) (h : Q (.tup (d.map kY)) H) : jZ W (n + 1) H (.ref 237) [jW d] Q := by
 wtm_at "def"
 kd_p
 exists ku kY (by wtm_at "hcap") (jP (li (lv P (by kd_mem) ?_)))
 refine lD Vw.refl hz fun a => ⟨a, _, _, rfl, rfl, _, rfl, _, d, fun p => .int p.1, by wtm_at "crho", ?_, ?_, fun p hp => ⟨_, by kd_in, ?_⟩, ?_⟩
 ·rw [re hd, aX]; rfl
 ·rw [am]; exact J0 5 hz
 ·kd_p
  exists my Vw.refl (hd.get hp) ?_
  exact rfl
 ·kd_p
  refine A0 Vw.refl (by rw [aa, am]; exact J0 5 hz) h
theorem zk {α : Type} [BEq α] [LawfulBEq α] {R : List α} {i : Nat} {k : α} (h : R[i]? = some k) (hn : k ∉ R.take i) : R.idxOf k = i := by
 obtain ⟨hi, e⟩ := aA.mp h
 have hsp : R = R.take i ++ k :: R.drop (i + 1) := by rw [← e, bY, bS]
 rw [hsp, ix, if_neg (by simpa using hn), List.idxOf_cons_self]
 simp; exact J27 7 hi
theorem pe (P : PW W) {R : List jN} (hs : ∀ d ∈ R, qR d) (hz : ∀ d ∈ R, d.length < 64) (hR : R.length < 64) (h : Q (.lst (o4 (ko R))) H) : jZ W (n + 2) H (.ref 244) [jY R] Q := by
 wtm_at "def"
 kd_p
 intro af
 kd_p
 intro ao
 kd_p
 exists jI ?_
 ·let I1 : IT jt := fun i Z => ∀ d : List (KP × Int), d.length ≤ i → (∀ k, qy d k = if k ∈ R.take i then some ((R.idxOf k : Nat) : Int) else none) → Z [lc "rows" (jY R), lc "firsts" (.ref af), lc "owners" (.ref ao), lu "number", lu "key", gb "range", gb "len", gb "row_key"] ((ao, .lst (o4 ((ko R).take i))) :: (af, .dct (wz d)) :: H)
  refine ⟨R.length, by rw [aa], by exact J0 22 hR, I1, fun Z zz => zz [] (by simp) (fun k => by simp [qy]), ?_, ?_⟩
  ·rintro i hi d hl hd
   have hk : R[i]? = some R[i] := aG hi
   have hmem : R[i] ∈ R := bJ hi
   refine ⟨_, by kd_in, ?_⟩
   exists jn (jD rfl (ny P (by kd_mem) ?_))
   refine jz (x := jW R[i]) Vw.refl (by exact J0 0) (by rw [ag, ax, hk]; rfl) (by exact J1 4 hi hR) ?_
   kd_p
   exists zj P (hs _ hmem) (hz _ hmem) ?_
   refine EM (.dct (by kd_mem)) ?_
   rw [hd]
   have hown : (ko R).take i ++ [R.idxOf R[i]] = (ko R).take (i + 1) := by
    rw [a7]; congr 1; unfold ko; rw [ax, hk]; rfl
   by_cases hin : R[i] ∈ R.take i
   ·rw [if_pos hin]
    kd_p
    exists jC.ff ?_
    exists Bh (.dct (by kd_mem)) (by rw [hd, if_pos hin]) ?_
    ·rw [tj, hown]
     refine jx.nx (by kd_all) (fun Z zz => zz d (by exact J9 15 hl) (fun k => ?_))
     rw [hd, a7, hk, cn]; simp only [aQ, aP]
     by_cases e : k = R[i]
     ·rw [e, if_pos hin, if_pos (.inl hin)]
     ·simp [e]
    ·rw [aa, bg, jL, am]; exact J9 16 hR
   ·rw [if_neg hin]
    have hidx : R.idxOf R[i] = i := zk hk hin
    kd_p
    exists jC.tt ?_
    refine EN rfl (by rw [hd, if_neg hin]) (by wtm_at "updh") (by rw [am]; exact J4 0 hl hi hR) ?_
    have hd' : ∀ k, qy (d ++ [(R[i], (i : Int))]) k = if k ∈ R.take (i + 1) then some ((R.idxOf k : Nat) : Int) else none := fun k => by
     rw [a7, hk, cn]; simp only [aQ, aP]
     have : qy (d ++ [(R[i], (i : Int))]) k = (qy d k).or (if R[i] = k then some (i : Int) else none) := by
      unfold qy; rw [ed]
      cases d.find? (fun p => decide (p.1 = k)) with
      | some p => rfl
      | none => by_cases e : R[i] = k <;> simp [e]
     rw [this, hd]
     by_cases e : R[i] = k
     ·subst e
      rw [if_neg hin, if_pos rfl, if_pos (.inr rfl), hidx]; rfl
     ·have e' : ¬ k = R[i] := fun q => e q.symm
      rw [if_neg e]
      by_cases h : k ∈ R.take i <;> simp [h, e']
    kd_p
    refine Bh (i := i) (.dct (by kd_mem)) (by rw [hd', if_pos (by rw [a7, hk]; exact cz _ (.head _)), hidx]) ?_
    kd_p
    ·rw [tj, show (ko R).take i ++ [i] = (ko R).take (i + 1) by rw [← hown, hidx]]
     exact jx.nx (by kd_all) (fun Z zz => zz _ (by rw [cf]; simp; exact J7 17 hl) hd')
    ·rw [aa, bg, jL, am]; exact J9 16 hR
  ·rintro d hl hd
   rw [show (ko R).take R.length = ko R from br (by rw [jL]; exact aU _)]
   exists jn (jR (Ev.frz ?_))
   refine ⟨_, _, _, _, .two, .lst (.head _) .refl, mV.refl, ?_⟩
   exact h
 ·rw [aa, am]; exact J0 5 hR
theorem rZ (P : PW W) {R : List jN} (hz : ∀ d ∈ R, d.length < 64) (hR : R.length < 64) (h : Q (.lst (jp (jq R))) H) : jZ W (n + 1) H (.ref 249) [jY R, .lst (o4 (ko R))] Q := by
 wtm_at "def"
 kd_p
 intro ak
 kd_p
 exists jI ?_
 ·let I1 : IT jt := fun i Z => Z [lc "rows" (jY R), lc "owners" (.lst (o4 (ko R))), lc "keyed" (.ref ak), lu "number", gb "range", gb "len", gb "sorted"] ((ak, .lst ((((av i).filter (mQ R)).map (rh R)).map kY)) :: H)
  refine ⟨R.length, by rw [aa], by exact J0 22 hR, I1, fun Z zz => zz, ?_, ?_⟩
  ·rintro i hi
   refine ⟨_, by kd_in, ?_⟩
   have hk := jM (d := ([] : jN)) hi
   have hl := hz _ (jr (d := ([] : jN)) hi)
   have ho : (o4 (ko R))[(i : Int).toNat]? = some (PV.int ((R.idxOf (R.getD i []) : Nat) : Int)) := by
    rw [ag]; exact yd (by unfold ko; rw [ax, hk]; rfl)
   have hr : (R.map jW)[(i : Int).toNat]? = some (jW (R.getD i [])) := by rw [ag, ax, hk]; rfl
   kd_p
   exists jz Vw.refl (by exact J0 0) ho (by exact J1 4 hi hR) ?_
   have step : ∀ b, b = mQ R i → (((av (i + 1)).filter (mQ R)).map (rh R)).map kY = (((av i).filter (mQ R)).map (rh R)).map kY ++ if b then [kY (rh R i)] else [] := fun b e => by
    rw [bA, cF, aJ, aJ]
    congr 1
    subst e
    by_cases q : mQ R i = true <;> simp [q]
   refine jC.dec (fun h1 => ?_) fun h1 => ?_
   ·kd_p
    exists jz Vw.refl (by exact J0 0) hr (by exact J1 4 hi hR) ?_
    ·refine jC.dec (fun h2 => ?_) fun h2 => ?_
     ·kd_p
      exists jz Vw.refl (by exact J0 0) hr (by exact J1 4 hi hR) ?_
      ·have := step true (by unfold mQ; rw [decide_eq_true (by exact J1 20 h1), decide_eq_true (by exact J4 4 h2)]; rfl)
       rw [if_pos rfl] at this
       exact jx.nx (by kd_all) (Of.eqH (by rw [this]; rfl) (fun Z zz => zz))
      ·rw [aa, aa, am]
       have := bm (mQ R) (av i)
       rw [aq] at this; exact J4 0 this hi hR
      ·rw [am]; lia
     ·kd_p
      have := step false (by unfold mQ; rw [decide_eq_true (show R.idxOf (R.getD i []) = i by exact J1 20 h1), decide_eq_false (by exact J7 20 h2)]; rfl)
      rw [if_neg (by simp), bl] at this
      exact jx.nx (by kd_all) (Of.eqH (by rw [this]) (fun Z zz => zz))
    ·rw [am]; lia
   ·kd_p
    have := step false (by unfold mQ; rw [decide_eq_false (show ¬ R.idxOf (R.getD i []) = i by exact J7 21 h1)]; rfl)
    rw [if_neg (by simp), bl] at this
    exact jx.nx (by kd_all) (Of.eqH (by rw [this]) (fun Z zz => zz))
  ·show lm _ _ _ _ _ _
   have hkl := o7 (R := R)
   exists jn (jR (kR (ku (fun x : Int × Int => PV.int x.2) (by wtm_at "hcap") (jP (li (lv P (by kd_mem) ?_))))))
   refine rc (L := o6 R) (.lst (.head _)) (by exact J4 1 hkl hR) fun a => ⟨a, _, _, rfl, rfl, _, rfl, _, nB (o6 R), kY, by wtm_at "crho", rfl, by rw [(kk _).length_eq, am]; exact J29 16 hkl hR, fun x hx => ⟨_, by kd_in, ?_⟩, _, _, .one, ?_⟩
   ·kd_p
    exists kJ (x := .int x.2) Vw.refl (by decide) rfl (by decide) ?_
    exact rfl
   ·rw [show jp (jq R) = (nB (o6 R)).map (fun x : Int × Int => PV.int x.2) by unfold jq; simp] at h
    exact h
 ·rw [aa, am]; exact J0 5 hR
theorem vY (P : PW W) {c : Addr} (h : ∀ k t, Q .none [(k, .lst []), (t, .lst []), (c, .ins "Comb" [("table", .ref t), ("check", .ref k)])]) : jZ W (n + 1) [(c, .ins "Comb" [])] (.ref 263) [.ref c] Q := by
 wtm_at "def"
 kd_p
 intro t
 kd_p
 intro k
 kd_p
 exact h k t
noncomputable abbrev ni (k t a : Addr) (h : Hd) (m : Nat) : HH := [(k, .lst (jp (o8 h m))), (t, .lst (jp (pM h m))), (a, .ins "Comb" [("table", .ref t), ("check", .ref k)])]
section
variable {k t a : Addr} {h : Hd} {m : Nat}
theorem qG : (jp (o8 h m)).length = m := by simp [ky]
theorem yi : (jp (pM h m)).length = m := by simp [kN]
theorem BN (hm : m ≤ 5000) : (jp (o8 h m)).length ≤ sizeLine := by rw [qG, am]; exact J0 8 hm
theorem Ff (hm : m ≤ 5000) : (jp (pM h m)).length ≤ sizeLine := by rw [yi, am]; exact J0 8 hm
theorem zm (P : PW W) (x : lQ h m) (hm : m ≤ 5000) {c : Int} (h0 : 0 ≤ c) (hq : Q (.bool (hfree h c)) (ni k t a h m)) : jZ W (n + 1) (ni k t a h m) (.ref 270) [.ref a, .int c] Q := by
 wtm_at "def"
 have hs := BN (h := h) hm
 kd_p
 refine ⟨_, rfl, jC.dec (fun h1 => ?_) fun h1 => ?_⟩
 ·rw [qG] at h1
  have : hfree h c = true := by unfold hfree; rw [x.get0 (.inr (by exact J29 17 h1))]; rfl
  rw [this] at hq; exact hq
 ·rw [qG] at h1
  kd_p
  refine jz (x := .int ((jB h c).getD (0, 0)).2) (.lst (.head _)) h0 ?_ (by exact J29 18 hm h1) ?_
  ·refine pE ?_
   rw [tm (by exact J29 19 h0 h1), bP h0]
  ·kd_p
   have : hfree h c = decide (((jB h c).getD (0, 0)).2 = 0) := by
    have := x.free (c := c)
    by_cases e : hfree h c = true
    ·rw [e, decide_eq_true (this.mpr e)]
    ·rw [decide_eq_false (fun q => e (this.mp q))]; simpa using e
   rw [this] at hq; exact hq
theorem Fg (P : PW W) (x : lQ h m) (hm : m ≤ 5000) {b : Int} {cols : List Int} (h0 : ∀ c ∈ cols, 0 ≤ b + c) (hq : Q (.bool (mR h cols b)) (ni k t a h m)) : jZ W (n + 2) (ni k t a h m) (.ref 277) [.ref a, .int b, .lst (jp cols)] Q := by
 wtm_at "def"
 kd_p
 exists mZ (α := Int) ?_
 let I1 : IT jt := fun i Z => (∀ c ∈ cols.take i, hfree h (b + c) = true) → Z [lc "self" (.ref a), lc "base" (.int b), lc "columns" (.lst (jp cols)), lu "column"] (ni k t a h m)
 refine ⟨cols, PV.int, rfl, I1, fun Z zz => zz (by simp), ?_, ?_⟩
 ·rintro i c hc hi
  refine ⟨_, by kd_in, jn (kI (oT (oh (x_meth ?_))))⟩
  have hmem := aS hc
  kd_p
  exists zm P x hm (h0 c hmem) ?_
  cases e : hfree h (b + c) with
  | true =>
   exists jC.ff ?_
   refine jx.nx (by kd_all) (fun Z zz => zz (fun c' hc' => ?_))
   rw [a7, hc] at hc'
   rcases aQ.mp hc' with hc' | hc'
   ·exact hi c' hc'
   ·simp at hc'; rw [hc']; exact e
  | false =>
   exists jC.tt ?_
   show Q (.bool false) _
   have : mR h cols b = false := by
    unfold mR; rw [iy]; exact ⟨c, hmem, by simp [e]⟩
   rw [this] at hq; exact hq
 ·rintro hi
  kd_p
  have : mR h cols b = true := by
   unfold mR; rw [aV]; rw [aZ] at hi; exact hi
  rw [this] at hq; exact hq
theorem vZ (P : PW W) (x : lQ h m) (hm : m ≤ 5000) {cols : List Int} (y : rY cols) (hq : Q (.int (place h m cols)) (ni k t a h m)) : jZ W (n + 3) (ni k t a h m) (.ref 284) [.ref a, .lst (jp cols)] Q := by
 wtm_at "def"
 kd_p
 refine jz (x := .int (cols.headD 0)) Vw.refl (by decide) ?_ (by decide) ?_
 ·cases cols with
  | nil => exact absurd rfl y.ne
  | cons c cols => rfl
 kd_p
 let I2 : IT jt := fun j Z => ∀ b, b = -(cols.headD 0) + m - j → j ≤ m → pN h cols j b = place h m cols → Z [lc "self" (.ref a), lc "columns" (.lst (jp cols)), lc "base" (.int b)] (ni k t a h m)
 refine lE I2 m (fun Z zz => zz _ (by exact J29 20) (aU _) rfl) ?_
 rintro j b hb hj hf
 exists oT (oh (x_meth ?_))
 refine Fg P x hm (fun c hc => by have := y.head c hc; exact J29 21 this hj hb) ?_
 kd_p
 cases e : mR h cols b with
 | true =>
  exists jC.ff ?_
  have : b = place h m cols := by
   rw [← hf]; cases j with
   | zero => rfl
   | succ j => unfold pN; rw [if_pos e]
  subst this
  exact hq
 | false =>
  exists jC.tt ?_
  cases j with
  | zero => rw [u0 x fun c hc => by have := y.head c hc; exact J7 22 this hb] at e; cases e
  | succ j => exact jx.nx (by kd_all) ⟨j, f0 _, fun Z zz => zz _ (by exact J7 23 hb) (by exact J0 9 hj) (by rw [← hf]; conv => rhs; unfold pN; rw [if_neg (by rw [e]; simp)])⟩
theorem Fh (P : PW W) (x : lQ h m) {many : Nat} (hm : many ≤ 5000) (hm' : m ≤ 5000) (hq : Q .none (ni k t a h (max m many))) : jZ W (n + 1) (ni k t a h m) (.ref 291) [.ref a, .int (many : Nat)] Q := by
 wtm_at "def"
 let I3 : IT jt := fun j Z => ∀ m', j = many - m' → m ≤ m' → m' ≤ max m many → Z [lc "self" (.ref a), lc "many" (.int (many : Nat)), gb "len"] (ni k t a h m')
 refine jn (lE I3 (many - m) (fun Z zz => zz m rfl (aU _) (by exact J29 22)) ?_)
 rintro j m' hj h1 h2
 have hs := BN (h := h) (m := m') (by exact J10 0 hm' hm h2)
 have hs' := Ff (h := h) (m := m') (by exact J10 0 hm' hm h2)
 kd_p
 rw [qG]
 refine jC.dec (fun h3 => ?_) fun h3 => ?_
 ·kd_p
  rw [o5, o5, ← BK x h1, ← BJ x h1]
  exact jx.nx (by kd_all) ⟨_, by exact J2 21 hj h3, fun Z zz => zz (m' + 1) rfl (by exact J9 15 h1) (by exact J29 23 h3)⟩
 ·kd_p
  have : m' = max m many := by exact J30 0 h1 h2 h3
  rw [this]; exact hq
theorem GN (P : PW W) (x : lQ h m) (hm : m ≤ 4900) {row : jN} (y : rY (row.map ai)) (hz : row.length < 64) {o : Int} (ho : 0 ≤ o)
  (hq : Q (.int (place h m (row.map ai))) (ni k t a (hput h (place h m (row.map ai)) (o + 1) row) (max m (place h m (row.map ai) + mS (row.map ai) + 1).toNat))) : jZ W (n + 4) (ni k t a h m) (.ref 298) [.ref a, .int o, jW row] Q := by
 have hsrt : qR row := y.srt
 have hge := qD (h := h) (m := m) (cols := row.map ai)
 have hle := vW (h := h) (m := m) (cols := row.map ai)
 have hl0 := y.head _ y.lastm
 have hl1 := y.high _ y.lastm
 have hc0 := y.low _ y.headm
 generalize hb : place h m (row.map ai) = b at *
 wtm_at "def"
 exists jn (jD rfl (li (lv P (by kd_mem) ?_)))
 refine lD Vw.refl hz fun al => ⟨al, _, _, rfl, rfl, ?_⟩
 rw [re y.srt]
 kd_p
 refine vZ P x (by exact J10 1 hm) y ?_
 rw [hb]
 kd_p
 refine nY (x := .int (mS (row.map ai))) Vw.refl (by decide) (by rw [aa, aa]; have := bI.mpr y.ne; rw [aa] at this; exact J3 22 this) (by rw [show (jp (row.map ai)).length = (row.map ai).length by simp]; exact pE (u3 y.ne)) (by decide) ?_
 kd_p
 generalize hmany : (b + mS (row.map ai) + 1).toNat = many at *
 rw [show b + mS (row.map ai) + 1 = (many : Int) by exact J30 1 hl0 hge hmany]
 exists Fh P x (by exact J30 2 hle hc0 hm hmany hl1) (by exact J10 1 hm) ?_
 exists mZ (α := Int × Int) ?_
 have hin : ∀ p ∈ row, 0 ≤ b + p.1 ∧ b + p.1 < (max m many : Nat) := fun p hp => by
  have h1 := y.head p.1 (aO (f := ai) hp)
  have h2 := y.last p.1 (aO (f := ai) hp)
  exact J30 3 h1 h2 hge hmany
 let I4 : IT jt := fun i Z => Z [lc "self" (.ref a), lc "owner" (.int o), lc "row" (jW row), lc "columns" (.lst (jp (row.map ai))), lc "base" (.int b), lu "column", gb "sorted"] (ni k t a (hput h b (o + 1) (row.take i)) (max m many))
 refine ⟨row, fun p => .int p.1, by rw [aX]; rfl, I4, fun Z zz => zz, ?_, ?_⟩
 ·rintro i p hp
  have hmem := aS hp
  have hpi := hin p hmem
  exists ⟨_, by kd_in, ?_⟩
  exists my Vw.refl (hsrt.get hmem) ?_
  refine mw (by wtm_at "updh") hpi.1 (by exact J10 2 hle hc0 hm hpi hmany hl1) (by rw [yi]; exact J10 3 hpi) ?_
  kd_p
  refine mw (by wtm_at "updh") hpi.1 (by exact J10 2 hle hc0 hm hpi hmany hl1) (by rw [qG]; exact J10 3 hpi) ?_
  kd_p
  have hj : (b + p.1).toNat < max m many := by exact J30 4 hpi
  rw [qC, qC, Dq (o := o + 1) hj, Dr (v := p.2) hj, bP hpi.1, ← um, show row.take i ++ [p] = row.take (i + 1) by rw [a7, hp]; rfl]
  exact jx.nx (by kd_all) (fun Z zz => zz)
 ·show lm _ _ _ _ _ _
  kd_p
  rw [aZ]
  exact hq
end
noncomputable abbrev yj (k t a : Addr) (h : Hd) (m : Nat) (H : HH) : HH := (k, .lst (jp (o8 h m))) :: (t, .lst (jp (pM h m))) :: (a, .ins "Comb" [("table", .ref t), ("check", .ref k)]) :: H
theorem Fi (P : PW W) (h : ∀ c k t, Q (.ref c) (yj k t c [] 0 H)) : jZ W (n + 2) H (.ref 301) [] Q :=
 Bm P fun a => jZ.frame (P := [(a, .ins "Comb" [])]) (R := H) (.l .all) (vY P fun k t => ⟨rfl, h a k t⟩)
noncomputable abbrev yk (R : List jN) : PV := .tup [.lst (jp (km R)), .lst (jp (lR R)), .lst (jp (jS R))]
theorem rL (P : PW W) {R : List jN} (hR : j3 R) (h : Q (yk R) H) : jZ W (n + 6) H (.ref 310) [jY R] Q := by
 have hlen := hR.len
 wtm_at "def"
 kd_p1
 kd_p1
 exists ny P (by kd_mem) ?_
 exists pe P (fun d hd => (hR.row d hd).srt) (fun d hd => (hR.row d hd).len) hR.len ?_
 exists Fi P fun c k t => ?_
 exists nc (by wtm_at "hcap") (sR (fun _ : jN => PV.int 0) (jP ?_))
 refine ⟨_, rfl, _, R, jW, by wtm_at "crho", rfl, by rw [am]; exact J0 5 hlen, fun d hd => ⟨_, by kd_in, ?_⟩, fun D => ?_⟩
 ·kd_p
  exact rfl
 kd_p
 refine x5 (H' := yj k t c [] 0 ((D, .lst (jp (kg R []).b)) :: H)) ?_ ?_
 ·have : (R.map fun x => PV.int 0) = jp (kg R []).b := by
   show _ = jp (bd R.length 0)
   simp [gB]
  rw [this]
  exact (List.perm_middle (l₁ := yj k t c [] 0 [])).symm
 exists mZ (α := Int) (ny P (by kd_mem) ?_)
 let I1 : IT jt := fun i Z => Z [lc "rows" (jY R), lc "owners" (.lst (o4 (ko R))), lc "comb" (.ref c), cc "bases" (.ref D), lu "number", gb "owners_of", gb "Comb", gb "packing_order"] (yj k t c (kg R ((jq R).take i)).h (kg R ((jq R).take i)).m ((D, .lst (jp (kg R ((jq R).take i)).b)) :: H))
 refine rZ P (fun d hd => (hR.row d hd).len) hR.len ⟨jq R, PV.int, rfl, I1, fun Z zz => zz, ?_, ?_⟩
 ·rintro i num hnum
  have hi := (aA.mp hnum).1
  have hmem := aS hnum
  obtain ⟨h0, h1, h2, _⟩ := lH hmem
  have hok := mK.take hR i (by exact J2 14 hi)
  have hrow := hR.row _ (jr (d := ([] : jN)) h1)
  have hol := pF (R := R)
  have hm := hok.m
  have hbl := hok.len
  have e : kg R ((jq R).take (i + 1)) = kq R (kg R ((jq R).take i)) num := by rw [show (jq R).take (i + 1) = (jq R).take i ++ [num] by rw [a7, hnum]; rfl, lY]
  show lL _ _ _ _
  generalize kg R ((jq R).take i) = st at *
  exists ⟨_, by kd_in, ?_⟩
  refine jz (x := jW (R.getD num.toNat [])) Vw.refl h0 (by rw [ax, jM (d := ([] : jN)) h1]; rfl) (by exact J4 11 hlen h1) ?_
  kd_p
  exists jZ.frame (P := ni k t c st.h st.m) (R := (D, .lst (jp st.b)) :: H) (.l (.l (.l .all))) (GN P hok.ok (by exact J30 5 hol hm hi hlen) (hrow.cols h2) hrow.len h0 ?_)
  refine mw (.tail (.tail (.tail .head))) h0 (by exact J4 11 hlen h1) (by rw [aa, hbl]; exact J3 17 h1) ?_
  kd_p
  exact jx.nx (by kd_all) (Of.eqH (by rw [e, qC]; rfl) (fun Z zz => zz))
 ·show lm _ _ _ _ _ _
  rw [aZ]
  have hok := mK.all hR
  change mK R (kg R (jq R)) R.length at hok
  have hm := hok.m
  exists jn (jR (Ev.frz (sB rfl (jA (ku (fun o : Nat => PV.int ((jv R).b.getD o 0)) (by wtm_at "hcap") (jP ?_))))))
  refine ⟨_, rfl, _, ko R, fun o => PV.int (o : Nat), by wtm_at "crho", rfl, by rw [jL, am]; exact J0 5 hlen, fun o ho => ⟨_, by kd_in, ?_⟩, ?_⟩
  ·kd_p
   have := wU ho
   refine jz (x := .int ((jv R).b.getD o 0)) (.lst (.tail _ (.tail _ (.tail _ (.head _))))) (by exact J0 0) (by rw [ag]; exact pE (jM (by have := hok.len; exact J0 4 this ‹_›))) (by exact J1 4 this hlen) ?_
   kd_p
   exact rfl
  ·kd_p
   refine ⟨H, _, H, yk R, .r (.r (.r (.r .none))), .tup (.cons ?_ (.cons (.lst (.tail _ (.head _)) .refl) (.cons (.lst (.head _) .refl) .refl))), mV.refl, h⟩
   have : (ko R).map (fun o : Nat => PV.int ((jv R).b.getD o 0)) = jp (km R) := by unfold km; simp
   rw [this]; exact .refl
theorem pO {L : List Int} (h : L.length ≤ 5000) : (jp L).length ≤ sizeLine := by rw [aa, am]; exact J0 8 h
theorem j9 {L : List Int} {k : Int} {po : PV} (w : Vw H po (.lst (jp L))) (h0 : 0 ≤ k) (h1 : k.toNat < L.length) (hs : L.length ≤ 5000) (h : Q (.int (L.getD k.toNat 0)) H) : oP W n H po (.int k) Q :=
 jz w h0 (pE (jM h1)) (by exact J7 19 hs h1) h
theorem rj (P : PW W) {B T C : List Int} {o col : Int} {row : Nat} (hr : row < B.length) (hB : B.length ≤ 5000) (hT : C.length ≤ T.length) (hC : T.length ≤ 5000) (h : Q (vX (lI (B.getD row 0) T C o col)) H) :
  jZ W (n + 1) H (.ref 317) [.lst (jp B), .lst (jp T), .lst (jp C), .int o, .int (row : Nat), .int col] Q := by
 have hs := pO (L := C) (by exact J5 3 hT hC)
 wtm_at "def"
 kd_p
 refine j9 Vw.refl (by exact J0 0) (by exact J0 1 hr) hB ?_
 rw [ag]
 generalize B.getD row 0 = b at *
 kd_p
 refine jC.dec (fun h1 => ?_) fun h1 => ?_
 ·kd_p
  unfold lI at h; rw [if_pos h1] at h; exact h
 unfold lI at h; rw [if_neg h1] at h
 kd_p
 rw [aa]
 refine jC.dec (fun h2 => ?_) fun h2 => ?_
 ·kd_p
  rw [a8 (by exact J30 6 h2)] at h; exact h
 have h3 : (b + col).toNat < C.length := by exact J30 7 h2 h1
 rw [jM (d := (0 : Int)) h3] at h
 simp only at h
 kd_p
 exists j9 Vw.refl (by exact J3 2 h1) h3 (by exact J5 3 hT hC) ?_
 refine jC.dec (fun h4 => ?_) fun h4 => ?_
 ·kd_p
  rw [if_neg h4] at h; exact h
 ·kd_p
  rw [if_pos (by simpa using h4), jM (d := (0 : Int)) (by exact J10 4 hT h3)] at h
  refine j9 Vw.refl (by exact J3 2 h1) (by exact J10 4 hT h3) (by exact J0 7 hC) ?_
  exact h
theorem nj (P : PW W) {b t c o : PV} (h : Q (.ins "PackedRows" [("bases", b), ("table", t), ("check", c), ("owners", o)]) H) : jZ W (n + 2) H (.ref 379) [b, t, c, o] Q := by
 refine jZ.frz (tb P fun a => ?_)
 wtm_at "def"
 kd_p
 exact ⟨rfl, _, _, _, _, .one, .ins (.head _) .refl, mV.refl, h⟩
theorem kz (P : PW W) {R : List jN} (hR : j3 R) (h : Q (wB (km R) (lR R) (jS R) (oI (ko R))) H) : jZ W (n + 7) H (.ref 390) [jY R] Q := by
 wtm_at "def"
 exists jn (om rfl rfl (ny P (by kd_mem) ?_))
 exists rL P hR (mW (xs := ["bases", "table", "check"]) (ps := [.lst (jp (km R)), .lst (jp (lR R)), .lst (jp (jS R))]) Vw.refl rfl (.cons (by kd_in) (.cons (by kd_in) (.cons (by kd_in) .nil))) ?_)
 exists pe P (fun d hd => (hR.row d hd).srt) (fun d hd => (hR.row d hd).len) hR.len ?_
 rw [Ek]
 exact nj P h
theorem tn (P : PW W) {B T C O : List Int} {row : Nat} {col : Int} (hr : row < B.length) (hB : B.length ≤ 5000) (ho : row < O.length) (hO : O.length ≤ 5000) (hT : C.length ≤ T.length) (hC : T.length ≤ 5000) (h : Q (vX (lI (B.getD row 0) T C (O.getD row 0) col)) H) :
  jZ W (n + 2) H (.ref 338) [wB B T C O, .int (row : Nat), .int col] Q := by
 wtm_at "def"
 kd_p
 refine j9 Vw.refl (by exact J0 0) (by exact J0 1 ho) hO ?_
 rw [ag]
 kd_p
 exact rj P hr hB hT hC h
theorem oz (P : PW W) {B T C O : List Int} (hT : T.length ≤ 5000) (h : Q (.int (T.length : Nat)) H) : jZ W (n + 1) H (.ref 350) [wB B T C O] Q := by
 have hs := pO hT
 wtm_at "def"
 kd_p
 rw [aa]
 exact h
theorem Fj (P : PW W) {B T C O : List Int} (hT : C.length ≤ 5000) (h : Q (.int ((C.filter fun k => decide (k = 0)).length : Nat)) H) : jZ W (n + 1) H (.ref 355) [wB B T C O] Q := by
 wtm_at "def"
 exists jn (jR (vQ P (by kd_mem) (jA (lj (fun k : Int => decide (k = 0)) PV.int (by wtm_at "hcap") (jP ?_)))))
 refine ⟨_, rfl, _, C, PV.int, by wtm_at "crho", rfl, by rw [am]; exact J0 8 hT, fun k hk => ⟨_, by kd_in, ?_⟩, ?_⟩
 ·kd_p
  intro h1
  kd_p
  exact rfl
 ·have hl := bm (fun k : Int => decide (k = 0)) C
  have hs := pO (L := C.filter fun k => decide (k = 0)) (by exact J5 3 hl hT)
  kd_p
  rw [aa]
  exact h
theorem tp (P : PW W) {B T C O : List Int} (x : yg B T C O) (h : ∀ (D : Addr) (bs : List Addr), bs.length = O.length → Q (.ref D) ((D, .lst (bs.map .ref)) :: (slots bs (dS (lX B T C O)) ++ H))) : jZ W (n + 1) H (.ref 343) [wB B T C O] Q := by
 have hbo := x.bo
 have htc := x.tc
 have hol := x.ol
 have hcl := x.cl
 wtm_at "def"
 exists jn (nc (by wtm_at "hcap") (jP ?_))
 refine ⟨_, rfl, _, fun i ys H' => i ≤ O.length ∧ ∃ as : List Addr, as.length = i ∧ ys = as.map .ref ∧ H' = (slots as (dS (bd i []))).reverse ++ H, by wtm_at "crho", ⟨bF _, [], rfl, rfl, rfl⟩, ?_, ?_, ?_⟩
 ·rintro i ys _ ⟨hi, as, ha, rfl, rfl⟩
  rw [aa, am]; exact J10 5 hi ha hol
 ·rintro i p ys _ hp ⟨hi, as, ha, rfl, rfl⟩
  exists ⟨_, by kd_in, jC.tt ?_⟩
  intro a
  have hi2 : i < O.length := by
   have := (aA.mp hp).1
   rw [aa] at this; exact this
  refine ⟨by exact J3 14 hi2, as ++ [a], by simp [ha], by simp, ?_⟩
  rw [List.replicate_succ', show dS (bd i [] ++ [[]]) = dS (bd i []) ++ [.dct []] by simp [dS, Dk], th (by rw [m6, List.length_replicate]; exact ha), gZ]
  rfl
 rintro ys _ ⟨_, as, ha, rfl, rfl⟩ D
 rw [aa] at ha ⊢
 kd_p
 refine x5 (H' := (D, .lst (as.map .ref)) :: (slots as (dS (nh B T C O.length 0)) ++ H)) ?_ ?_
 ·rw [wV]
  exact gM _ (gq _ (iz _))
 refine jI ?_
 have hsC := pO (L := C) (by exact J0 7 hcl)
 kd_p
 rw [aa]
 let I1 : IT jt := fun i Z => Z [lc "self" (wB B T C O), lu "owner", cc "held" (.ref D), lu "cell", gb "range", gb "len"] ((D, .lst (as.map .ref)) :: (slots as (dS (nh B T C O.length i)) ++ H))
 refine ⟨C.length, rfl, by exact J0 17 hcl, I1, fun Z zz => zz, ?_, ?_⟩
 ·rintro i hi
  have hk := x.chk _ (jr (d := (0 : Int)) hi)
  exists ⟨_, by kd_in, ?_⟩
  refine j9 Vw.refl (by exact J0 0) (by exact J0 1 hi) (by exact J0 7 hcl) ?_
  rw [ag]
  kd_p
  generalize hkk : C.getD i 0 = k at *
  refine jC.dec (fun h1 => ?_) fun h1 => ?_
  ·obtain ⟨j, rfl⟩ : ∃ j : Nat, k = (j : Int) + 1 := ⟨(k - 1).toNat, by exact J30 8 hk h1⟩
   have hj : j < O.length := by exact J30 9 hk
   kd_p
   refine j9 Vw.refl (by exact J0 0) (by exact J0 1 hi) (by exact J0 7 hcl) ?_
   rw [ag, hkk]
   kd_p
   rw [show (j : Int) + 1 - 1 = (j : Int) by exact J30 10]
   refine j9 Vw.refl (by exact J0 0) (by exact J0 2 htc hi) (by exact J0 3 hcl htc) ?_
   rw [ag]
   kd_p
   have haj : as[j]? = some as[j] := aG (by exact J30 11 hk ha)
   refine jz (x := .ref as[j]) (.lst (.head _)) (by exact J0 0) (by rw [ag, ax, haj]; rfl) (by exact J30 12 hk hol) ?_
   kd_p
   refine j9 Vw.refl (by exact J0 0) (by exact J30 13 hk hbo) (by exact J0 10 hbo hol) ?_
   rw [ag]
   kd_p
   refine kK (f := PV.int) rfl (.tail (uk haj (yh (qF hj)))) (by rw [am]; have := nE (B := B) (T := T) (C := C) (j := (j : Int)) (c := i); exact J6 17 this hcl hi) ?_
   kd_p
   rw [zi hj hkk]
   exact jx.nx (by kd_all) (fun Z zz => zz)
  ·kd_p
   rw [← wW (B := B) (T := T) (N := O.length) (show C.getD i 0 = 0 by rw [hkk]; exact J1 11 h1)]
   exact jx.nx (by kd_all) (fun Z zz => zz)
 ·show lm _ _ _ _ _ _
  exists jn (jR (Bw (kR (qr (by wtm_at "hcap") (jP ?_)))))
  refine ⟨_, rfl, _, fun i ys H' => i ≤ O.length ∧ ∃ bs : List Addr, bs.length = i ∧ ys = bs.map .ref ∧ H' = (slots bs (dS ((O.take i).map fun o => jy B T C o C.length))).reverse ++ ((D, .lst (as.map .ref)) :: (slots as (dS (nh B T C O.length C.length)) ++ H)), by wtm_at "crho", ⟨bF _, [], rfl, rfl, rfl⟩, ?_, ?_, ?_⟩
  ·rintro i ys _ ⟨hi, bs, hb, rfl, rfl⟩
   rw [aa, am]; exact J10 5 hi hb hol
  ·rintro i p ys _ hp ⟨hi, bs, hb, rfl, rfl⟩
   obtain ⟨o, ho, rfl⟩ : ∃ o, O[i]? = some o ∧ p = .int o := by
    rw [ax] at hp
    obtain ⟨o, ho, rfl⟩ := bc.mp hp
    exact ⟨o, ho, rfl⟩
   have hoo := x.own o (aS ho)
   have hiO := (aA.mp ho).1
   obtain ⟨j, rfl⟩ : ∃ j : Nat, o = (j : Int) := ⟨o.toNat, by exact J4 21 hoo⟩
   have haj : as[j]? = some as[j] := aG (by exact J30 14 hoo ha)
   exists ⟨_, by kd_in, jC.tt (td P (by kd_mem) ?_)⟩
   refine jz (x := .ref as[j]) (.lst (cz _ (.head _))) (by exact J0 0) (by rw [ag, ax, haj]; rfl) (by exact J30 15 hoo hol) ?_
   kd_p
   refine ui (f := PV.int) (.dct (cz _ (.tail _ (y7 haj (yh (qF (by exact J4 22 hoo))))))) (by rw [am]; have := nE (B := B) (T := T) (C := C) (j := (j : Int)) (c := C.length); exact J30 16 this hcl) fun b => ?_
   refine ⟨by exact J3 14 hiO, bs ++ [b], by simp [hb], by simp, ?_⟩
   rw [a7, ho, cn, aJ, show ∀ L M : List jN, dS (L ++ M) = dS L ++ dS M by intro L M; simp [dS], List.map_singleton, show dS [jy B T C (j : Int) C.length] = [HO.dct (Dk .int (jy B T C (j : Int) C.length))] from rfl, th (by rw [m6, aa, bg]; exact J30 17 hi hb), gZ]
   rfl
  ·rintro ys _ ⟨_, bs, hb, rfl, rfl⟩ D2
   rw [aa] at hb ⊢
   rw [aZ]
   refine ⟨_, _, .l (jK.pre (S := (D, .lst (as.map .ref)) :: slots as (dS (nh B T C O.length C.length))) (.r jK.slots) _), _, gM _ (gq _ (iz _)), h D2 bs hb⟩
theorem wX {S : HH} {as : List Addr} {Ds : List jN} (h : as.length = Ds.length) (hm : ∀ p ∈ slots as (dS Ds), p ∈ S) : nA S (as.map .ref) (Ds.map jW) := by
 have := nA.slots (S := S) (f := fun o => match o with | .dct es => .dct es | .lst xs => .lst xs | .ins c fs => .ins c fs) (fun a o h => by
  cases o with
  | lst xs => exact .lst h .refl
  | dct xs => exact .dct h .refl
  | ins c xs => exact .ins h .refl) (as := as) (os := dS Ds) (by rw [m6]; exact h) hm
 rw [show (dS Ds).map (fun o => match o with | .dct es => PV.dct es | .lst xs => .lst xs | .ins c fs => .ins c fs) = Ds.map jW by unfold dS; rw [aX]; rfl] at this
 exact this
theorem oA (P : PW W) {B T C O : List Int} (x : yg B T C O) (h : Q (jY (lX B T C O)) H) : jZ W (n + 1) H (.ref 343) [wB B T C O] Q :=
 jZ.frz (tp P x fun D bs hb => ⟨H, (D, .lst (bs.map .ref)) :: slots bs (dS (lX B T C O)), H, _, .r jK.slots, .lst (.head _) (wX (by unfold lX; rw [aa]; exact hb) fun p hp => .tail _ hp), mV.refl, h⟩)
noncomputable def mM (B O : List Int) (r : Nat) : Prop := 0 ≤ O.getD r 0 ∧ O.getD r 0 ≤ r ∧ O.getD (O.getD r 0).toNat 0 = O.getD r 0 ∧ B.getD r 0 = B.getD (O.getD r 0).toNat 0
noncomputable def tq (B O : List Int) (many : Nat) : Prop := B.length = many ∧ O.length = many ∧ ∀ r : Nat, r < many → mM B O r
noncomputable def kW (B T C O : List Int) (cols : Int) (c : Nat) : Prop :=
 0 ≤ C.getD c 0 ∧ C.getD c 0 ≤ O.length ∧ (C.getD c 0 = 0 → T.getD c 0 = 0) ∧ (C.getD c 0 ≠ 0 → O.getD (C.getD c 0 - 1).toNat 0 = C.getD c 0 - 1 ∧ 0 ≤ (c : Int) - B.getD (C.getD c 0 - 1).toNat 0 ∧ (c : Int) - B.getD (C.getD c 0 - 1).toNat 0 < cols)
noncomputable def rk (B T C O : List Int) (cols : Int) : Prop := T.length = C.length ∧ (C = [] ∨ mS C ≠ 0) ∧ ∀ c : Nat, c < C.length → kW B T C O cols c
theorem j4 {b : Bool} {P : Prop} (h : b = false) (h' : ¬ P) : b = true ↔ P := ⟨fun q => (by rw [h] at q; cases q), fun q => absurd q h'⟩
theorem nP {b : Bool} {P : Prop} (h : b = true) (h' : P) : b = true ↔ P := ⟨fun _ => h', fun _ => h⟩
noncomputable abbrev Iz (Q : CB) : CB := fun b H => ∃ K S, jK H K S ∧ Q b K
theorem pf {r : jt} {Q : CB} {e} (h : Tv W n r H e (Iz Q)) : Tv W n r H e Q := fun A env fa G s Rm hr f =>
 jH (h A env fa G s Rm hr f) fun b s1 ⟨G1, P', e1, r1, K, S, sp, q⟩ => by
  obtain ⟨e2, y, _⟩ := r1.freeze sp
  exact ⟨_, K, e1.trans e2, y, q⟩
theorem tu (P : PW W) {B T C O : List Int} {many : Nat} (hB : B.length ≤ 5000) (hO : O.length ≤ 5000) (hm : many ≤ 5000) (h : ∀ s : Str, ((s == "") = true ↔ tq B O many) → Q (.str s) H) : jZ W (n + 1) H (.ref 362) [wB B T C O, .int (many : Nat)] Q := by
 have hsB := pO hB
 have hsO := pO hO
 wtm_at "def"
 kd_p
 rw [aa]
 refine jC.dec (fun h1 => ?_) fun h1 => ?_
 ·kd_p
  exact h _ (j4 (by decide +kernel) fun x => h1 (by rw [x.1]))
 kd_p
 rw [aa]
 refine jC.dec (fun h2 => ?_) fun h2 => ?_
 ·kd_p
  exact h _ (j4 (by decide +kernel) fun x => h2 (by rw [x.2.1]))
 kd_p
 exists jI ?_
 have e1 : B.length = many := by exact J3 19 h1
 have e2 : O.length = many := by exact J3 19 h2
 let I1 : IT jt := fun i Z => (∀ r : Nat, r < i → mM B O r) → Z [lc "self" (wB B T C O), lc "many" (.int (many : Nat)), lu "row", lu "owner", gb "len", gb "range"] H
 refine ⟨many, rfl, by exact J6 9 hB h1, I1, fun Z zz => zz (by lia), ?_, ?_⟩
 ·rintro i hi hs
  exists ⟨_, by kd_in, ?_⟩
  refine j9 Vw.refl (by exact J0 0) (by exact J3 20 hi h2) (by exact J6 10 hB h2 h1) ?_
  rw [ag]
  kd_p
  refine jC.dec (fun h3 => ?_) fun h3 => ?_
  ·kd_p
   exact h _ (j4 (by decide +kernel) fun x => by have := (x.2.2 i hi).1; exact J14 1 this h3)
  kd_p
  refine jC.dec (fun h4 => ?_) fun h4 => ?_
  ·kd_p
   exact h _ (j4 (by decide +kernel) fun x => by have := (x.2.2 i hi).2.1; exact J14 2 this h4)
  kd_p
  exists j9 Vw.refl (by exact J3 21 h3) (by exact J6 11 hi h4 h2) (by exact J6 10 hB h2 h1) ?_
  refine jC.dec (fun h5 => ?_) fun h5 => ?_
  ·kd_p
   exact h _ (j4 (by decide +kernel) fun x => h5 (x.2.2 i hi).2.2.1)
  kd_p
  refine j9 Vw.refl (by exact J0 0) (by exact J3 20 hi h1) (by exact J0 7 hB) ?_
  rw [ag]
  kd_p
  exists j9 Vw.refl (by exact J3 21 h3) (by exact J6 11 hi h4 h1) (by exact J0 7 hB) ?_
  refine jC.dec (fun h6 => ?_) fun h6 => ?_
  ·kd_p
   exact h _ (j4 (by decide +kernel) fun x => h6 (x.2.2 i hi).2.2.2)
  kd_p
  refine jx.nx (by kd_all) (fun Z zz => zz (fun r hr => ?_))
  by_cases e : r = i
  ·subst e; exact ⟨by exact J3 21 h3, by exact J14 3 h4, by exact J2 17 h5, by exact J2 17 h6⟩
  ·exact hs r (by exact J0 11 hr e)
 ·rintro hs
  kd_p
  exact h _ (nP (by decide +kernel) ⟨e1, e2, hs⟩)
theorem r8 (P : PW W) {B T C O : List Int} {cols : Int} {many : Nat} (x : tq B O many) (hm : many ≤ 5000) (hT : T.length ≤ 5000) (hC : C.length ≤ 5000) (h : ∀ s : Str, ((s == "") = true ↔ rk B T C O cols) → Q (.str s) H) : jZ W (n + 1) H (.ref 369) [wB B T C O, .int cols] Q := by
 have e1 := x.1
 have e2 := x.2.1
 have hsT := pO hT
 have hsC := pO hC
 have hsO := pO (L := O) (by exact J0 3 hm e2)
 wtm_at "def"
 kd_p
 rw [aa, aa]
 refine jC.dec (fun h1 => ?_) fun h1 => ?_
 ·kd_p
  exact h _ (j4 (by decide +kernel) fun y => h1 (by rw [y.1]))
 have e3 : T.length = C.length := by exact J3 19 h1
 refine uA ?_
 exists jn (kI (nJ (pf (jU ?_))))
 intro ae
 kd_p
 exists nD Vw.refl (.lst (.head _)) ?_
 refine ⟨_, _, .one, ?_⟩
 rw [show (!(jp C).isEmpty) = decide (C ≠ []) by cases C <;> simp]
 refine jC.dec (fun h2 => ?_) fun h2 => ?_
 rotate_left
 ·kd_p
  have h2 : C = [] := by simpa using h2
  subst h2
  exists jI ?_
  let I2 : IT jt := fun i Z => Z [lc "self" (wB B T [] O), lc "columns" (.int cols), lu "cell", lu "owner", gb "len", gb "range"] H
  refine ⟨0, rfl, by exact J14 4, I2, fun Z zz => zz, fun i hi => by lia, ?_⟩
  show lm _ _ _ _ _ _
  kd_p
  exact h _ (nP (by decide +kernel) ⟨e3, .inl rfl, fun c hc => by simp at hc⟩)
 kd_p
 have hpos := bI.mpr h2
 refine nY (x := .int (mS C)) Vw.refl (by decide) (by rw [aa]; exact J3 22 hpos) (by rw [show (jp C).length = C.length by simp]; exact pE (u3 h2)) (by decide) ?_
 kd_p
 refine jC.dec (fun h3 => ?_) fun h3 => ?_
 ·kd_p
  exact h _ (j4 (by decide +kernel) fun y => by rcases y.2.1 with q | q; exact h2 q; exact q h3)
 kd_p
 exists jI ?_
 rw [aa]
 let I3 : IT jt := fun i Z => (∀ c : Nat, c < i → kW B T C O cols c) → Z [lc "self" (wB B T C O), lc "columns" (.int cols), lu "cell", lu "owner", gb "len", gb "range"] H
 refine ⟨C.length, rfl, by exact J6 9 hT h1, I3, fun Z zz => zz (by lia), ?_, ?_⟩
 ·rintro i hi hs
  exists ⟨_, by kd_in, ?_⟩
  refine j9 Vw.refl (by exact J0 0) (by exact J0 1 hi) (by exact J14 5 hT h1) ?_
  rw [ag]
  kd_p
  have key : rk B T C O cols → kW B T C O cols i := fun y => y.2.2 i hi
  refine jC.dec (fun h4 => ?_) fun h4 => ?_
  ·kd_p
   exact h _ (j4 (by decide +kernel) fun y => by have := (key y).1; exact J14 6 this h4)
  kd_p
  rw [aa]
  refine jC.dec (fun h5 => ?_) fun h5 => ?_
  ·kd_p
   exact h _ (j4 (by decide +kernel) fun y => by have := (key y).2.1; exact J14 7 this h5)
  kd_p
  have fin : (C.getD i 0 = 0 → T.getD i 0 = 0) → (C.getD i 0 ≠ 0 → O.getD (C.getD i 0 - 1).toNat 0 = C.getD i 0 - 1 ∧ 0 ≤ (i : Int) - B.getD (C.getD i 0 - 1).toNat 0 ∧ (i : Int) - B.getD (C.getD i 0 - 1).toNat 0 < cols) → ∀ c : Nat, c < i + 1 → kW B T C O cols c := fun q1 q2 c hc => by
   by_cases e : c = i
   ·subst e; exact ⟨by exact J14 8 h4, by exact J14 9 h5, q1, q2⟩
   ·exact hs c (by exact J0 11 hc e)
  refine jC.dec (fun h6 => ?_) fun h6 => ?_
  ·kd_p
   refine j9 Vw.refl (by exact J0 0) (by exact J3 20 hi h1) (by exact J0 7 hT) ?_
   rw [ag]
   kd_p
   refine jC.dec (fun h7 => ?_) fun h7 => ?_
   ·kd_p
    exact h _ (j4 (by decide +kernel) fun y => h7 ((key y).2.2.1 (by exact J14 10 h6)))
   ·kd_p
    exists jC.neg (by exact J14 11 h6) ?_
    exact jx.nx (by kd_all) (fun Z zz => zz (fin (fun _ => by exact J1 11 h7) fun q => by exact J14 12 q h6))
  ·kd_p
   have h8 : C.getD i 0 - 1 ≥ 0 := by exact J14 13 h4 h6
   exists jC.pos h8 ?_
   exists j9 Vw.refl h8 (by exact J14 14 h5 h4 h6) (by exact J0 3 hm e2) ?_
   refine jC.dec (fun h9 => ?_) fun h9 => ?_
   ·kd_p
    exact h _ (j4 (by decide +kernel) fun y => h9 ((key y).2.2.2 (by exact J3 23 h6)).1)
   kd_p
   exists j9 Vw.refl h8 (by exact J14 15 e2 e1 h5 h4 h6) (by exact J0 3 hm e1) ?_
   refine jC.dec (fun h10 => ?_) fun h10 => ?_
   ·kd_p
    by_cases h11 : (i : Int) - B.getD (C.getD i 0 - 1).toNat 0 < cols
    ·rw [decide_eq_true h11]
     kd_p
     exists jC.ff ?_
     exact jx.nx (by kd_all) (fun Z zz => zz (fin (fun _ => by exact J14 16 h6 ‹_›) fun q => ⟨by exact J14 17 h9, h10, h11⟩))
    ·rw [decide_eq_false h11]
     kd_p
     exists jC.tt ?_
     exact h _ (j4 (by decide +kernel) fun y => h11 ((key y).2.2.2 (by exact J3 23 h6)).2.2)
   ·kd_p
    exists jC.tt ?_
    exact h _ (j4 (by decide +kernel) fun y => h10 ((key y).2.2.2 (by exact J3 23 h6)).2.1)
 ·rintro hs
  kd_p
  exact h _ (nP (by decide +kernel) ⟨e3, .inr (by simpa using h3), hs⟩)
noncomputable def nl (B T C O : List Int) (many : Nat) (cols : Int) : Prop := tq B O many ∧ rk B T C O cols ∧ ∀ r : Nat, r < many → jy B T C (O.getD r 0) C.length = [] → B.getD r 0 = 0
theorem nl.arr {B T C O : List Int} {many : Nat} {cols : Int} (x : tq B O many) (y : rk B T C O cols) (hm : many < 64) (hC : C.length ≤ 5000) : yg B T C O := by
 refine ⟨by rw [x.1, x.2.1], y.1, fun o ho => ?_, fun k hk => ?_, by rw [x.2.1]; exact hm, hC⟩
 ·obtain ⟨i, hi, rfl⟩ := eU ho
  have e : O.getD i 0 = O[i] := by rw [aL, aG hi]; rfl
  have := x.2.2 i (by rw [← x.2.1]; exact hi)
  rw [← e]
  exact ⟨this.1, by have := this.2.1; exact J14 18 this hi⟩
 ·obtain ⟨i, hi, rfl⟩ := eU hk
  have e : C.getD i 0 = C[i] := by rw [aL, aG hi]; rfl
  have := y.2.2 i hi
  rw [← e]
  exact ⟨this.1, this.2.1⟩
theorem Dt {d : jN} : D5 d [] = d.isEmpty := by cases d <;> simp [D5]
theorem u4 (P : PW W) {B T C O : List Int} {many : Nat} {cols : Int} (hB : B.length ≤ 5000) (hO : O.length ≤ 5000) (hm : many < 64) (hT : T.length ≤ 5000) (hC : C.length ≤ 5000) (h : ∀ s : Str, ((s == "") = true ↔ nl B T C O many cols) → Q (.str s) H) : jZ W (n + 2) H (.ref 376) [wB B T C O, .int (many : Nat), .int cols] Q := by
 wtm_at "def"
 kd_p
 exists tu P hB hO (by exact J0 13 hm) fun s hs => ?_
 exists xS ?_
 refine jC.by (fun h1 => ?_) fun h1 => ?_
 rotate_left
 ·kd_p
  exists A5 ?_
  rw [h1]
  exists jC.tt ?_
  exact h _ (j4 h1 fun y => by rw [hs.mpr y.1] at h1; cases h1)
 have hR := hs.mp h1
 kd_p
 exists r8 P hR (by exact J0 13 hm) hT hC fun s2 hs2 => ?_
 exists A5 ?_
 by_cases h2 : (s2 == "") = true
 rotate_left
 ·rw [show (s2 == "") = false by simpa using h2]
  exists jC.tt ?_
  exact h _ (j4 (by simpa using h2) fun y => h2 (hs2.mpr y.2.1))
 rw [h2]
 exists jC.ff ?_
 have hCs := hs2.mp h2
 have hA := nl.arr hR hCs hm hC
 exists oA P hA ?_
 have e1 := hR.1
 have e2 := hR.2.1
 exists jI ?_
 let I1 : IT jt := fun i Z => (∀ r : Nat, r < i → jy B T C (O.getD r 0) C.length = [] → B.getD r 0 = 0) → Z [lc "self" (wB B T C O), lc "many" (.int (many : Nat)), lc "columns" (.int cols), lc "found" (.str s2), lc "rows" (jY (lX B T C O)), lu "row", gb "range"] H
 refine ⟨many, rfl, by exact J0 22 hm, I1, fun Z zz => zz (by lia), ?_, ?_⟩
 ·rintro i hi hh
  have hrow : (lX B T C O)[i]? = some (jy B T C (O.getD i 0) C.length) := by
   unfold lX; rw [ax, jM (d := (0 : Int)) (by exact J0 4 e2 hi)]; rfl
  refine ⟨_, by kd_in, ?_⟩
  exists jn (kI (nJ (pf (jU ?_))))
  refine jz (x := jW (jy B T C (O.getD i 0) C.length)) Vw.refl (by exact J0 0) (by rw [ag, ax, hrow]; rfl) (by exact J1 4 hi hm) ?_
  kd_p
  intro ae
  exists D6 (e := []) Vw.refl (.dct (.head _)) ?_
  refine ⟨_, _, .one, ?_⟩
  rw [Dt]
  refine jC.by (fun h3 => ?_) fun h3 => ?_
  ·kd_p
   refine j9 Vw.refl (by exact J0 0) (by exact J0 2 e1 hi) (by exact J0 10 e1 hm) ?_
   rw [ag]
   kd_p
   refine jC.dec (fun h4 => ?_) fun h4 => ?_
   ·kd_p
    exact h _ (j4 (by decide +kernel) fun y => h4 (y.2.2 i hi (by simpa using h3)))
   ·kd_p
    refine jx.nx (by kd_all) (fun Z zz => zz (fun r hr => ?_))
    by_cases e : r = i
    ·subst e; exact fun _ => by exact J1 11 h4
    ·exact hh r (by exact J0 11 hr e)
  ·kd_p
   refine jx.nx (by kd_all) (fun Z zz => zz (fun r hr => ?_))
   by_cases e : r = i
   ·subst e; exact fun q => by rw [q] at h3; cases h3
   ·exact hh r (by exact J0 11 hr e)
 ·rintro hh
  kd_p
  exact h _ (nP (by decide +kernel) ⟨hR, hCs, hh⟩)
noncomputable def wY (d : List (Str × PV)) : List (PV × PV) := d.map fun p => (PV.str p.1, p.2)
noncomputable def El (W : Wd) (G : Gh) : List (Str × PV) → List (Str × Value) → Prop
 | [], kvs => kvs = []
 | p :: d, kvs => ∃ v r, kvs = (p.1, v) :: r ∧ RV W G p.2 v ∧ El W G d r
section
variable {G : Gh}
theorem El.keys : ∀ {d : List (Str × PV)} {kvs}, El W G d kvs → kvs.map ai = d.map ai
 | [], _, h => by subst h; rfl
 | p :: d, _, h => by obtain ⟨v, r, rfl, _, h⟩ := h; simp [h.keys]
theorem El.snoc {k : Str} {x : PV} {v : Value} (hv : RV W G x v) : ∀ {d : List (Str × PV)} {kvs}, El W G d kvs → El W G (d ++ [(k, x)]) (kvs ++ [(k, v)])
 | [], _, h => by subst h; exact ⟨v, [], rfl, hv, rfl⟩
 | p :: d, _, h => by obtain ⟨u, r, rfl, hu, h⟩ := h; exact ⟨u, _, rfl, hu, h.snoc hv⟩
theorem tv (x : Str) (t : Tok) : (ce W.prog W.w).is x (.str x t) = true := by simp [ce, Value.isStrOf]
theorem qH (x : Str) : (ce W.prog W.w).hash x = bE W.w.params x := by rfl
theorem yl : ∀ {d : List (Str × PV)} {ds : List DictEntry}, oO W G (wY d) ds → ∃ kvs, El W G d kvs ∧ Pairs (ce W.prog W.w) ds kvs ∧ (∀ e ∈ ds, ∃ k : Str, (ce W.prog W.w).is k e.key = true ∧ e.hash = (ce W.prog W.w).hash k)
 | [], ds, h => by
  simp only [wY, cZ, oO] at h
  subst h; exact ⟨[], rfl, .nil, fun e he => by cases he⟩
 | p :: d, ds, h => by
  simp only [wY, aC, oO] at h
  obtain ⟨e, r, e', hh, h1, h2, h3⟩ := h
  obtain ⟨kvs, k1, k2, k3⟩ := yl (d := d) h3
  obtain ⟨t, ht⟩ : ∃ t, e.key = .str p.1 t := by exact h1
  subst e'
  have hi : (ce W.prog W.w).is p.1 e.key = true := by rw [ht]; exact tv _ _
  refine ⟨(p.1, e.val) :: kvs, ⟨_, _, rfl, h2, k1⟩, .cons hi rfl k2, fun e' he => ?_⟩
  rcases au.mp he with rfl | he
  ·exact ⟨p.1, hi, by rw [hh, qH]; rfl⟩
  ·exact k3 e' he
theorem ym : ∀ {d : List (Str × PV)} {kvs} {ds : List DictEntry}, El W G d kvs → Pairs (ce W.prog W.w) ds kvs → (∀ e ∈ ds, ∃ k : Str, (ce W.prog W.w).is k e.key = true ∧ e.hash = (ce W.prog W.w).hash k) → oO W G (wY d) ds
 | [], kvs, ds, h, hp, hk => by
  subst h; cases hp; simp [wY, oO]
 | p :: d, kvs, ds, h, hp, hk => by
  obtain ⟨v, r, e, h1, h2⟩ := h
  subst e
  cases hp with
  | @cons e _ es _ q1 q2 q3 =>
   simp only [wY, aC, oO]
   obtain ⟨t, ht⟩ := Value.isStrOf_shape q1
   refine ⟨e, es, rfl, ?_, by exact ⟨t, ht⟩, by rw [q2]; exact h1, ym h2 q3 fun e' he => hk e' (.tail _ he)⟩
   obtain ⟨k, k1, k2⟩ := hk e (.head _)
   have : k = p.1 := (ce W.prog W.w).inj _ _ _ k1 q1
   rw [k2, this, qH]; rfl
theorem un {d : List (Str × PV)} : ((wY d).map ai).Nodup ↔ (d.map ai).Nodup := by
 have : (wY d).map ai = (d.map ai).map PV.str := by simp [wY, aX, cK]
 rw [this]
 unfold gk
 rw [bU]
 exact ⟨fun h => h.imp fun q e => q (congrArg _ e), fun h => h.imp fun q e => q (PV.str.inj e)⟩
end
theorem Fk {a : Addr} {k : Str} {v : PV} {d : List (Str × PV)} {H' : HH} {P : HH → Prop} (hnew : k ∉ d.map ai) (U : kQ a (.dct (wY d)) (.dct (wY (d ++ [(k, v)]))) H H') (hl : d.length ≤ sizeLine) (h : P H') : uB W n H (.ref a) (.str k) v P := fun A G s cv co ci R hr vv vo vi => by
 have e0 : co = .ref a := by exact vo
 obtain ⟨t, e2⟩ : ∃ t, ci = .str k t := by exact vi
 obtain ⟨ds, m, e1, ho, nd, rs⟩ := hr.slot _ _ U.there
 subst e0; subst e2
 obtain ⟨kvs, k1, k2, k3⟩ := yl rs
 have dk : s.heap.DictOf (ce W.prog W.w) a kvs := ⟨_, ds.toArray, m, e1, ⟨rfl, rfl, rfl⟩, rfl, fun e he => k3 e (by simpa using he), by simpa using k2, by rw [show (kvs.map fun x => x.1) = kvs.map ai from rfl, k1.keys]; exact un.mp nd⟩
 have hkl : kvs.length = d.length := by have := congrArg eI k1.keys; simpa using this
 refine gV (tv _ _) dk (fun h' hd hs => ?_) (by rw [hkl]; exact hl)
 have hst : stored kvs k cv = kvs ++ [(k, cv)] := by
  unfold jl
  rw [if_neg]
  intro q
  obtain ⟨p, hp, e⟩ := bN.mp q
  refine hnew ?_
  rw [← k1.keys]
  exact az.mpr ⟨p, hp, by simpa using e⟩
 rw [hst] at hd
 obtain ⟨o, es, ep, g1, ⟨h1, h2, h3⟩, g3, g4, g5, g6⟩ := hd
 have k1' := k1.snoc (k := k) vv
 have rs' := ym k1' g5 fun e he => g4 e (by simpa using he)
 have eo : o = nU es.toList ep := by
  obtain ⟨c, dd, dt, sl⟩ := o
  simp only at h1 h2 h3 g3
  subst h1; subst h2; subst h3; subst g3
  rfl
 subst eo
 obtain ⟨y, e⟩ := hr.updD (tk := s.toks + 1) U hs g1 (un.mpr (by rw [← k1'.keys]; exact g6)) rs'
 exact ⟨G, H', e, y, h⟩
noncomputable def oB (L : List Int) (g : Int) : Int × Int := (-(L.count g : Nat), g)
noncomputable def kj (L : List Int) : Int := if L = [] then -1 else (oQ (L.map (oB L))).2
theorem oC {α : Type} {f : α → PV} {po pd v : PV} {k : Int} {d : List (Int × α)} (w : Vw H po (.dct (Dk f d))) (hv : ((jB d k).map f).getD pd = v) (h : Q v H) : mP W n H (fun vs => call (.builtin "dict.get") vs) [po, .int k, pd] Q :=
 yL w (by subst hv; cases e : jB d k <;> (rw [e] at h; exact h))
theorem uo {α : Type} {f : α → PV} {po v : PV} {k : Int} {d : List (Int × α)} (w : Vw H po (.dct (Dk f d))) (hv : ((jB d k).map f).getD .none = v) (h : Q v H) : mP W n H (fun vs => call (.builtin "dict.get") vs) [po, .int k] Q :=
 AG w (by subst hv; cases e : jB d k <;> (rw [e] at h; exact h))
theorem tw {a b : Int × Int} : nN a b = false ↔ ¬ a.1 < b.1 ∧ ¬ (a.1 = b.1 ∧ a.2 < b.2) := by
 unfold nN
 rw [bX, decide_eq_false_iff_not, ← decide_eq_false_iff_not (p := a.1 = b.1 ∧ a.2 < b.2), iZ]
theorem rM {α : Type} {d : List (Int × α)} {k : Int} {x : α} : (dset d k x).length ≤ d.length + 1 := by
 unfold dset; split <;> simp
theorem r9 (P : PW W) {L : List Int} (hz : L.length < 64) (hn : ∀ g ∈ L, g ≠ -1) (h : Q (.int (kj L)) H) : jZ W (n + 1) H (.ref 397) [.lst (jp L)] Q := by
 wtm_at "def"
 kd_p
 intro ac
 kd_p
 exists mZ (α := Int) ?_
 let I1 : IT jt := fun i Z => ∀ d : List (Int × Int), d.length ≤ i → (∀ k, jB d k = if k ∈ L.take i then some (((L.take i).count k : Nat) : Int) else none) → Z [lc "numbers" (.lst (jp L)), lc "counts" (.ref ac), lu "number", lu "best", gb "sorted"] ((ac, .dct (Dk .int d)) :: H)
 refine ⟨L, PV.int, rfl, I1, fun Z zz => zz [] (by simp) (fun k => by simp [jB]), ?_, ?_⟩
 ·rintro i g hg d hl hd
  refine ⟨_, by kd_in, ?_⟩
  have hi := (aA.mp hg).1
  exists jn (oi rfl (kP (x_get ?_)))
  refine oC (f := PV.int) (v := PV.int (((L.take i).count g : Nat) : Int)) (.dct (.head _)) ?_ ?_
  ·rw [hd]
   by_cases e : g ∈ L.take i
   ·rw [if_pos e]; rfl
   ·rw [if_neg e, List.count_eq_zero.mpr e]; rfl
  kd_p
  refine kK (f := PV.int) rfl (by wtm_at "updh") (by rw [am]; exact J4 0 hl hi hz) ?_
  kd_p
  refine jx.nx (by kd_all) (fun Z zz => zz _ (by have := rM (d := d) (k := g) (x := (((L.take i).count g : Nat) : Int) + 1); exact J14 19 hl this) (fun k => ?_))
  rw [m5, a7, hg, cn, hd]
  simp only [aQ, aP, List.count_append]
  by_cases e : k = g
  ·subst e; simp
  ·have e' : ¬ g = k := fun q => e q.symm
   simp [e, e', List.count_singleton]
 ·rintro d hl hd
  rw [aZ] at hd
  have hS : ∀ k, k ∈ srt (d.map ai) ↔ k ∈ L := fun k => by
   rw [(qw _).mem_iff, ← ri, hd]
   by_cases e : k ∈ L <;> simp [e]
  have hsrt := sY (d.map ai)
  exists jn (jD rfl ?_)
  exists mZ (α := Int) (li (lv P (by kd_mem) ?_))
  refine lD (f := PV.int) (.dct (.head _)) (by exact J4 1 hl hz) fun a => ⟨a, _, _, rfl, rfl, ?_⟩
  generalize srt (d.map ai) = S at *
  let I2 : IT jt := fun i Z => ∀ best, ((i = 0 ∧ best = -1) ∨ (best ∈ S.take i ∧ ∀ k ∈ S.take i, nN (oB L k) (oB L best) = false)) → Z [lc "numbers" (.lst (jp L)), lc "counts" (.ref ac), lu "number", lc "best" (.int best), gb "sorted"] ((ac, .dct (Dk .int d)) :: H)
  refine ⟨S, PV.int, rfl, I2, fun Z zz => zz _ (.inl ⟨rfl, rfl⟩), ?_, ?_⟩
  ·rintro i g hg best hb
   have hgL := (hS g).mp (aS hg)
   have hdg : jB d g = some ((L.count g : Nat) : Int) := by rw [hd, if_pos hgL]
   have hsp : S = S.take i ++ g :: S.drop (i + 1) := by
    obtain ⟨h1, h2⟩ := aA.mp hg
    rw [← h2, bY, bS]
   have hle : ∀ k ∈ S.take i, k ≤ g := fun k hk => (bG.mp (hsp ▸ hsrt)).2.2 k hk g (.head _)
   have htk : S.take (i + 1) = S.take i ++ [g] := by rw [a7, hg]; rfl
   exists ⟨_, by kd_in, ?_⟩
   refine jC.dec (fun h1 => ?_) fun h1 => ?_
   ·kd_p
    have h0 : i = 0 := by
     rcases hb with hb | hb
     ·exact hb.1
     ·exact absurd h1 (hn best ((hS best).mp (dE hb.1)))
    subst h0
    refine jx.nx (by kd_all) (fun Z zz => zz _ (.inr ⟨by rw [htk]; simp, fun k hk => ?_⟩))
    rw [htk] at hk; simp at hk; subst hk
    simp [nN]
   ·obtain ⟨hb1, hb2⟩ : best ∈ S.take i ∧ ∀ k ∈ S.take i, nN (oB L k) (oB L best) = false := by
     rcases hb with hb | hb
     ·exact absurd hb.2 h1
     ·exact hb
    have hbL := (hS best).mp (dE hb1)
    kd_p
    exists my (f := PV.int) (.dct (.head _)) hdg ?_
    exists my (f := PV.int) (.dct (.head _)) (by rw [hd, if_pos hbL]) ?_
    refine jC.dec (fun h2 => ?_) fun h2 => ?_
    ·kd_p
     refine jx.nx (by kd_all) (fun Z zz => zz _ (.inr ⟨by rw [htk]; simp, fun k hk => ?_⟩))
     rw [htk] at hk
     rcases aQ.mp hk with hk | hk
     ·have h3 := hb2 k hk
      rw [tw] at h3 ⊢
      unfold oB at h3 ⊢
      lia
     ·simp at hk; subst hk; simp [nN]
    ·kd_p
     refine jx.nx (by kd_all) (fun Z zz => zz _ (.inr ⟨by rw [htk]; exact bu _ hb1, fun k hk => ?_⟩))
     rw [htk] at hk
     rcases aQ.mp hk with hk | hk
     ·exact hb2 k hk
     ·simp at hk; subst hk
      have := hle best hb1
      rw [tw]
      unfold oB
      lia
  ·rintro best hb
   exists Bq .one ?_
   rw [aZ] at hb
   have : best = kj L := by
    unfold kj
    rcases hb with ⟨h1, h2⟩ | ⟨h1, h2⟩
    ·have : L = [] := by
      cases L with
      | nil => rfl
      | cons x L => have := (hS x).mpr (.head _); rw [ge.mp h1] at this; cases this
     rw [if_pos this]; exact h2
    ·have hbL := (hS best).mp h1
     rw [if_neg (fun q => by rw [q] at hbL; cases hbL)]
     rw [← uR (L := L.map (oB L)) (x := oB L best) (aO hbL) fun y hy => ?_]
     ·rfl
     ·obtain ⟨k, hk, rfl⟩ := az.mp hy
      exact h2 k ((hS k).mpr hk)
   rw [this]; exact h
structure AR where
 B : List Int
 T : List Int
 C : List Int
 O : List Int
noncomputable abbrev Fy (a : AR) : PV := wB a.B a.T a.C a.O
structure p8 (a : AR) (rows : Nat) : Prop where
 b : a.B.length = rows
 o : a.O.length = rows
 ct : a.C.length ≤ a.T.length
 t : a.T.length ≤ 5000
 r : rows ≤ 5000
noncomputable abbrev uq (L : List Str) : List PV := L.map .str
noncomputable def pS (names : List Str) (tc : Nat) : List (Str × PV) := (av tc).map fun (i : Nat) => (names.getD i "", PV.int (i : Int))
theorem wZ {names tc} : pS names (tc + 1) = pS names tc ++ [(names.getD tc "", PV.int (tc : Int))] := by
 unfold pS; rw [bA, aJ]; rfl
theorem zp {names : List Str} {i : Nat} (hn : names.Nodup) (hi : i < names.length) : names.getD i "" ∉ (pS names i).map ai := fun q => by
 unfold pS at q
 rw [aX] at q
 obtain ⟨j, hj, e⟩ := az.mp q
 rw [aM] at hj
 simp only [cK] at e
 have h1 := jM (d := ("" : Str)) hi
 have h2 := jM (d := ("" : Str)) (show j < names.length by exact J6 12 hj hi)
 rw [← e] at h1
 obtain ⟨a1, b1⟩ := aA.mp h1
 obtain ⟨a2, b2⟩ := aA.mp h2
 exact fF.mp hn j i a2 a1 hj (b2.trans b1.symm)
noncomputable abbrev GO (nm : PV) (tc : Nat) (lf ln bf df nu : PV) : List (Str × PV) := [("names", nm), ("terminal_count", .int (tc : Nat)), ("lefts", lf), ("lengths", ln), ("befores", bf), ("defaults", df), ("numbers", nu)]
theorem tT (P : PW W) {a : Addr} {names : List Str} {tc : Nat} {lf ln bf : PV} (hn : names.Nodup) (ht : tc ≤ names.length) (hz : names.length ≤ 5000)
  (h : ∀ d u, Q .none ((u, .dct (wY (pS names tc))) :: (d, .lst []) :: (a, .ins "PackedTables" (GO (.lst (uq names)) tc lf ln bf (.ref d) (.ref u))) :: H)) :
  jZ W (n + 1) ((a, .ins "PackedTables" []) :: H) (.ref 143) [.ref a, .lst (uq names), .int (tc : Nat), lf, ln, bf] Q := by
 wtm_at "def"
 kd_p
 intro d
 kd_p
 intro u
 kd_p
 exists jI ?_
 let I1 : IT jt := fun i Z => Z [lc "self" (.ref a), lc "names" (.lst (uq names)), lc "terminal_count" (.int (tc : Nat)), lc "lefts" lf, lc "lengths" ln, lc "befores" bf, lu "number", gb "range"] ((u, .dct (wY (pS names i))) :: (d, .lst []) :: (a, .ins "PackedTables" (GO (.lst (uq names)) tc lf ln bf (.ref d) (.ref u))) :: H)
 refine ⟨tc, rfl, by exact J14 20 ht hz, I1, fun Z zz => zz, ?_, ?_⟩
 ·rintro i hi
  exists ⟨_, by kd_in, ?_⟩
  refine jz (x := .str (names.getD i "")) Vw.refl (by exact J0 0) (by rw [ag, ax, jM (d := ("" : Str)) (by exact J6 13 ht hi)]; rfl) (by exact J14 21 ht hz hi) ?_
  kd_p
  refine Fk (zp hn (by exact J6 13 ht hi)) (by wtm_at "updh") (by rw [am]; unfold pS; rw [aa, aq]; exact J14 22 ht hz hi) ?_
  kd_p
  rw [← wZ]
  exact jx.nx (by kd_all) (fun Z zz => zz)
 ·show lm _ _ _ _ _ _
  kd_p
  exact h d u
noncomputable abbrev p9 (nm : PV) (tc : Nat) (lf ln bf df nu : PV) (a g : AR) (gd gm : PV) : PV := .ins "PackedTables" [("names", nm), ("terminal_count", .int (tc : Nat)), ("lefts", lf), ("lengths", ln), ("befores", bf), ("defaults", df), ("numbers", nu),
 ("actions", Fy a), ("bases", .lst (jp a.B)), ("table", .lst (jp a.T)), ("check", .lst (jp a.C)), ("owners", .lst (jp a.O)),
 ("gotos", Fy g), ("goto_bases", .lst (jp g.B)), ("goto_table", .lst (jp g.T)), ("goto_check", .lst (jp g.C)), ("goto_owners", .lst (jp g.O)), ("goto_defaults", gd), ("goto_masks", gm)]
theorem BO (P : PW W) {names : List Str} {tc : Nat} {lf ln bf df gd gm : PV} {a g : AR} (hn : names.Nodup) (ht : tc ≤ names.length) (hz : names.length ≤ 5000)
  (h : Q (p9 (.lst (uq names)) tc lf ln bf df (.dct (wY (pS names tc))) a g gd gm) H) :
  jZ W (n + 3) H (.ref 442) [.tup [.lst (uq names), .int (tc : Nat), lf, ln, bf], df, Fy a, Fy g, gd, gm] Q := by
 refine jZ.frz (rd P fun x => ?_)
 wtm_at "def"
 exists jn (om rfl rfl ?_)
 refine mW (xs := ["names", "terminal_count", "lefts", "lengths", "befores"]) (ps := [.lst (uq names), .int (tc : Nat), lf, ln, bf]) Vw.refl rfl (.cons (by kd_in) (.cons (by kd_in) (.cons (by kd_in) (.cons (by kd_in) (.cons (by kd_in) .nil))))) ?_
 refine jn (lx rfl (Ba (by kd_mem) (y5 P) (f := 143) (by rw [P.K]; kernel_rfl) rfl rfl (by decide) ?_))
 kd_p
 exists tT P hn ht hz fun d u => ⟨rfl, ?_⟩
 exact ⟨rfl, H, _, H, _, .r (.r (.r .none)), .ins (.tail _ (.tail _ (.head _))) (.cons .refl (.cons .refl (.cons .refl (.cons .refl (.cons .refl (.cons .refl (.cons (.dct (.head _) .refl) .refl))))))), mV.refl, h⟩
noncomputable def lZ (a : AR) (state : Nat) (t : Int) : Int := (lI (a.B.getD state 0) a.T a.C (a.O.getD state 0) t).getD 0
noncomputable def n4 (tc : Nat) (ms : List (List Nat)) (g : AR) (gd : List Int) (state : Nat) (nt : Int) : Int :=
 if nt - tc < 0 ∨ nt - tc ≥ ms.length then -1 else if state ∉ ms.getD (nt - tc).toNat [] then -1 else (lI (g.B.getD (nt - tc).toNat 0) g.T g.C (g.O.getD (nt - tc).toNat 0) state).getD (gd.getD (nt - tc).toNat 0)
noncomputable abbrev wC (ms : List (List Nat)) : PV := .lst (ms.map fun M => .int (pw 0 M : Nat))
theorem Fm {s : Nat} : ∀ {M : List Nat}, M.Pairwise (· < ·) → pw 0 M / 2 ^ s % 2 = if s ∈ M then 1 else 0 := by
 have gen : ∀ (i : Nat) {M : List Nat}, M.Pairwise (· < ·) → (∀ x ∈ M, i ≤ x) → ∀ s, i ≤ s → pw i M / 2 ^ (s - i) % 2 = if s ∈ M then 1 else 0 := by
  intro i M hM hi s hs
  obtain ⟨k, rfl⟩ : ∃ k, s = i + k := ⟨s - i, by exact J14 23 hs⟩
  rw [show i + k - i = k by exact J15 0]
  induction k generalizing i M with
  | zero =>
   rw [Nat.pow_zero, Nat.div_one, Nat.add_zero]
   cases M with
   | nil => rfl
   | cons x M =>
    rw [cm] at hM
    by_cases e : x = i
    ·subst e
     rw [ox, rK hM.1, if_pos (.head _)]; simp
    ·have h0 := hi x (.head _)
     have : ∀ y ∈ x :: M, i < y := fun y hy => by
      rcases au.mp hy with rfl | hy
      ·exact J2 15 h0 e
      ·have := hM.1 y hy; exact J4 2 h0 this
     rw [rK this, if_neg (fun q => by have := this i q; exact J15 1 this)]; lia
  | succ k ih =>
   have hdiv : ∀ {M : List Nat}, M.Pairwise (· < ·) → (∀ x ∈ M, i < x) → pw i M / 2 = pw (i + 1) M := fun h1 h2 => by rw [rK h2]; lia
   have key : ∃ M', pw i M / 2 = pw (i + 1) M' ∧ M'.Pairwise (· < ·) ∧ (∀ x ∈ M', i + 1 ≤ x) ∧ ∀ z, i < z → (z ∈ M ↔ z ∈ M') := by
    cases M with
    | nil => exact ⟨[], by rw [BI, BI], hM, by simp, fun _ _ => Iff.rfl⟩
    | cons x M =>
     rw [cm] at hM
     by_cases e : x = i
     ·subst e
      refine ⟨M, ?_, hM.2, hM.1, fun z hz => ?_⟩
      ·rw [ox, rK hM.1]; simp; lia
      ·rw [au]; exact ⟨fun q => by rcases q with q | q; lia; exact q, .inr⟩
     ·have h0 := hi x (.head _)
      have : ∀ y ∈ x :: M, i < y := fun y hy => by
       rcases au.mp hy with rfl | hy
       ·exact J2 15 h0 e
       ·have := hM.1 y hy; exact J4 2 h0 this
      exact ⟨x :: M, by rw [rK this]; lia, cm.mpr hM, this, fun _ _ => Iff.rfl⟩
   obtain ⟨M', e1, e2, e3, e4⟩ := key
   have := ih (i + 1) e2 e3 (by exact J15 2)
   rw [iw, Nat.mul_comm, ← Nat.div_div_eq_div_mul, e1, this, show i + 1 + k = i + (k + 1) by exact J15 3]
   by_cases q : i + (k + 1) ∈ M'
   ·rw [if_pos q, if_pos ((e4 _ (by exact J6 14)).mpr q)]
   ·rw [if_neg q, if_neg (fun z => q ((e4 _ (by exact J6 14)).mp z))]
 intro M hM
 have := gen 0 hM (fun _ _ => bF _) s (bF _)
 exact this
theorem IA (k j : Nat) : (k : Int).fdiv (2 ^ (j : Int).toNat) = ((k / 2 ^ j : Nat) : Int) := by
 rw [ag, dC _ (Int.pow_nonneg (by decide))]
 norm_cast
variable {nm lf ln bf df nu gd gm : PV} {tc : Nat} {a g : AR} {st : Nat}
theorem np (P : PW W) (hb : a.B.length ≤ 5000) (h : Q (.int (a.B.length : Nat)) H) : jZ W (n + 1) H (.ref 418) [p9 nm tc lf ln bf df nu a g gd gm] Q := by
 have hs := pO hb
 wtm_at "def"
 kd_p
 rw [aa]; exact h
theorem mr (P : PW W) {rows : Nat} (x : p8 a rows) (hs : st < rows) {t : Int} (h : Q (.int (lZ a st t)) H) : jZ W (n + 3) H (.ref 425) [p9 nm tc lf ln bf df nu a g gd gm, .int (st : Nat), .int t] Q := by
 have h1 := x.b
 have h2 := x.o
 have h3 := x.r
 wtm_at "def"
 exists jn (jD rfl (x_meth ?_))
 refine tn P (by exact J0 4 h1 hs) (by exact J0 3 h3 h1) (by exact J0 4 h2 hs) (by exact J0 3 h3 h2) x.ct x.t ?_
 unfold lZ at h
 cases e : lI (a.B.getD st 0) a.T a.C (a.O.getD st 0) t with
 | none =>
  rw [e] at h
  kd_p
  exists jC.tt ?_
  exact h
 | some v =>
  rw [e] at h
  kd_p
  exists jC.ff ?_
  exact h
theorem oD (P : PW W) {defs : List Int} (hs : st < defs.length) (hz : defs.length ≤ 5000) (h : Q (.int (defs.getD st 0)) H) : jZ W (n + 1) H (.ref 192) [p9 nm tc lf ln bf (.lst (jp defs)) nu a g gd gm, .int (st : Nat)] Q := by
 wtm_at "def"
 kd_p
 refine j9 Vw.refl (by exact J0 0) (by exact J0 1 hs) (by exact J0 7 hz) ?_
 exact h
section
variable {nm lf ln bf df nu gd gm : PV} {tc : Nat} {a g : AR} {st : Nat}
theorem yn {ms : List (List Nat)} {k : Nat} (h : k < ms.length) : (ms.map fun M => PV.int (pw 0 M : Nat))[k]? = some (.int (pw 0 (ms.getD k []) : Nat)) := by
 rw [ax, jM (d := ([] : List Nat)) h]; rfl
theorem rl (P : PW W) {ms : List (List Nat)} {gds : List Int} {rows : Nat} (x : p8 g rows) (hm : ms.length = rows) (hg : gds.length = rows) (hM : ∀ M ∈ ms, M.Pairwise (· < ·)) {nt : Int} (h : Q (.int (n4 tc ms g gds st nt)) H) :
  jZ W (n + 3) H (.ref 432) [p9 nm tc lf ln bf df nu a g (.lst (jp gds)) (wC ms), .int (st : Nat), .int nt] Q := by
 have h1 := x.b
 have h2 := x.o
 have h3 := x.r
 have hsz : (ms.map fun M => PV.int (pw 0 M : Nat)).length ≤ sizeLine := by rw [aa, am]; exact J15 4 h3 hm
 wtm_at "def"
 kd_p
 refine jC.dec (fun h4 => ?_) fun h4 => ?_
 ·kd_p
  unfold n4 at h; rw [if_pos (.inl h4)] at h; exact h
 kd_p
 rw [aa]
 refine jC.dec (fun h5 => ?_) fun h5 => ?_
 ·kd_p
  unfold n4 at h; rw [if_pos (.inr h5)] at h; exact h
 obtain ⟨k, hk⟩ : ∃ k : Nat, nt - (tc : Int) = (k : Int) := ⟨(nt - tc).toNat, by exact J15 5 h4⟩
 unfold n4 at h
 rw [if_neg (by exact J15 6 h5 h4), hk, ag] at h
 kd_p
 rw [hk]
 refine jz (x := .int (pw 0 (ms.getD k []) : Nat)) Vw.refl (by exact J0 0) (by rw [ag]; exact yn (by exact J6 15 h5 hk)) (by exact J15 7 h3 hm h5 hk) ?_
 kd_p
 refine AL (by exact J0 0) ?_
 rw [IA]
 kd_p
 rw [GK, Fm (hM _ (jr (by exact J6 15 h5 hk)))]
 refine jC.dec (fun h6 => ?_) fun h6 => ?_
 ·have : st ∉ ms.getD k [] := fun q => by rw [if_pos q] at h6; exact J15 8 h6
  rw [if_pos this] at h
  kd_p
  exact h
 ·have : st ∈ ms.getD k [] := by
   by_cases q : st ∈ ms.getD k []
   ·exact q
   ·exact absurd (by rw [if_neg q]; rfl) h6
  rw [if_neg (fun q => q this)] at h
  kd_p
  exists x_meth ?_
  refine tn P (by exact J6 16 h1 hm h5 hk) (by exact J0 3 h3 h1) (by exact J6 16 h2 hm h5 hk) (by exact J0 3 h3 h2) x.ct x.t ?_
  cases e : lI (g.B.getD k 0) g.T g.C (g.O.getD k 0) (st : Nat) with
  | none =>
   rw [e] at h
   kd_p
   exists jC.tt ?_
   refine j9 Vw.refl (by exact J0 0) (by exact J15 9 hg hm h5 hk) (by exact J0 3 h3 hg) ?_
   exact h
  | some v =>
   rw [e] at h
   kd_p
   exists jC.ff ?_
   exact h
theorem tx (P : PW W) (ha : a.T.length ≤ 5000) (hg : g.T.length ≤ 5000) (h : Q (.int ((a.T.length : Nat) + (g.T.length : Nat))) H) : jZ W (n + 2) H (.ref 439) [p9 nm tc lf ln bf df nu a g gd gm] Q := by
 wtm_at "def"
 kd_p
 exists oz P ha ?_
 exists oz P hg ?_
 exact h
noncomputable def nQ : Int := -1048576
noncomputable def Du (a : AR) (defs : List Int) (st : Nat) (t : Int) : Int := if lZ a st t = nQ then 0 else if lZ a st t = 0 then -(defs.getD st 0) else lZ a st t
theorem v7 (P : PW W) {rows : Nat} {defs : List Int} (x : p8 a rows) (hs : st < rows) (hd : defs.length = rows) {t : Int} (h : Q (.int (Du a defs st t)) H) : jZ W (n + 4) H (.ref 206) [p9 nm tc lf ln bf (.lst (jp defs)) nu a g gd gm, .int (st : Nat), .int t] Q := by
 have h3 := x.r
 wtm_at "def"
 kd_p
 exists mr P x hs ?_
 unfold Du nQ at h
 kd_p
 refine jC.dec (fun h4 => ?_) fun h4 => ?_
 ·kd_p
  rw [if_pos h4] at h; exact h
 rw [if_neg h4] at h
 kd_p
 refine jC.dec (fun h5 => ?_) fun h5 => ?_
 ·kd_p
  exists oD P (by exact J0 4 hd hs) (by exact J0 3 h3 hd) ?_
  rw [if_pos h5] at h; exact h
 ·kd_p
  rw [if_neg h5] at h; exact h
noncomputable def oM (a : AR) (st : Nat) (t : Nat) : Bool := !(t == 1 || t == 2) && !(decide (lZ a st t = 0) || decide (lZ a st t = nQ))
noncomputable def nF (a : AR) (tc : Nat) (st : Nat) : List Nat := (av tc).filter (oM a st)
theorem rN {a : AR} {st i : Nat} {b : Bool} (e : b = oM a st i) : nF a (i + 1) st = nF a i st ++ if b then [i] else [] := by
 unfold nF; rw [bA, cF]; congr 1; subst e
 by_cases q : oM a st i = true <;> simp [q]
theorem tU (P : PW W) {rows : Nat} (x : p8 a rows) (hs : st < rows) (ht : tc ≤ 5000) (h : Q (.lst (o4 (nF a tc st))) H) : jZ W (n + 4) H (.ref 213) [p9 nm tc lf ln bf df nu a g gd gm, .int (st : Nat)] Q := by
 wtm_at "def"
 kd_p
 intro f
 kd_p
 exists jI ?_
 let I1 : IT jt := fun i Z => Z [lc "self" (p9 nm tc lf ln bf df nu a g gd gm), lc "state" (.int (st : Nat)), lc "found" (.ref f), lu "terminal", lu "told", gb "range", gb "ERROR", gb "UNDEFINED", gb "BARRED"] ((f, .lst (o4 (nF a i st))) :: H)
 refine ⟨tc, rfl, by exact J0 17 ht, I1, fun Z zz => zz, ?_, ?_⟩
 ·rintro i hi
  refine ⟨_, by kd_in, ?_⟩
  have no : oM a st i = false → nF a i st = nF a (i + 1) st := fun e => by rw [rN e.symm]; simp
  kd_p
  refine jC.dec (fun h4 => ?_) fun h4 => ?_
  rotate_left
  ·kd_p
   rw [no (by unfold oM; rw [show i = 1 by exact J15 10 h4]; rfl)]
   exact jx.nx (by kd_all) (fun Z zz => zz)
  kd_p
  refine jC.dec (fun h5 => ?_) fun h5 => ?_
  rotate_left
  ·kd_p
   rw [no (by unfold oM; rw [show i = 2 by exact J15 11 h5]; rfl)]
   exact jx.nx (by kd_all) (fun Z zz => zz)
  have h45 : (!((i == 1) || (i == 2))) = true := by simp; exact J15 12 h4 h5
  kd_p
  exists mr P x hs ?_
  refine jC.dec (fun h6 => ?_) fun h6 => ?_
  rotate_left
  ·kd_p
   rw [no (by unfold oM; rw [decide_eq_true (show lZ a st i = 0 by exact J1 11 h6)]; simp)]
   exact jx.nx (by kd_all) (fun Z zz => zz)
  kd_p
  refine jC.dec (fun h7 => ?_) fun h7 => ?_
  ·kd_p
   ·rw [tj]
    have := rN (a := a) (st := st) (i := i) (b := true) (by unfold oM; rw [h45, decide_eq_false h6, decide_eq_false (show ¬ lZ a st i = nQ from h7)]; rfl)
    rw [if_pos rfl] at this
    rw [← this]
    exact jx.nx (by kd_all) (fun Z zz => zz)
   ·rw [aa, am]
    have := bm (oM a st) (av i)
    rw [aq] at this
    unfold nF; exact J6 17 this ht hi
  ·kd_p
   rw [no (by unfold oM; rw [decide_eq_true (show lZ a st i = nQ by unfold nQ; exact J15 13 h7)]; simp)]
   exact jx.nx (by kd_all) (fun Z zz => zz)
 ·show lm _ _ _ _ _ _
  exists jn (jR (li ?_))
  exact ⟨f, _, _, rfl, rfl, h⟩
end
noncomputable def kl (p : Nat → Bool) (f : Nat → Int) (n : Nat) : jN := ((av n).filter p).map fun (t : Nat) => ((t : Int), f t)
theorem kO {p : Nat → Bool} {f : Nat → Int} {n : Nat} {b : Bool} (e : p n = b) : kl p f (n + 1) = kl p f n ++ if b then [((n : Int), f n)] else [] := by
 unfold kl; rw [bA, cF, aJ]; congr 1; subst e
 by_cases q : p n = true <;> simp [q]
theorem mc {p : Nat → Bool} {f : Nat → Int} {n : Nat} {q : Int × Int} (h : q ∈ kl p f n) : ∃ t : Nat, t < n ∧ p t = true ∧ q = ((t : Int), f t) := by
 unfold kl at h
 obtain ⟨t, ht, rfl⟩ := az.mp h
 obtain ⟨h1, h2⟩ := bz.mp ht
 exact ⟨t, aM.mp h1, h2, rfl⟩
theorem mf {p : Nat → Bool} {f : Nat → Int} : ∀ {n : Nat}, qR (kl p f n)
 | 0 => by unfold kl qR; simp
 | n + 1 => by
  rw [kO rfl]
  split
  ·unfold qR
   rw [aJ, bG]
   refine ⟨mf, by simp, fun a ha b hb => ?_⟩
   obtain ⟨q, hq, rfl⟩ := az.mp ha
   simp at hb; subst hb
   obtain ⟨t, ht, _, rfl⟩ := mc hq
   simp only; exact J0 23 ht
  ·rw [bl]; exact mf
theorem kL {p : Nat → Bool} {f : Nat → Int} {n : Nat} : (kl p f n).length ≤ n := by
 unfold kl; rw [aa]; exact bj (bm _ _) (by simp)
theorem qI {p : Nat → Bool} {f : Nat → Int} {n : Nat} (h : n < 64) : pc (kl p f n) :=
 ⟨mf, fun q hq => by obtain ⟨t, ht, _, rfl⟩ := mc hq; simp only; exact J0 0, fun q hq => by obtain ⟨t, ht, _, rfl⟩ := mc hq; simp only; exact J15 14 ht h, bH kL h⟩
theorem pG {p : Nat → Bool} {f : Nat → Int} {n : Nat} {v : Int} : dset (kl p f n) (n : Int) v = kl p f n ++ [((n : Int), v)] := o9 (lG.mpr fun q => by
 obtain ⟨x, hx, e⟩ := az.mp q
 obtain ⟨t, ht, _, rfl⟩ := mc hx
 simp only at e; exact J15 15 ht e)
theorem rm {p : Nat → Bool} {f : Nat → Int} {n t : Nat} (h : t < n) : jB (kl p f n) (t : Int) = if p t = true then some (f t) else none := by
 by_cases q : p t = true
 ·rw [if_pos q]
  have : ((t : Int), f t) ∈ kl p f n := by unfold kl; exact az.mpr ⟨t, bz.mpr ⟨aM.mpr h, q⟩, rfl⟩
  exact mf.get this
 ·rw [if_neg q]
  refine lG.mpr fun z => ?_
  obtain ⟨x, hx, e⟩ := az.mp z
  obtain ⟨u, hu, h2, rfl⟩ := mc hx
  simp only at e
  have : u = t := by exact J1 20 e
  subst this; exact q h2
theorem mh {d : jN} (h : d.length ≤ 5000) : d.length ≤ sizeLine := by rw [am]; exact J0 8 h
inductive GP (W : Wd) (n : Nat) (r : jt) (x : Str) (body : List Stmt) (Q : jJ) (p : PV) (H1 : HH) : Prop
 | mk (lo hi : Nat) (e : p = .rng lo hi) (b : lo ≤ hi ∧ hi < 2 ^ 62) (I : IT jt) (i0 : Of (I 0) r H1)
   (step : ∀ i, i < hi - lo → I i (CK W n x (.int ((lo + i : Nat) : Int)) body (jx W (Of (I (i + 1))) Q))) (fin : I (hi - lo) (Q .next))
theorem sn {x px iter body pos} {Q : jJ} (h : Ev W n r H iter (GP W n r x body Q))
  (hs : autoParam (∀ env x, foldedSetIterable iter env x = pure x) aI) : Ex W n r H (.For (.Name x px) iter body [] pos) Q :=
 m9 (tt := false) (fun h => nomatch h) (te (h.mono fun p H1 h => by
  obtain ⟨lo, hi, e, hb, I, h0, step, done⟩ := h
  exact ⟨lo, hi, e, ⟨by exact J3 18, by exact J15 17 hb, by exact J3 18, by exact J15 18 hb⟩, fun i => Of (I i), h0, fun i x' r' H' hx hI => by
  rw [ax] at hx
  obtain ⟨y, hy, rfl⟩ := bc.mp hx
  have hi' := (aA.mp hy).1
  rw [k8] at hi'
  rw [sO hi'] at hy
  cases hy
  obtain ⟨r2, U, E⟩ := hI _ (step i (by exact J15 19 hi'))
  exact m8 U E, fun r' H' hI => by rw [aa, k8, show ((hi : Int) - lo).toNat = hi - lo by exact J15 20] at hI; exact hI _ done⟩)) hs
section
variable {nm lf ln bf df nu gd gm : PV} {tc : Nat} {a g : AR}
noncomputable def sa (a : AR) (tc st : Nat) : jN := kl (fun t => !decide (lZ a st (t : Int) = 0)) (fun t => lZ a st (t : Int)) tc
noncomputable def rO (a : AR) (tc rows : Nat) : List jN := (av rows).map (sa a tc)
theorem tV (P : PW W) {rows : Nat} (x : p8 a rows) (ht : tc ≤ 5000) (h : Q (jY (rO a tc rows)) H) : jZ W (n + 4) H (.ref 451) [p9 nm tc lf ln bf df nu a g gd gm] Q := by
 have hr := x.r
 have hb := x.b
 wtm_at "def"
 kd_p
 intro ar
 kd_p
 exists jI ?_
 refine np P (by exact J0 3 hr hb) ?_
 rw [hb]
 kd_p
 let I1 : IT jt := fun i Z => Z [lc "tables" (p9 nm tc lf ln bf df nu a g gd gm), lc "rows" (.ref ar), lu "state", lu "row", lu "terminal", lu "action", gb "range"] ((ar, .lst (((av i).map (sa a tc)).map jW)) :: H)
 refine ⟨rows, rfl, by exact J0 17 hr, I1, fun Z zz => zz, ?_, ?_⟩
 ·rintro i hi
  exists ⟨_, by kd_in, ?_⟩
  intro aw
  kd_p
  exists jI ?_
  let I2 : IT jt := fun j Z => Z [lc "tables" (p9 nm tc lf ln bf df nu a g gd gm), lc "rows" (.ref ar), lc "state" (.int (i : Nat)), lc "row" (.ref aw), lu "terminal", lu "action", gb "range"] ((aw, .dct (Dk .int (sa a j i))) :: (ar, .lst (((av i).map (sa a tc)).map jW)) :: H)
  refine ⟨tc, rfl, by exact J0 17 ht, I2, fun Z zz => zz, ?_, ?_⟩
  ·rintro j hj
   exists ⟨_, by kd_in, ?_⟩
   exists mr P x hi ?_
   refine jC.dec (fun h1 => ?_) fun h1 => ?_
   ·kd_p
    refine kK (f := PV.int) rfl (by wtm_at "updh") (mh (by have := kL (p := fun t => !decide (lZ a i (t : Int) = 0)) (f := fun t => lZ a i (t : Int)) (n := j); unfold sa; exact J6 18 this ht hj)) ?_
    kd_p
    have : dset (sa a j i) (j : Int) (lZ a i j) = sa a (j + 1) i := by
     unfold sa; rw [pG, kO (b := true) (by rw [decide_eq_false h1]; rfl), if_pos rfl]
    rw [this]
    exact jx.nx (by kd_all) (fun Z zz => zz)
   ·kd_p
    have : sa a j i = sa a (j + 1) i := by
     unfold sa; rw [kO (b := false) (by rw [decide_eq_true (by exact J1 11 h1)]; rfl), if_neg (by simp), bl]
    rw [this]
    exact jx.nx (by kd_all) (fun Z zz => zz)
  ·show lm _ _ _ _ _ _
   kd_p
   ·refine jx.fz .one (by kd_all) (.lst (nA.snoc (.dct (.head _) .refl)) mV.refl) (Of.eqH ?_ (fun Z zz => zz))
    rw [bA, aJ, aJ]; rfl
   ·rw [aa, aa, aq, am]; exact J6 19 hr hi
 ·show lm _ _ _ _ _ _
  exists jn (jR (li ?_))
  exact ⟨ar, _, _, rfl, rfl, h⟩
noncomputable def sb (tc : Nat) (ms : List (List Nat)) (g : AR) (gds : List Int) (k size : Nat) : jN := kl (fun st => !decide (n4 tc ms g gds st ((tc + k : Nat) : Int) = -1)) (fun st => n4 tc ms g gds st ((tc + k : Nat) : Int)) size
noncomputable def qJ (tc : Nat) (ms : List (List Nat)) (g : AR) (gds : List Int) (others size : Nat) : List jN := (av others).map fun k => sb tc ms g gds k size
theorem ty (P : PW W) {names : List Str} {ms : List (List Nat)} {gds : List Int} {rows size : Nat} (x : p8 g rows) (hm : ms.length = rows) (hg : gds.length = rows) (hM : ∀ M ∈ ms, M.Pairwise (· < ·)) (hb : a.B.length = size) (hz : size ≤ 5000) (ht : tc ≤ names.length) (hn : names.length ≤ 5000)
  (h : Q (jY (qJ tc ms g gds (names.length - tc) size)) H) : jZ W (n + 4) H (.ref 458) [p9 (.lst (uq names)) tc lf ln bf df nu a g (.lst (jp gds)) (wC ms)] Q := by
 have hsn : (uq names).length ≤ sizeLine := by rw [aa, am]; exact J0 8 hn
 wtm_at "def"
 kd_p
 intro ar
 kd_p
 exists sn ?_
 rw [aa]
 let I3 : IT jt := fun i Z => Z [lc "tables" (p9 (.lst (uq names)) tc lf ln bf df nu a g (.lst (jp gds)) (wC ms)), lc "columns" (.ref ar), lu "nonterminal", lu "column", lu "state", lu "goal", gb "range", gb "len"] ((ar, .lst (((av i).map fun k => sb tc ms g gds k size).map jW)) :: H)
 refine ⟨tc, names.length, rfl, ⟨ht, by exact J0 17 hn⟩, I3, fun Z zz => zz, ?_, ?_⟩
 ·rintro i hi
  exists ⟨_, by kd_in, ?_⟩
  intro aw
  kd_p
  exists jI ?_
  refine np P (by exact J0 3 hz hb) ?_
  rw [hb]
  kd_p
  let I4 : IT jt := fun j Z => Z [lc "tables" (p9 (.lst (uq names)) tc lf ln bf df nu a g (.lst (jp gds)) (wC ms)), lc "columns" (.ref ar), lc "nonterminal" (.int ((tc + i : Nat) : Int)), lc "column" (.ref aw), lu "state", lu "goal", gb "range", gb "len"] ((aw, .dct (Dk .int (sb tc ms g gds i j))) :: (ar, .lst (((av i).map fun k => sb tc ms g gds k size).map jW)) :: H)
  refine ⟨size, rfl, by exact J0 17 hz, I4, fun Z zz => zz, ?_, ?_⟩
  ·rintro j hj
   exists ⟨_, by kd_in, ?_⟩
   exists rl P x hm hg hM ?_
   refine jC.dec (fun h1 => ?_) fun h1 => ?_
   ·kd_p
    refine kK (f := PV.int) rfl (by wtm_at "updh") (mh (by have := kL (p := fun st => !decide (n4 tc ms g gds st ((tc + i : Nat) : Int) = -1)) (f := fun st => n4 tc ms g gds st ((tc + i : Nat) : Int)) (n := j); unfold sb; exact J6 18 this hz hj)) ?_
    kd_p
    have : dset (sb tc ms g gds i j) (j : Int) (n4 tc ms g gds j ((tc + i : Nat) : Int)) = sb tc ms g gds i (j + 1) := by
     unfold sb; rw [pG, kO (b := true) (by rw [decide_eq_false h1]; rfl), if_pos rfl]
    rw [this]
    exact jx.nx (by kd_all) (fun Z zz => zz)
   ·kd_p
    have : sb tc ms g gds i j = sb tc ms g gds i (j + 1) := by
     unfold sb; rw [kO (b := false) (by rw [decide_eq_true (by exact J1 1 h1)]; rfl), if_neg (by simp), bl]
    rw [this]
    exact jx.nx (by kd_all) (fun Z zz => zz)
  ·show lm _ _ _ _ _ _
   kd_p
   ·refine jx.fz .one (by kd_all) (.lst (nA.snoc (.dct (.head _) .refl)) mV.refl) (Of.eqH ?_ (fun Z zz => zz))
    rw [bA, aJ, aJ]; rfl
   ·rw [aa, aa, aq, am]; exact J15 21 hn hi
 ·show lm _ _ _ _ _ _
  exists jn (jR (li ?_))
  exact ⟨ar, _, _, rfl, rfl, h⟩
end
theorem qK {α : Type} {x px iter body pos} {Q : jJ} (h : Ev W n r H iter (Ef W n r x body Q α .tup))
  (hs : autoParam (∀ env x, foldedSetIterable iter env x = pure x) aI) : Ex W n r H (.For (.Name x px) iter body [] pos) Q :=
 m9 (tt := false) (fun h => nomatch h) (tf (h.mono fun p H1 h => by
  obtain ⟨L, g, e, I, h0, step, done⟩ := h
  exact ⟨_, e, fun i => Of (I i), h0, fun i x' r' H' hx hI => by
  rw [ax] at hx
  obtain ⟨y, hy, rfl⟩ := bc.mp hx
  obtain ⟨r2, U, E⟩ := hI _ (step i y hy)
  exact m8 U E, fun r' H' hI => by rw [aa] at hI; exact hI _ done⟩)) hs
noncomputable abbrev BP (k : Str × Int × Int × Int) : PV := .tup [.str k.1, .int k.2.1, .int k.2.2.1, .int k.2.2.2]
noncomputable def lS : List (Str × Int × Int × Int) := [("int8", -128, 127, 1), ("uint8", 0, 255, 1), ("int16", -32768, 32767, 2), ("uint16", 0, 65535, 2)]
noncomputable def jQ (low high : Int) (k : Str × Int × Int × Int) : Bool := decide (k.2.1 ≤ low) && decide (high ≤ k.2.2.1)
noncomputable def kindOf (low high : Int) : Str × Int := match lS.find? (jQ low high) with | some k => (k.1, k.2.2.2) | none => ("int32", 4)
noncomputable def kD (L : List Int) : Str × Int := kindOf (sV (L ++ [0])) (ot (L ++ [0]))
theorem yo {W : Wd} (P : PW W) {a : Addr} {o : Obj} (h : (KF W.w.params).lookup a = some o) : W.B0.get? a = some o := W.inK a o (by rw [P.K]; exact h)
theorem so (P : PW W) {G : Gh} {s : Shared} (hr : HR W G H s) {a : Addr} {t0 t1 t2 t3 : Tok} {c : Str × Int × Int × Int} {m : Nat} {od : Option Addr} {osl : Array (Option Value)}
  (h : (KF W.w.params).lookup a = some ⟨.type "tuple", od, .seq #[.str c.1 t0, .int c.2.1 t1, .int c.2.2.1 t2, .int c.2.2.2 t3] m, osl⟩) : RV W G (BP c) (.ref a) := by
 exact vn.mk a _ rfl ⟨_, hr.bas _ _ (yo P h), rfl, m, rfl⟩ (j0.cons rvS (j0.cons Ey (j0.cons Ey (j0.cons Ey j0.nil))))
theorem Dv {r : jt} (P : PW W) {pos} (hm : gb "KINDS" ∈ r) (h : Q (.tup (lS.map BP)) H) : Ev W n r H (.Name "KINDS" pos) Q := xC hm ⟨.ref 232, (P.mg _).trans (by kernel_rfl), fun G s hr => by
 refine vn.mk 232 _ rfl ⟨_, hr.bas _ _ (yo P (a := 232) rfl), rfl, _, rfl⟩ (j0.cons (so (c := ("int8", -128, 127, 1)) P hr (a := 228) rfl) (j0.cons (so (c := ("uint8", 0, 255, 1)) P hr (a := 229) rfl) (j0.cons (so (c := ("int16", -32768, 32767, 2)) P hr (a := 230) rfl) (j0.cons (so (c := ("uint16", 0, 65535, 2)) P hr (a := 231) rfl) j0.nil))))⟩ h (by decide +kernel)
theorem ph (P : PW W) {L : List Int} (hz : L.length ≤ 5000) (h : Q (.tup [.str (kD L).1, .int (kD L).2]) H) : jZ W (n + 1) H (.ref 484) [.lst (jp L)] Q := by
 have hne : L ++ [0] ≠ [] := by simp
 wtm_at "def"
 exists jn (jD rfl (kR (vS P (by kd_mem) ?_)))
 intro a
 wtm_at "w1"
 refine uP (.refl) (.lst (.head _)) (by rw [aa, am]; simp; exact J2 18 hz) fun b => ?_
 kd_p
 refine uN (ns := L ++ [0]) (.lst (by rw [aJ]; exact .head _)) hne ?_
 refine ⟨_, _, .two, ?_⟩
 kd_p1
 exists jn (jD rfl (kR (vR P (by kd_mem) ?_)))
 intro a'
 wtm_at "w1"
 refine uP (.refl) (.lst (.head _)) (by rw [aa, am]; simp; exact J2 18 hz) fun b' => ?_
 kd_p
 refine si (ns := L ++ [0]) (.lst (by rw [aJ]; exact .head _)) hne ?_
 refine ⟨_, _, .two, ?_⟩
 kd_p1
 refine jn (m9 (tt := false) (fun h => nomatch h) (tf (Dv P (by kd_mem) ?_)))
 unfold kD at h
 generalize sV (L ++ [0]) = low at *
 generalize ot (L ++ [0]) = high at *
 let I1 : IT jt := fun i Z => (lS.take i).find? (jQ low high) = none → Z [lc "numbers" (.lst (jp L)), lc "low" (.int low), lc "high" (.int high), lu "name", lu "least", lu "most", lu "size", gb "min", gb "max", gb "KINDS"] H
 refine ⟨_, rfl, uK.T I1 (fun Z zz => zz rfl) ?_ ?_⟩
 ·rintro i x hx hf
  rw [ax] at hx
  obtain ⟨k, hk, rfl⟩ := bc.mp hx
  refine mW (xs := ["name", "least", "most", "size"]) (ps := [.str k.1, .int k.2.1, .int k.2.2.1, .int k.2.2.2]) Vw.refl rfl (.cons (by kd_in) (.cons (by kd_in) (.cons (by kd_in) (.cons (by kd_in) .nil)))) ?_
  have no : jQ low high k = false → (lS.take (i + 1)).find? (jQ low high) = none := fun e => by
   rw [a7, hk, cn, ed, hf, List.find?_singleton, e]; rfl
  kd_p
  refine jC.dec (fun h1 => ?_) fun h1 => ?_
  ·kd_p
   refine jC.dec (fun h2 => ?_) fun h2 => ?_
   ·kd_p
    have : kindOf low high = (k.1, k.2.2.2) := by
     unfold kindOf
     have hsp : lS = lS.take i ++ k :: lS.drop (i + 1) := by
      obtain ⟨q1, q2⟩ := aA.mp hk
      rw [← q2, bY, bS]
     rw [hsp, ed, hf]
     simp [jQ, h1, h2]
    rw [this] at h
    exact h
   ·kd_p
    exact jx.nx (by kd_all) (fun Z zz => zz (no (by unfold jQ; rw [decide_eq_false h2, i8])))
  ·kd_p
   exact jx.nx (by kd_all) (fun Z zz => zz (no (by unfold jQ; rw [decide_eq_false h1, d5])))
 ·rintro hf
  rw [aa, aZ] at hf
  kd_p
  unfold kindOf at h
  rw [hf] at h
  exact h
noncomputable def BQ (L : List Int) : Int := (L.length : Int) * (kD L).2
theorem w3 (L : List Int) : 0 ≤ (kD L).2 ∧ (kD L).2 ≤ 4 := by
 unfold kD kindOf
 cases h : lS.find? (jQ (sV (L ++ [0])) (ot (L ++ [0]))) with
 | none => simp
 | some k =>
  have := fH h
  simp only [lS, au, bw, or_false] at this
  rcases this with rfl | rfl | rfl | rfl <;> simp
section
variable {nm lf ln bf df nu gd gm : PV} {tc : Nat} {a g : AR} {st : Nat}
theorem tW (P : PW W) {ms : List (List Nat)} (hM : ∀ M ∈ ms, M.Pairwise (· < ·) ∧ M.length ≤ 64) (hz : ms.length ≤ 5000) {k : Nat} (hk : k < ms.length) (h : Q (.lst (o4 (ms.getD k []))) H) :
  jZ W (n + 2) H (.ref 477) [p9 nm tc lf ln bf df nu a g gd (wC ms), .int ((tc + k : Nat) : Int)] Q := by
 have hm := hM _ (jr (d := ([] : List Nat)) hk)
 wtm_at "def"
 kd_p1
 kd_p1
 exists ny P (by kd_mem) ?_
 rw [show ((tc + k : Nat) : Int) - (tc : Int) = (k : Int) by exact J6 20]
 refine jz (x := .int (pw 0 (ms.getD k []) : Nat)) Vw.refl (by exact J0 0) (by rw [ag]; exact yn hk) (by exact J15 22 hz hk) ?_
 kd_p
 exact Fd P hm.1 hm.2 h
theorem nq {i j : Int} (h : i.natAbs < 2 ^ 64) : IntMulOk i j := by
 refine IntMulOk.of_left ?_
 unfold Builtin.Int.intBits
 split
 ·exact J15 23
 ·rename_i q
  have q : i ≠ 0 := by simpa using q
  have := (Nat.log2_lt (by lia : i.natAbs ≠ 0)).mpr h
  exact J16 0 this
noncomputable def sd (Ls : List (List Int)) : Int := (Ls.map BQ).sum
theorem ur {Ls L} : sd (Ls ++ [L]) = sd Ls + BQ L := by simp [sd]
noncomputable abbrev tK (a : AR) : List (List Int) := [a.B, a.T, a.C, a.O]
theorem BR (P : PW W) {defs gds : List Int} (hA : ∀ L ∈ tK a, L.length ≤ 5000) (hG : ∀ L ∈ tK g, L.length ≤ 5000) (hd : defs.length ≤ 5000) (hg : gds.length ≤ 5000)
  (h : Q (.int (sd (tK a ++ tK g ++ [defs, gds]))) H) : jZ W (n + 2) H (.ref 491) [p9 nm tc lf ln bf (.lst (jp defs)) nu a g (.lst (jp gds)) gm] Q := by
 have inner : ∀ (L : List Int), L.length ≤ 5000 → ((L.length : Int)).natAbs < 2 ^ 64 := fun L h => by exact J4 3 h
 wtm_at "def"
 kd_p
 exists qK (α := AR) ?_
 let I1 : IT jt := fun i Z => Z [lc "packed" (p9 nm tc lf ln bf (.lst (jp defs)) nu a g (.lst (jp gds)) gm), lc "total" (.int (sd (([a, g].take i).map tK).flatten)), lu "rows", lu "numbers", gb "len", gb "cell_kind"] H
 refine ⟨[a, g], Fy, rfl, I1, fun Z zz => zz, ?_, ?_⟩
 ·rintro i b hb
  have hbb : ∀ L ∈ tK b, L.length ≤ 5000 := by
   have := aS hb
   simp at this
   rcases this with rfl | rfl
   ·exact hA
   ·exact hG
  have htk : ([a, g].take (i + 1)) = ([a, g].take i) ++ [b] := by rw [a7, hb]; rfl
  have htk2 : (([a, g].take (i + 1)).map tK).flatten = (([a, g].take i).map tK).flatten ++ tK b := by rw [htk, aJ, List.flatten_append]; simp
  show lL _ _ _ _
  generalize (([a, g].take i).map tK).flatten = Ls at *
  exists ⟨_, by kd_in, ?_⟩
  exists qK (α := List Int) ?_
  let I2 : IT jt := fun i Z => Z [lc "packed" (p9 nm tc lf ln bf (.lst (jp defs)) nu a g (.lst (jp gds)) gm), lc "total" (.int (sd (Ls ++ (tK b).take i))), lc "rows" (Fy b), lu "numbers", gb "len", gb "cell_kind"] H
  refine ⟨tK b, fun L => .lst (jp L), rfl, I2, Of.eq (by rw [cb, bl]) (fun Z zz => zz), ?_, ?_⟩
  ·rintro j L hL
   have hLz := hbb L (aS hL)
   have hs := pO hLz
   have hk := w3 L
   exists ⟨_, by kd_in, ?_⟩
   exists ph P hLz ?_
   refine kJ (x := .int (kD L).2) Vw.refl (by decide) rfl (by decide) ?_
   rw [aa]
   kd_p
   exists lA (nq (inner L hLz)) ?_
   rw [show sd (Ls ++ (tK b).take j) + (L.length : Int) * (kD L).2 = sd (Ls ++ (tK b).take (j + 1)) by
    rw [a7, hL, cn, ← d6, ur]; rfl]
   exact jx.nx (by kd_all) (fun Z zz => zz)
  ·show lm _ _ _ _ _ _
   kd_p
   rw [aZ, ← htk2]
   exact jx.nx (by kd_all) (fun Z zz => zz)
 ·show lm _ _ _ _ _ _
  rw [aZ]
  rw [show ([a, g].map tK).flatten = tK a ++ tK g by simp]
  generalize hLs : tK a ++ tK g = Ls at *
  kd_p
  exists qK (α := List Int) ?_
  let I3 : IT jt := fun i Z => Z [lc "packed" (p9 nm tc lf ln bf (.lst (jp defs)) nu a g (.lst (jp gds)) gm), lc "total" (.int (sd (Ls ++ [defs, gds].take i))), lu "rows", lu "numbers", gb "len", gb "cell_kind"] H
  refine ⟨[defs, gds], fun L => .lst (jp L), rfl, I3, Of.eq (by rw [cb, bl]) (fun Z zz => zz), ?_, ?_⟩
  ·rintro j L hL
   have hLz : L.length ≤ 5000 := by
    have := aS hL
    simp at this
    rcases this with rfl | rfl <;> assumption
   have hs := pO hLz
   exists ⟨_, by kd_in, ?_⟩
   exists ph P hLz ?_
   refine kJ (x := .int (kD L).2) Vw.refl (by decide) rfl (by decide) ?_
   rw [aa]
   kd_p
   exists lA (nq (inner L hLz)) ?_
   rw [show sd (Ls ++ [defs, gds].take j) + (L.length : Int) * (kD L).2 = sd (Ls ++ [defs, gds].take (j + 1)) by
    rw [a7, hL, cn, ← d6, ur]; rfl]
   exact jx.nx (by kd_all) (fun Z zz => zz)
  ·show lm _ _ _ _ _ _
   kd_p
   rw [aZ]
   exact h
theorem Dw (P : PW W) {lf2 ln2 bf2 df2 nu2 gd2 gm2 nm2 : PV} {tc2 : Nat} {a2 g2 : AR} {names : List Str} (hb : a.B.length ≤ 5000) (hn : names.length ≤ 5000) (ha : a2.T.length ≤ 5000) (hg : g2.T.length ≤ 5000)
  (h : Q (.int ((a.B.length : Int) * (names.length : Int) - ((a2.T.length : Nat) + (g2.T.length : Nat)))) H) : jZ W (n + 3) H (.ref 470) [p9 (.lst (uq names)) tc lf ln bf df nu a g gd gm, p9 nm2 tc2 lf2 ln2 bf2 df2 nu2 a2 g2 gd2 gm2] Q := by
 have hsn : (uq names).length ≤ sizeLine := by rw [aa, am]; exact J0 8 hn
 wtm_at "def"
 kd_p
 exists np P hb ?_
 rw [aa]
 exists lA (nq (by exact J4 3 hb)) ?_
 exists tx P ha hg ?_
 exact h
end
noncomputable def kU (R : List jN) : AR := ⟨km R, lR R, jS R, oI (ko R)⟩
theorem u5 {R : List jN} (hR : j3 R) : p8 (kU R) R.length := by
 have h1 := mK.all hR
 have h2 := hR.len
 have h3 := h1.m
 refine ⟨nO, by simp [kU, jL], ?_, ?_, by exact J0 13 h2⟩
 ·show (jS R).length ≤ (lR R).length
  unfold jS lR; rw [ky, kN]; exact aU _
 ·show (lR R).length ≤ 5000
  unfold lR; rw [kN]; exact J6 21 h3 h2
noncomputable def nr (d : jN) : List Nat := d.map fun p => p.1.toNat
theorem Dx {d : jN} (h : ∀ p ∈ d, 0 ≤ p.1) : o4 (nr d) = jp (d.map ai) := by
 unfold nr o4 jp; rw [aX, aX]
 refine bQ fun p hp => ?_
 have := h p hp
 simp only [cK]; rw [bP this]
theorem zt {d : jN} (h : pc d) : (nr d).Pairwise (· < ·) := by
 have h1 := h.srt
 unfold qR at h1
 unfold nr
 rw [bU] at h1 ⊢
 refine List.Pairwise.imp_of_mem (fun {a b} ha hb hab => ?_) h1
 have := h.low a ha
 exact J16 1 this hab
theorem BS {d : jN} (h : pc d) : ∀ x ∈ nr d, x < 64 := fun x hx => by
 obtain ⟨p, hp, rfl⟩ := az.mp hx
 have h1 := h.low p hp
 have h2 := h.high p hp
 exact J16 2 h2
noncomputable def usuals (C : List jN) : List Int := C.map fun c => kj (c.map bB)
noncomputable def kx (u : Int) (c : jN) : jN := c.filter fun p => !decide (p.2 = u)
noncomputable def rests (C : List jN) : List jN := C.map fun c => kx (kj (c.map bB)) c
theorem w4 {u : Int} {c : jN} (h : pc c) : pc (kx u c) := by
 unfold kx
 refine ⟨?_, fun p hp => h.low p ((bz.mp hp).1), fun p hp => h.high p ((bz.mp hp).1), bH (bm _ _) h.len⟩
 have := h.srt
 unfold qR at this ⊢
 rw [bU] at this ⊢
 exact this.filter _
theorem BU {C : List jN} (h : j3 C) : j3 (rests C) :=
 ⟨fun d hd => by obtain ⟨c, hc, rfl⟩ := az.mp hd; exact w4 (h.row c hc), by unfold rests; rw [aa]; exact h.len⟩
theorem kd {α : Type} {L : List α} {i : Nat} {a : α} (h : L[i]? = some a) : L.take (i + 1) = L.take i ++ [a] := by rw [a7, h]; rfl
section
variable {lf ln bf df nu gd gm : PV} {tc : Nat} {a g : AR} {st : Nat}
theorem BV {a : AR} {tc size : Nat} (ht : tc < 64) (hs : size < 64) : j3 (rO a tc size) :=
 ⟨fun d hd => by unfold rO at hd; obtain ⟨i, _, rfl⟩ := az.mp hd; exact qI ht, by unfold rO; rw [aa, aq]; exact hs⟩
theorem BW {tc : Nat} {ms : List (List Nat)} {g : AR} {gds : List Int} {others size : Nat} (ho : others < 64) (hs : size < 64) : j3 (qJ tc ms g gds others size) :=
 ⟨fun d hd => by unfold qJ at hd; obtain ⟨i, _, rfl⟩ := az.mp hd; exact qI hs, by unfold qJ; rw [aa, aq]; exact ho⟩
theorem w5 {tc : Nat} {ms : List (List Nat)} {g : AR} {gds : List Int} {others size : Nat} : ∀ d ∈ qJ tc ms g gds others size, ∀ v ∈ d.map bB, v ≠ -1 := fun d hd v hv => by
 unfold qJ at hd
 obtain ⟨i, _, rfl⟩ := az.mp hd
 obtain ⟨q, hq, rfl⟩ := az.mp hv
 obtain ⟨t, _, h2, rfl⟩ := mc hq
 simpa using h2
theorem Fn (P : PW W) {names : List Str} {ms : List (List Nat)} {gds defs : List Int} {rows size : Nat} (x : p8 g rows) (y : p8 a size) (hm : ms.length = rows) (hg : gds.length = rows) (hM : ∀ M ∈ ms, M.Pairwise (· < ·)) (hz : size < 64) (ht : tc ≤ names.length) (ht2 : tc < 64) (hn : names.length ≤ 60) (hnd : names.Nodup) (hdf : defs.length = size)
  (C : List jN) (hC : qJ tc ms g gds (names.length - tc) size = C)
  (h : Q (p9 (.lst (uq names)) tc lf ln bf (.lst (jp defs)) (.dct (wY (pS names tc))) (kU (rO a tc size)) (kU (rests C)) (.lst (jp (usuals C))) (wC (C.map nr))) H) :
  jZ W (n + 8) H (.ref 463) [p9 (.lst (uq names)) tc lf ln bf (.lst (jp defs)) nu a g (.lst (jp gds)) (wC ms)] Q := by
 have hCok : j3 C := hC ▸ BW (by exact J16 3 hn) hz
 have hCv : ∀ d ∈ C, ∀ v ∈ d.map bB, v ≠ -1 := hC ▸ w5
 have hyb := y.b
 wtm_at "def"
 kd_p1
 kd_p1
 exists ny P (by kd_mem) ?_
 refine ty P x hm hg hM y.b (by exact J0 13 hz) ht (by exact J6 22 hn) ?_
 rw [hC]
 kd_p
 exists lB (α := jN) (fun c => PV.int (kj (c.map bB))) (by wtm_at "hcap") (jP ?_)
 have hCl : C.length ≤ sizeLine := by rw [am]; have := hCok.len; exact J0 5 this
 refine ⟨_, rfl, _, C, jW, by wtm_at "crho", rfl, hCl, fun c hc => ⟨_, by kd_in, ?_⟩, ?_⟩
 ·have hcok := hCok.row c hc
  exists ny P (by kd_mem) (jA (ku (α := Int × Int) (fun p => PV.int p.2) (by wtm_at "hcap") (jP (li (lv P (by kd_mem) ?_)))))
  refine lD (f := PV.int) Vw.refl hcok.len fun al => ⟨al, _, _, rfl, rfl, _, rfl, _, c, fun p => .int p.1, by wtm_at "crho", ?_, ?_, fun p hp => ⟨_, by kd_in, ?_⟩, ?_⟩
  ·rw [re hcok.srt, aX]; rfl
  ·exact mh (by have := hcok.len; exact J0 13 this)
  ·kd_p
   refine my (f := PV.int) Vw.refl (hcok.srt.get hp) ?_
   exact ⟨rfl, rfl⟩
  ·kd_p
   rw [show c.map (fun p => PV.int p.2) = jp (c.map bB) by simp]
   refine r9 P (by rw [aa]; exact hcok.len) (hCv c hc) ?_
   exact ⟨rfl, rfl⟩
 rw [show C.map (fun c => PV.int (kj (c.map bB))) = jp (usuals C) by unfold usuals; simp]
 kd_p
 exists lB (α := jN) (fun c => PV.int (pw 0 (nr c) : Nat)) (by wtm_at "hcap") (jP ?_)
 refine ⟨_, rfl, _, C, jW, by wtm_at "crho", rfl, hCl, fun c hc => ⟨_, by kd_in, ?_⟩, ?_⟩
 ·have hcok := hCok.row c hc
  exists ny P (by kd_mem) (jA (li (lv P (by kd_mem) ?_)))
  refine lD (f := PV.int) Vw.refl hcok.len fun al => ⟨al, _, _, rfl, rfl, ?_⟩
  rw [re hcok.srt]
  kd_p
  show jZ _ _ _ _ [.lst (jp (c.map ai))] _
  rw [← Dx hcok.low]
  refine zh P (zt hcok) (BS hcok) ?_
  exact ⟨rfl, rfl⟩
 rw [show C.map (fun c => PV.int (pw 0 (nr c) : Nat)) = (C.map nr).map (fun M => PV.int (pw 0 M : Nat)) by simp]
 kd_p
 intro ar
 kd_p
 refine jI ?_
 have hCl2 : (C.map jW).length ≤ sizeLine := by rw [aa]; exact hCl
 kd_p
 rw [aa]
 let I1 : IT jt := fun i Z => Z [cc "tables" (p9 (.lst (uq names)) tc lf ln bf (.lst (jp defs)) nu a g (.lst (jp gds)) (wC ms)), lc "columns" (jY C), lu "state", lc "defaults" (.lst (jp (usuals C))), lc "masks" (wC (C.map nr)), lc "rows" (.ref ar), lu "number", lu "row", lu "frame", lu "rules", gb "goto_columns", gb "range", gb "len", gb "sorted", gb "PackedTables", gb "packed_rows", gb "action_rows"] ((ar, .lst (((rests C).take i).map jW)) :: H)
 refine ⟨C.length, rfl, by have := hCok.len; exact J0 22 this, I1, fun Z zz => zz, ?_, ?_⟩
 ·rintro i hi
  have hci := jM (d := ([] : jN)) hi
  have hcok := hCok.row _ (jr (d := ([] : jN)) hi)
  have hui : (usuals C).getD i 0 = kj ((C.getD i []).map bB) := by
   unfold usuals; rw [aL, ax, hci]; rfl
  have hul : (usuals C).length = C.length := by simp [usuals]
  have hlen := hCok.len
  have hrest : (rests C).take (i + 1) = (rests C).take i ++ [kx (kj ((C.getD i []).map bB)) (C.getD i [])] :=
   kd (by unfold rests; rw [ax, hci]; rfl)
  show lL _ _ _ _
  generalize hcc : C.getD i [] = c at *
  have hgc : ∀ {r : jt} {Q : CV} {H : HH}, Q (jW c) H → oP W (n + 7) H (jY C) (.int (i : Nat)) Q := fun hq =>
   jz (x := jW c) Vw.refl (by exact J0 0) (by rw [ag, ax, hci]; rfl) (by exact J1 4 hi hlen) hq
  exists ⟨_, by kd_in, ?_⟩
  intro aw
  kd_p
  exists mZ (α := Int × Int) (li (lv P (by kd_mem) ?_))
  exists hgc (r := []) ?_
  let I2 : IT jt := fun j Z => Z [cc "tables" (p9 (.lst (uq names)) tc lf ln bf (.lst (jp defs)) nu a g (.lst (jp gds)) (wC ms)), lc "columns" (jY C), lu "state", lc "defaults" (.lst (jp (usuals C))), lc "masks" (wC (C.map nr)), lc "rows" (.ref ar), lc "number" (.int (i : Nat)), lc "row" (.ref aw), lu "frame", lu "rules", gb "goto_columns", gb "range", gb "len", gb "sorted", gb "PackedTables", gb "packed_rows", gb "action_rows"] ((aw, .dct (Dk .int (kx (kj (c.map bB)) (c.take j)))) :: (ar, .lst (((rests C).take i).map jW)) :: H)
  refine lD (f := PV.int) Vw.refl hcok.len fun al => ⟨al, _, _, rfl, rfl, c, fun p => .int p.1, by rw [re hcok.srt, aX]; rfl, I2, fun Z zz => zz, ?_, ?_⟩
  ·rintro j p hp
   have hpm := aS hp
   exists ⟨_, by kd_in, ?_⟩
   exists hgc (r := []) ?_
   exists my (f := PV.int) Vw.refl (hcok.srt.get hpm) ?_
   refine j9 Vw.refl (by exact J0 0) (by exact J0 2 hul hi) (by exact J0 10 hul hlen) ?_
   rw [ag, hui]
   kd_p
   have hrr : kx (kj (c.map bB)) (c.take (j + 1)) = kx (kj (c.map bB)) (c.take j) ++ kx (kj (c.map bB)) [p] := by
    rw [kd hp]; unfold kx; rw [cF]
   refine jC.dec (fun h1 => ?_) fun h1 => ?_
   ·kd_p
    exists hgc (r := []) ?_
    exists my (f := PV.int) Vw.refl (hcok.srt.get hpm) ?_
    refine kK (f := PV.int) rfl (by wtm_at "updh") (mh (by unfold kx; have := bm (fun p => !decide (p.2 = kj (c.map bB))) (c.take j); have h2 : (c.take j).length ≤ c.length := (ef j c).length_le; have h3 := hcok.len; exact J16 4 h2 this h3)) ?_
    kd_p
    have : dset (kx (kj (c.map bB)) (c.take j)) p.1 p.2 = kx (kj (c.map bB)) (c.take (j + 1)) := by
     rw [hrr, o9 (lG.mpr fun q => ?_)]
     ·unfold kx; simp [h1]
     ·obtain ⟨x, hx, e⟩ := az.mp q
      have hx := (bz.mp hx).1
      have hs := hcok.srt
      unfold qR at hs
      obtain ⟨q1, q2⟩ := aA.mp hp
      have hsp : c = c.take j ++ p :: c.drop (j + 1) := by rw [← q2, bY, bS]
      rw [hsp, aJ] at hs
      have := (bG.mp hs).2.2 x.1 (aO (f := ai) hx) p.1 (.head _)
      exact J16 5 this e
    rw [this]
    exact jx.nx (by kd_all) (fun Z zz => zz)
   ·kd_p
    have : kx (kj (c.map bB)) (c.take j) = kx (kj (c.map bB)) (c.take (j + 1)) := by
     rw [hrr]; unfold kx; simp [show p.2 = kj (c.map bB) by exact J2 17 h1]
    rw [this]
    exact jx.nx (by kd_all) (fun Z zz => zz)
  ·show lm _ _ _ _ _ _
   rw [aZ]
   kd_p
   ·refine jx.fz .one (by kd_all) (.lst (nA.snoc (.dct (.head _) .refl)) mV.refl) (Of.eqH ?_ (fun Z zz => zz))
    rw [hrest, aJ]; rfl
   ·rw [aa, bg, am]; exact J16 6 hi hlen
 ·show lm _ _ _ _ _ _
  rw [show (rests C).take C.length = rests C from br (by simp [rests])]
  exists mI (mG.frz (r' := [cc "tables" (p9 (.lst (uq names)) tc lf ln bf (.lst (jp defs)) nu a g (.lst (jp gds)) (wC ms)), lc "columns" (jY C), lu "state", lc "defaults" (.lst (jp (usuals C))), lc "masks" (wC (C.map nr)), lc "rows" (jY (rests C)), lu "number", lu "row", lu "frame", lu "rules", gb "goto_columns", gb "range", gb "len", gb "sorted", gb "PackedTables", gb "packed_rows", gb "action_rows"]) .one (.same (.same (.same (.same (.same (.rfy (.lst (.head _) .refl) (by kd_all))))))) mV.refl) ?_
  exists lB (α := Nat) (fun s => PV.int (defs.getD s 0)) (by wtm_at "hcap") (jO ?_)
  refine np P (by exact J0 10 hyb hz) ?_
  rw [hyb]
  kd_p
  refine ⟨size, rfl, by exact J0 22 hz, _, av size, fun s => .int (s : Nat), by wtm_at "crho", rfl, by rw [aq, am]; exact J0 5 hz, fun s hs => ⟨_, by kd_in, ?_⟩, ?_⟩
  ·have := aM.mp hs
   kd_p
   refine oD P (by exact J0 4 hdf this) (by exact J0 10 hdf hz) ?_
   exact ⟨rfl, rfl⟩
  rw [show (av size).map (fun s => PV.int (defs.getD s 0)) = jp defs by
   apply dA
   intro i
   rw [ax, ax]
   by_cases hi : i < size
   ·rw [b8 hi, jM (d := (0 : Int)) (by exact J0 4 hdf hi)]; rfl
   ·rw [a8 (by rw [aq]; exact J1 0 hi), a8 (by exact J16 7 hdf hi)]; rfl]
  kd_p
  exists tV P y (by exact J0 13 ht2) ?_
  exists kz P (BV ht2 hz) ?_
  exists kz P (BU hCok) ?_
  exact BO (a := kU (rO a tc size)) (g := kU (rests C)) P hnd ht (by exact J6 22 hn) h
end
inductive u6 : PV → Value → Prop
 | none : u6 .none .none
 | int {i t} : u6 (.int i) (.int i t)
 | bool {b} : u6 (.bool b) (.bool b)
theorem u6.rv {W : Wd} {G : Gh} {p v} (h : u6 p v) : RV W G p v := by
 cases h with
 | none => rfl
 | int => exact Ey
 | bool => rfl
theorem Fo {f da : Addr} {name qual : Str} {ps : List Arg} {es : List Expr} {body : List Stmt} {scope : Scope} {kV doc pm cdv ct oc : Value} {an od : Option Addr} {osl : Array (Option Value)} {pvs : List PV} {r0 : jt} {K : Frag} {dv ocd : Value} {m : Nat} {odd : Option Addr} {osd : Array (Option Value)} (hK : W.K = K)
  (ho : K.lookup f = some ⟨oc, od, .func (fnX name qual ⟨[], ps, none, [], [], none, es⟩ body scope [] (.ref da) kV doc pm an cdv ct), osl⟩) (hda : K.lookup da = some ⟨ocd, odd, .seq #[dv] m, osd⟩)
  (hk : scope.kind = .function) (hco : scope.isCoroutine = false) (hgen : scope.isGenerator = false) (hcd : codeIn K cdv qual = true)
  (hn : (ps.map (·.arg)).Nodup) (hnn : (scope.names.map ai).Nodup) (hkd : ((ps.map (·.arg)).all fun y => scope.names.lookup y == some .local || scope.names.lookup y == some .cell) = true)
  (hl : pvs.length = ps.length) (hpos : 0 < ps.length) (hr0 : EW scope.names ((ps.map (·.arg)).zip pvs) = some r0) (h : lm W n r0 H body (vA Q)) :
  jZ W (n + 1) H (.ref f) pvs Q :=
 qT (by rw [hK]; exact ho) (by rw [hK]; exact hcd) hn hnn hkd hl (fun G s vs hr hv => ⟨vs, hv, yN (s := s) rfl rfl (hr.base _ _ (W.inK _ _ (by rw [hK]; exact hda))) rfl hn (by rw [hv.length, hl]) hpos⟩) (wP hr0) h hk hco hgen
theorem Fp {f da : Addr} {name qual : Str} {ps : List Arg} {es : List Expr} {body : List Stmt} {scope : Scope} {kV doc pm cdv ct oc : Value} {an od : Option Addr} {osl : Array (Option Value)} {pvs : List PV} {pd : PV} {r0 : jt} {K : Frag} {dv ocd : Value} {m : Nat} {odd : Option Addr} {osd : Array (Option Value)} (hK : W.K = K)
  (ho : K.lookup f = some ⟨oc, od, .func (fnX name qual ⟨[], ps, none, [], [], none, es⟩ body scope [] (.ref da) kV doc pm an cdv ct), osl⟩) (hda : K.lookup da = some ⟨ocd, odd, .seq #[dv] m, osd⟩)
  (hk : scope.kind = .function) (hco : scope.isCoroutine = false) (hgen : scope.isGenerator = false) (hcd : codeIn K cdv qual = true)
  (hn : (ps.map (·.arg)).Nodup) (hnn : (scope.names.map ai).Nodup) (hkd : ((ps.map (·.arg)).all fun y => scope.names.lookup y == some .local || scope.names.lookup y == some .cell) = true)
  (hl : pvs.length + 1 = ps.length) (hpd : u6 pd dv) (hr0 : EW scope.names ((ps.map (·.arg)).zip (pvs ++ [pd])) = some r0) (h : lm W n r0 H body (vA Q)) :
  jZ W (n + 1) H (.ref f) pvs Q :=
 qT (pvs := pvs ++ [pd]) (by rw [hK]; exact ho) (by rw [hK]; exact hcd) hn hnn hkd (by simpa using hl) (fun G s vs hr hv => ⟨vs ++ [dv], hv.append (j0.one (hpd.rv (W := W) (G := G))), yM (s := s) rfl rfl (hr.base _ _ (W.inK _ _ (by rw [hK]; exact hda))) rfl hn (by rw [hv.length, hl])⟩) (wP hr0) h hk hco hgen
noncomputable abbrev n6 (tags : List (List Int)) : PV := .lst (tags.map fun t => .tup (jp t))
noncomputable abbrev j5 (L : List (List Int)) : PV := .lst (L.map fun l => .lst (jp l))
noncomputable abbrev zu (lines tags : List (List Int)) : PV := .ins "Dfa" [("rows", j5 lines), ("tags", n6 tags)]
noncomputable abbrev rn (a : AR) (tags : List (List Int)) (cnt : Nat) (par : List Int) : PV := .ins "PackedDfa" [("bases", .lst (jp a.B)), ("table", .lst (jp a.T)), ("check", .lst (jp a.C)), ("owners", .lst (jp a.O)), ("tags", n6 tags), ("count", .int (cnt : Nat)), ("parents", .lst (jp par))]
theorem yp (P : PW W) {r t : PV} (h : Q (.ins "Dfa" [("rows", r), ("tags", t)]) H) : jZ W (n + 2) H (.ref 125) [r, t] Q := by
 refine jZ.frz (C3 P fun a => ?_)
 wtm_at "def"
 kd_p
 exact ⟨rfl, _, _, _, _, .one, .ins (.head _) .refl, mV.refl, h⟩
theorem rP (P : PW W) {lines tags : List (List Int)} (hz : lines.length ≤ 5000) (h : Q (.int (lines.length : Nat)) H) : jZ W (n + 1) H (.ref 103) [zu lines tags] Q := by
 have hs : (lines.map fun l => PV.lst (jp l)).length ≤ sizeLine := by rw [aa, am]; exact J0 8 hz
 wtm_at "def"
 kd_p
 rw [aa]; exact h
theorem rQ (P : PW W) {lines tags : List (List Int)} {l : List Int} (hl : lines[0]? = some l) (hz : l.length ≤ 5000) (h : Q (.int (l.length : Nat)) H) : jZ W (n + 1) H (.ref 96) [zu lines tags] Q := by
 have hs := pO hz
 wtm_at "def"
 exists jn (jR (vQ P (by kd_mem) ?_))
 refine jz (x := .lst (jp l)) Vw.refl (by decide) (by show (lines.map _)[0]? = _; rw [ax, hl]; rfl) (by decide) ?_
 kd_p
 rw [aa]; exact h
theorem ut (P : PW W) {b t c o tg : PV} {cnt : Nat} {par : List Int} (h : Q (.ins "PackedDfa" [("bases", b), ("table", t), ("check", c), ("owners", o), ("tags", tg), ("count", .int (cnt : Nat)), ("parents", .lst (jp par))]) H) : jZ W (n + 2) H (.ref 550) [b, t, c, o, tg, .int (cnt : Nat), .lst (jp par)] Q := by
 refine jZ.frz (pR P fun a => ?_)
 wtm_at "full"
 kd_p
 exists jC.ff ?_
 exact ⟨rfl, _, _, _, _, .one, .ins (.head _) .refl, mV.refl, h⟩
theorem zv (P : PW W) {t c o tg : PV} {cnt : Nat} {B : List Int} (hB : B.length ≤ 5000) (h : Q (.ins "PackedDfa" [("bases", .lst (jp B)), ("table", t), ("check", c), ("owners", o), ("tags", tg), ("count", .int (cnt : Nat)), ("parents", .lst (jp (bd B.length (-1))))]) H) : jZ W (n + 2) H (.ref 550) [.lst (jp B), t, c, o, tg, .int (cnt : Nat)] Q := by
 refine jZ.frz (pR P fun a => ?_)
 wtm_at "dflt"
 kd_p
 refine jC.tt ?_
 wtm_at "w1"
 exists ku (α := Int) (fun _ => PV.int (-1)) (by wtm_at "hcap") (jP ?_)
 refine ⟨_, rfl, _, B, PV.int, by wtm_at "crho", rfl, by rw [am]; exact J0 8 hB, fun d hd => ⟨_, by kd_in, ?_⟩, ?_⟩
 ·kd_p
  exact rfl
 rw [show B.map (fun _ => PV.int (-1)) = jp (bd B.length (-1)) by simp [gB]]
 kd_p
 exact ⟨rfl, _, _, _, _, .one, .ins (.head _) .refl, mV.refl, h⟩
structure nG (par : List Int) (size : Nat) : Prop where
 len : par.length = size
 low : ∀ s : Nat, s < size → par.getD s 0 = -1 ∨ (0 ≤ par.getD s 0 ∧ par.getD s 0 < s)
theorem nG.rng {par size} (x : nG par size) {s : Nat} (h : s < size) : -1 ≤ par.getD s 0 ∧ par.getD s 0 < s := by
 rcases x.low s h with q | q <;> lia
noncomputable def rR (a : AR) (par : List Int) (num : Int) : Nat → Int → Int
 | 0, _ => -1
 | k + 1, here => if here = -1 then -1 else match lI (a.B.getD here.toNat 0) a.T a.C (a.O.getD here.toNat 0) num with
  | some v => v
  | none => rR a par num k (par.getD here.toNat 0)
noncomputable def pj (a : AR) (par : List Int) (here num : Int) : Int := rR a par num (here + 1).toNat here
theorem zw {a : AR} {par : List Int} {num : Int} {size : Nat} (x : nG par size) : ∀ (k m : Nat) (here : Int), -1 ≤ here → here < size → (here + 1).toNat ≤ k → (here + 1).toNat ≤ m → rR a par num k here = rR a par num m here := fun k => by
 induction k with
 | zero =>
  intro m here h0 h1 h2 _
  have : here = -1 := by exact J7 0 h0 h2
  subst this; cases m <;> rfl
 | succ k ih =>
  intro m here h0 h1 h2 h3
  by_cases e : here = -1
  ·subst e; cases m <;> rfl
  ·obtain ⟨s, rfl⟩ : ∃ s : Nat, here = (s : Int) := ⟨here.toNat, by exact J1 21 h0 e⟩
   have hr := x.rng (s := s) (by exact J0 21 h1)
   cases m with
   | zero => exact absurd h3 (gN s)
   | succ m =>
    show (if (s : Int) = -1 then -1 else match lI (a.B.getD s 0) a.T a.C (a.O.getD s 0) num with | some v => v | none => rR a par num k (par.getD s 0)) = _
    rw [ih m _ hr.1 (by exact J1 12 hr h1) (by exact J7 1 h2 hr) (by exact J7 1 h3 hr)]
    rfl
theorem w6 {a : AR} {par : List Int} {num : Int} {size : Nat} (x : nG par size) (k : Nat) (here : Int) (h0 : -1 ≤ here) (h1 : here < size) (h2 : (here + 1).toNat ≤ k) : rR a par num k here = pj a par here num := zw x k _ here h0 h1 h2 (aU _)
theorem oE {a par num} : pj a par (-1) num = -1 := rfl
theorem v8 {a : AR} {par : List Int} {num : Int} {size s : Nat} (x : nG par size) (hs : s < size) : pj a par s num = match lI (a.B.getD s 0) a.T a.C (a.O.getD s 0) num with
  | some v => v
  | none => pj a par (par.getD s 0) num := by
 have hr := x.rng hs
 show rR a par num ((s : Int) + 1).toNat s = _
 rw [show ((s : Int) + 1).toNat = s + 1 by exact J2 19]
 unfold rR
 rw [if_neg (by exact J1 22), ag]
 cases lI (a.B.getD s 0) a.T a.C (a.O.getD s 0) num with
 | some v => rfl
 | none => exact w6 x s _ hr.1 (by exact J7 2 hr hs) (by exact J2 20 hr)
section
variable {a : AR} {tags : List (List Int)} {cnt : Nat} {par : List Int} {size : Nat}
theorem n7 (P : PW W) (x : p8 a size) (hp : nG par size) {here num : Int} (h0 : -1 ≤ here) (h1 : here < size) (h : Q (.int (pj a par here num)) H) : jZ W (n + 2) H (.ref 511) [rn a tags cnt par, .int here, .int num] Q := by
 have xb := x.b
 have xo := x.o
 have xr := x.r
 have hpl := hp.len
 wtm_at "def"
 kd_p
 let I1 : IT jt := fun k Z => ∀ s : Int, -1 ≤ s → s < size → k = (s + 1).toNat → pj a par s num = pj a par here num → Z [lc "self" (rn a tags cnt par), lc "state" (.int here), lc "number" (.int num), lc "here" (.int s), lu "found", gb "look_up", gb "DEAD"] H
 refine lE I1 _ (fun Z zz => zz here h0 h1 rfl rfl) ?_
 rintro k s hs0 hs1 hk he
 kd_p
 refine jC.dec (fun h2 => ?_) fun h2 => ?_
 ·obtain ⟨j, rfl⟩ : ∃ j : Nat, s = (j : Int) := ⟨s.toNat, by exact J1 21 hs0 h2⟩
  have hr := hp.rng (s := j) (by exact J0 21 hs1)
  have hat := v8 (a := a) (num := num) hp (show j < size by exact J0 21 hs1)
  kd_p
  refine j9 Vw.refl (by exact J0 0) (by exact J4 5 xo hs1) (by exact J0 3 xr xo) ?_
  rw [ag]
  kd_p
  refine rj P (by exact J4 6 xb hs1) (by exact J0 3 xr xb) x.ct x.t ?_
  cases e : lI (a.B.getD j 0) a.T a.C (a.O.getD j 0) num with
  | some v =>
   rw [e] at hat
   kd_p
   exists jC.tt ?_
   rw [← he, hat] at h
   exact h
  | none =>
   rw [e] at hat
   kd_p
   exists jC.ff ?_
   refine j9 Vw.refl (by exact J0 0) (by exact J4 5 hpl hs1) (by exact J0 3 xr hpl) ?_
   rw [ag]
   kd_p
   exact jx.nx (by kd_all) ⟨_, by exact J7 3 hr hk, fun Z zz => zz (par.getD j 0) hr.1 (by exact J1 12 hr hs1) rfl (by rw [← he, hat])⟩
 ·kd_p
  have : s = -1 := by exact J1 1 h2
  subst this
  rw [← he, oE] at h
  exact h
structure ro (a : AR) (par : List Int) (size cnt : Nat) (f : Int → Int → Int) : Prop where
 arr : p8 a size
 pk : nG par size
 eq : ∀ s c : Int, -1 ≤ s → s < size → 0 ≤ c → c < cnt → pj a par s c = f s c
 rng : ∀ s c : Int, -1 ≤ s → s < size → 0 ≤ c → c < cnt → -1 ≤ f s c ∧ f s c < size
noncomputable def se (f : Int → Int → Int) (word : List Int) (s : Int) : Int := word.foldl f s
theorem uu {f w x s} : se f (w ++ [x]) s = f (se f w s) x := by simp [se]
theorem qL {a : AR} {par : List Int} {size cnt : Nat} {f} (x : ro a par size cnt f) : ∀ {word : List Int} {s : Int}, (∀ c ∈ word, 0 ≤ c ∧ c < cnt) → -1 ≤ s → s < size → -1 ≤ se f word s ∧ se f word s < size
 | [], s, _, h0, h1 => ⟨h0, h1⟩
 | c :: w, s, hw, h0, h1 => by
  have hc := hw c (.head _)
  have := x.rng s c h0 h1 hc.1 hc.2
  exact qL x (word := w) (s := f s c) (fun z hz => hw z (.tail _ hz)) this.1 this.2
theorem wb (P : PW W) {f : Int → Int → Int} (x : ro a par size cnt f) (hs : 0 < size) {word : List Int} (hw : ∀ c ∈ word, 0 ≤ c ∧ c < cnt) (h : Q (.int (se f word 0)) H) : jZ W (n + 3) H (.ref 519) [rn a tags cnt par, .lst (jp word)] Q := by
 wtm_at "dflt"
 kd_p
 exists mZ (α := Int) ?_
 let I2 : IT jt := fun i Z => Z [lc "self" (rn a tags cnt par), lc "numbers" (.lst (jp word)), lc "state" (.int 0), lc "here" (.int (se f (word.take i) 0)), lu "number"] H
 refine ⟨word, PV.int, rfl, I2, fun Z zz => zz, ?_, ?_⟩
 ·rintro i c hc
  have hcc := hw c (aS hc)
  have hrr := qL x (word := word.take i) (s := 0) (fun c hc => hw c (dE hc)) (by exact J1 23) (by exact J0 14 hs)
  exists ⟨_, by kd_in, ?_⟩
  refine n7 P x.arr x.pk hrr.1 hrr.2 ?_
  rw [x.eq _ _ hrr.1 hrr.2 hcc.1 hcc.2, ← uu (f := f), ← kd hc]
  kd_p
  exact jx.nx (by kd_all) (fun Z zz => zz)
 ·show lm _ _ _ _ _ _
  rw [aZ]
  kd_p
  exact h
noncomputable def wc (tags : List (List Int)) (s : Int) : List Int := if s = -1 then [] else tags.getD s.toNat []
theorem rp {tags : List (List Int)} {k : Int} {po : PV} (w : Vw H po (n6 tags)) (h0 : 0 ≤ k) (h1 : k.toNat < tags.length) (hs : k < 5000) (h : Q (.tup (jp (tags.getD k.toNat []))) H) : oP W n H po (.int k) Q :=
 jz w h0 (by rw [ax, jM (d := ([] : List Int)) h1]; rfl) (by exact J4 7 hs) h
theorem u7 (P : PW W) {f : Int → Int → Int} (x : ro a par size cnt f) (hs : 0 < size) (ht : tags.length = size) {word : List Int} (hw : ∀ c ∈ word, 0 ≤ c ∧ c < cnt) (h : Q (.tup (jp (wc tags (se f word 0)))) H) : jZ W (n + 4) H (.ref 526) [rn a tags cnt par, .lst (jp word)] Q := by
 have hrr := qL x (s := 0) hw (by exact J1 23) (by exact J0 14 hs)
 have xr := x.arr.r
 wtm_at "def"
 kd_p
 exists wb P x hs hw ?_
 unfold wc at h
 refine jC.dec (fun h1 => ?_) fun h1 => ?_
 ·kd_p
  rw [if_pos h1] at h; exact h
 ·kd_p
  rw [if_neg h1] at h
  refine rp Vw.refl (by exact J1 2 hrr h1) (by exact J1 13 hrr ht hs) (by exact J4 8 xr hrr) ?_
  exact h
theorem tz (P : PW W) (x : p8 a size) (h : Q (.int (size : Nat)) H) : jZ W (n + 1) H (.ref 540) [rn a tags cnt par] Q := by
 have xb := x.b
 have xr := x.r
 have hs := pO (L := a.B) (by exact J0 3 xr xb)
 wtm_at "def"
 kd_p
 rw [aa, xb]; exact h
noncomputable def nv (par : List Int) : Nat → Int → List Int
 | 0, _ => []
 | k + 1, here => if here = -1 then [] else here :: nv par k (par.getD here.toNat 0)
noncomputable def mj (par : List Int) (s : Int) : List Int := nv par (s + 1).toNat s
theorem w7 {par : List Int} {size : Nat} (x : nG par size) : ∀ (k m : Nat) (here : Int), -1 ≤ here → here < size → (here + 1).toNat ≤ k → (here + 1).toNat ≤ m → nv par k here = nv par m here := fun k => by
 induction k with
 | zero =>
  intro m here h0 h1 h2 _
  have : here = -1 := by exact J7 0 h0 h2
  subst this; cases m <;> rfl
 | succ k ih =>
  intro m here h0 h1 h2 h3
  by_cases e : here = -1
  ·subst e; cases m <;> rfl
  ·obtain ⟨s, rfl⟩ : ∃ s : Nat, here = (s : Int) := ⟨here.toNat, by exact J1 21 h0 e⟩
   have hr := x.rng (s := s) (by exact J0 21 h1)
   cases m with
   | zero => exact absurd h3 (gN s)
   | succ m =>
    show (if (s : Int) = -1 then [] else (s : Int) :: nv par k (par.getD s 0)) = _
    rw [ih m _ hr.1 (by exact J1 12 hr h1) (by exact J7 1 h2 hr) (by exact J7 1 h3 hr)]
    rfl
theorem wd {par : List Int} {size : Nat} (x : nG par size) (k : Nat) (here : Int) (h0 : -1 ≤ here) (h1 : here < size) (h2 : (here + 1).toNat ≤ k) : nv par k here = mj par here := w7 x k _ here h0 h1 h2 (aU _)
theorem rS {par} : mj par (-1) = [] := rfl
theorem uv {par : List Int} {size s : Nat} (x : nG par size) (hs : s < size) : mj par s = (s : Int) :: mj par (par.getD s 0) := by
 have hr := x.rng hs
 show nv par ((s : Int) + 1).toNat s = _
 rw [show ((s : Int) + 1).toNat = s + 1 by exact J2 19]
 unfold nv
 rw [if_neg (by exact J1 22), ag, wd x s _ hr.1 (by exact J7 2 hr hs) (by exact J2 20 hr)]
theorem tA {par : List Int} {size : Nat} (x : nG par size) {here : Int} (h0 : -1 ≤ here) (h1 : here < size) : (mj par here).length ≤ (here + 1).toNat := by
 have : ∀ k here, (nv par k here).length ≤ k := by
  intro k
  induction k with
  | zero => intro; simp [nv]
  | succ k ih => intro here; unfold nv; split <;> simp [ih]
 exact this _ _
theorem w8 (P : PW W) (hp : nG par size) (hz : size ≤ 5000) {here : Int} (h0 : -1 ≤ here) (h1 : here < size) (h : Q (.lst (jp (mj par here))) H) : jZ W (n + 1) H (.ref 547) [rn a tags cnt par, .int here] Q := by
 have hpl := hp.len
 have hcl := tA hp h0 h1
 wtm_at "def"
 kd_p
 intro al
 kd_p
 let I3 : IT jt := fun k Z => ∀ (s : Int) (d : List Int), -1 ≤ s → s < size → k = (s + 1).toNat → d ++ mj par s = mj par here → Z [lc "self" (rn a tags cnt par), lc "state" (.int here), lc "found" (.ref al), lc "here" (.int s)] ((al, .lst (jp d)) :: H)
 refine lE I3 _ (fun Z zz => zz here [] h0 h1 rfl rfl) ?_
 rintro k s d hs0 hs1 hk he
 kd_p
 refine jC.dec (fun h2 => ?_) fun h2 => ?_
 ·obtain ⟨j, rfl⟩ : ∃ j : Nat, s = (j : Int) := ⟨s.toNat, by exact J1 21 hs0 h2⟩
  have hr := hp.rng (s := j) (by exact J0 21 hs1)
  have hat := uv hp (show j < size by exact J0 21 hs1)
  kd_p
  ·refine j9 Vw.refl (by exact J0 0) (by exact J4 5 hpl hs1) (by exact J0 3 hz hpl) ?_
   rw [ag]
   kd_p
   rw [o5]
   exact jx.nx (by kd_all) ⟨_, by exact J7 3 hr hk, fun Z zz => zz (par.getD j 0) (d ++ [(j : Int)]) hr.1 (by exact J1 12 hr hs1) rfl (by rw [← he, hat]; simp)⟩
  ·rw [aa, am]
   have := congrArg eI he
   rw [cf] at this
   exact J16 20 hz hcl this h1
 ·have : s = -1 := by exact J1 1 h2
  subst this
  rw [rS, bl] at he
  subst he
  exists jn (jR (li ?_))
  exact ⟨al, _, _, rfl, rfl, h⟩
end
noncomputable def sf (f : Int → Int → Int) (tags : List (List Int)) : List Int → Nat → Int → PV → PV
 | [], _, _, best => best
 | x :: w, lh, st, best => if f st x = -1 then best else sf f tags w (lh + 1) (f st x) (if tags.getD (f st x).toNat [] = [] then best else .tup [.int ((lh + 1 : Nat) : Int), .tup (jp (tags.getD (f st x).toNat []))])
theorem rq {f : Int → Int → Int} {tags : List (List Int)} {x : Int} {w : List Int} {i : Nat} {st : Int} {b : PV} : sf f tags (x :: w) i st b = if f st x = -1 then b else sf f tags w (i + 1) (f st x) (if tags.getD (f st x).toNat [] = [] then b else .tup [.int ((i + 1 : Nat) : Int), .tup (jp (tags.getD (f st x).toNat []))]) := rfl
noncomputable def n8 (l : List Int) : jN := kl (fun t => !decide (l.getD t 0 = -1)) (fun t => l.getD t 0) l.length
noncomputable def lk (l p : List Int) : jN := kl (fun t => !decide (l.getD t 0 = p.getD t 0)) (fun t => l.getD t 0) l.length
noncomputable def j7 (lines : List (List Int)) (s : Nat) : List (Int × Int) := (av (s - (s - 8))).map fun i => ((((lk (lines.getD s []) (lines.getD (s - 8 + i) [])).length : Nat) : Int), ((s - 8 + i : Nat) : Int))
noncomputable def we (lines : List (List Int)) (s : Nat) : Int := ((n8 (lines.getD s [])).length : Nat)
noncomputable def mt (lines : List (List Int)) (s : Nat) : Int := if j7 lines s ≠ [] ∧ (oQ (j7 lines s)).1 < we lines s then (oQ (j7 lines s)).2 else -1
noncomputable def BX (lines : List (List Int)) (s i : Nat) (best fewest : Int) : Prop :=
 (best = -1 ∧ fewest = we lines s ∧ ∀ c ∈ (j7 lines s).take i, ¬ c.1 < we lines s) ∨ (∃ b ∈ (j7 lines s).take i, best = b.2 ∧ fewest = b.1 ∧ b.1 < we lines s ∧ ∀ c ∈ (j7 lines s).take i, nN c b = false)
section
variable {a : AR} {tags : List (List Int)} {cnt : Nat} {par : List Int} {size : Nat}
theorem u8 (P : PW W) {f : Int → Int → Int} (x : ro a par size cnt f) (hs : 0 < size) (ht : tags.length = size) {word : List Int} (hw : ∀ c ∈ word, 0 ≤ c ∧ c < cnt) (hwl : word.length ≤ 5000) {lh : Nat} (h : Q (sf f tags (word.drop lh) lh 0 .none) H) : jZ W (n + 3) H (.ref 533) [rn a tags cnt par, .lst (jp word), .int (lh : Nat)] Q := by
 have xr := x.arr.r
 have hsz := pO hwl
 generalize hres : sf f tags (word.drop lh) lh 0 .none = res at *
 wtm_at "def"
 kd_p
 let I1 : IT jt := fun k Z => ∀ (j : Nat) (st : Int) (best : PV), -1 ≤ st → st < size → k = word.length - j → (st = -1 → best = res) → (st ≠ -1 → sf f tags (word.drop j) j st best = res) → Z [lc "self" (rn a tags cnt par), lc "numbers" (.lst (jp word)), lc "at" (.int (lh : Nat)), lc "best" best, lc "state" (.int st), lc "here" (.int (j : Nat)), gb "DEAD", gb "len"] H
 refine lE I1 _ (fun Z zz => zz lh 0 .none (by exact J1 23) (by exact J0 14 hs) rfl (fun q => by lia) (fun _ => hres)) ?_
 rintro k j st best hs0 hs1 hk hd hl
 kd_p
 refine jC.dec (fun h1 => ?_) fun h1 => ?_
 rotate_left
 ·kd_p
  rw [hd (by exact J1 1 h1)]
  exact h
 kd_p
 rw [aa]
 refine jC.dec (fun h2 => ?_) fun h2 => ?_
 rotate_left
 ·kd_p
  have := hl h1
  rw [gs (by exact J16 21 h2)] at this
  rw [show best = _ from this]
  exact h
 have hj : j < word.length := by exact J0 21 h2
 have hc := hw _ (jr (d := (0 : Int)) hj)
 have hdr : word.drop j = word.getD j 0 :: word.drop (j + 1) := by
  rw [fJ hj]; congr 1; rw [aL, aG hj]; rfl
 have hrng := x.rng _ _ hs0 hs1 hc.1 hc.2
 have hfar := hl h1
 rw [hdr] at hfar
 kd_p
 refine j9 Vw.refl (by exact J0 0) (by exact J16 22 h2) (by exact J0 7 hwl) ?_
 rw [ag]
 kd_p
 refine n7 P x.arr x.pk hs0 hs1 ?_
 rw [x.eq _ _ hs0 hs1 hc.1 hc.2]
 rw [rq] at hfar
 generalize f st (word.getD j 0) = st' at *
 kd_p
 refine jC.dec (fun h3 => ?_) fun h3 => ?_
 ·kd_p
  rw [if_neg h3] at hfar
  exists rp Vw.refl (by exact J1 2 hrng h3) (by exact J1 13 hrng ht hs) (by exact J4 8 xr hrng) ?_
  exists xR Vw.refl Vw.refl ?_
  by_cases h4 : tags.getD st'.toNat [] = []
  ·rw [h4]
   rw [if_pos h4] at hfar
   exists jC.ff ?_
   rw [show (j : Int) + 1 = ((j + 1 : Nat) : Int) by exact J2 0]
   exact jx.nx (by kd_all) ⟨_, by exact J2 21 hk h2, fun Z zz => zz (j + 1) st' best (by exact J7 4 hrng) hrng.2 rfl (fun q => absurd q h3) (fun _ => hfar)⟩
  ·rw [show (!(jp (tags.getD st'.toNat [])).isEmpty) = true by cases e : tags.getD st'.toNat [] with | nil => exact absurd e h4 | cons => rfl]
   rw [if_neg h4] at hfar
   kd_p
   exists rp Vw.refl (by exact J1 2 hrng h3) (by exact J1 13 hrng ht hs) (by exact J4 8 xr hrng) ?_
   rw [show (j : Int) + 1 = ((j + 1 : Nat) : Int) by exact J2 0]
   exact jx.nx (by kd_all) ⟨_, by exact J2 21 hk h2, fun Z zz => zz (j + 1) st' _ (by exact J7 4 hrng) hrng.2 rfl (fun q => absurd q h3) (fun _ => hfar)⟩
 ·kd_p
  rw [if_pos (by exact J1 1 h3)] at hfar
  rw [show (j : Int) + 1 = ((j + 1 : Nat) : Int) by exact J2 0]
  exact jx.nx (by kd_all) ⟨_, by exact J2 21 hk h2, fun Z zz => zz (j + 1) st' best (by exact J16 23 h3) hrng.2 rfl (fun _ => hfar) (fun q => absurd q (by exact J17 0 h3))⟩
theorem w9 (P : PW W) {l : List Int} (hz : l.length ≤ 5000) (h : Q (jW (n8 l)) H) : jZ W (n + 1) H (.ref 561) [.lst (jp l)] Q := by
 have hs := pO hz
 wtm_at "def"
 kd_p
 intro af
 kd_p
 exists jI ?_
 rw [aa]
 let I2 : IT jt := fun i Z => Z [lc "row" (.lst (jp l)), lc "found" (.ref af), lu "number", gb "range", gb "len", gb "DEAD"] ((af, .dct (Dk .int (kl (fun t => !decide (l.getD t 0 = -1)) (fun t => l.getD t 0) i))) :: H)
 refine ⟨l.length, rfl, by exact J0 17 hz, I2, fun Z zz => zz, ?_, ?_⟩
 ·rintro i hi
  exists ⟨_, by kd_in, ?_⟩
  refine j9 Vw.refl (by exact J0 0) (by exact J0 1 hi) (by exact J0 7 hz) ?_
  rw [ag]
  kd_p
  refine jC.dec (fun h1 => ?_) fun h1 => ?_
  ·kd_p
   refine j9 Vw.refl (by exact J0 0) (by exact J0 1 hi) (by exact J0 7 hz) ?_
   rw [ag]
   kd_p
   exists kK (f := PV.int) rfl (by wtm_at "updh") (mh (bj kL (by exact J7 5 hz hi))) ?_
   rw [pG]
   have := kO (p := fun t => !decide (l.getD t 0 = -1)) (f := fun t => l.getD t 0) (n := i) (b := true) (by simpa using h1)
   rw [if_pos rfl] at this
   rw [← this]
   exact jx.nx (by kd_all) (fun Z zz => zz)
  ·kd_p
   have := kO (p := fun t => !decide (l.getD t 0 = -1)) (f := fun t => l.getD t 0) (n := i) (b := false) (by simpa using h1)
   rw [if_neg (by simp), bl] at this
   rw [← this]
   exact jx.nx (by kd_all) (fun Z zz => zz)
 ·show lm _ _ _ _ _ _
  exists jn (jR (vT ?_))
  exact ⟨af, _, _, rfl, rfl, h⟩
theorem wf (P : PW W) {l p : List Int} (hz : l.length ≤ 5000) (hp : p.length = l.length) (h : Q (jW (lk l p)) H) : jZ W (n + 1) H (.ref 568) [.lst (jp l), .lst (jp p)] Q := by
 have hs := pO hz
 wtm_at "def"
 kd_p
 intro af
 kd_p
 exists jI ?_
 rw [aa]
 let I3 : IT jt := fun i Z => Z [lc "row" (.lst (jp l)), lc "parent" (.lst (jp p)), lc "found" (.ref af), lu "number", gb "range", gb "len"] ((af, .dct (Dk .int (kl (fun t => !decide (l.getD t 0 = p.getD t 0)) (fun t => l.getD t 0) i))) :: H)
 refine ⟨l.length, rfl, by exact J0 17 hz, I3, fun Z zz => zz, ?_, ?_⟩
 ·rintro i hi
  exists ⟨_, by kd_in, ?_⟩
  refine j9 Vw.refl (by exact J0 0) (by exact J0 1 hi) (by exact J0 7 hz) ?_
  rw [ag]
  kd_p
  refine j9 Vw.refl (by exact J0 0) (by exact J0 2 hp hi) (by exact J0 3 hz hp) ?_
  rw [ag]
  kd_p
  refine jC.dec (fun h1 => ?_) fun h1 => ?_
  ·kd_p
   refine j9 Vw.refl (by exact J0 0) (by exact J0 1 hi) (by exact J0 7 hz) ?_
   rw [ag]
   kd_p
   exists kK (f := PV.int) rfl (by wtm_at "updh") (mh (bj kL (by exact J7 5 hz hi))) ?_
   rw [pG]
   have := kO (p := fun t => !decide (l.getD t 0 = p.getD t 0)) (f := fun t => l.getD t 0) (n := i) (b := true) (by rw [decide_eq_false h1]; rfl)
   rw [if_pos rfl] at this
   rw [← this]
   exact jx.nx (by kd_all) (fun Z zz => zz)
  ·kd_p
   have := kO (p := fun t => !decide (l.getD t 0 = p.getD t 0)) (f := fun t => l.getD t 0) (n := i) (b := false) (by rw [decide_eq_true (show l.getD i 0 = p.getD i 0 by exact J2 17 h1)]; rfl)
   rw [if_neg (by simp), bl] at this
   rw [← this]
   exact jx.nx (by kd_all) (fun Z zz => zz)
 ·show lm _ _ _ _ _ _
  exists jn (jR (vT ?_))
  exact ⟨af, _, _, rfl, rfl, h⟩
theorem kE {L : List (List Int)} {k : Int} {po : PV} (w : Vw H po (j5 L)) (h0 : 0 ≤ k) (h1 : k.toNat < L.length) (hs : k < 5000) (h : Q (.lst (jp (L.getD k.toNat []))) H) : oP W n H po (.int k) Q :=
 jz w h0 (by rw [ax, jM (d := ([] : List Int)) h1]; rfl) (by exact J4 7 hs) h
theorem BY (P : PW W) {lines : List (List Int)} {s cnt : Nat} (hs : s < lines.length) (hz : lines.length ≤ 5000) (hc : ∀ l ∈ lines, l.length = cnt) (hcnt : cnt ≤ 5000) (h : Q (.int (mt lines s)) H) : jZ W (n + 2) H (.ref 575) [j5 lines, .int (s : Nat)] Q := by
 have hls := hc _ (jr (d := ([] : List Int)) hs)
 have hlive : (n8 (lines.getD s [])).length ≤ 5000 := bj kL (by exact J0 3 hcnt hls)
 wtm_at "def"
 kd_p
 refine kE Vw.refl (by exact J0 0) (by exact J0 1 hs) (by exact J7 6 hz hs) ?_
 rw [ag]
 kd_p
 refine w9 P (by exact J0 3 hcnt hls) ?_
 have hsl := mh hlive
 kd_p
 exists sn ?_
 let I4 : IT jt := fun i Z => ∀ best fewest : Int, BX lines s i best fewest → Z [lc "rows" (j5 lines), lc "state" (.int (s : Nat)), lc "best" (.int best), lc "fewest" (.int fewest), lu "other", lu "many", gb "len", gb "live_entries", gb "range", gb "max", gb "TEMPLATES", gb "unlike_entries"] H
 refine ⟨s - 8, s, by rw [show max 0 ((s : Int) - 8) = ((s - 8 : Nat) : Int) by lia], ⟨by exact J7 7, by exact J17 1 hz hs⟩, I4, fun Z zz => zz (-1) _ (.inl ⟨rfl, rfl, by simp⟩), ?_, ?_⟩
 ·rintro i hi best fewest hb
  have hci : (j7 lines s)[i]? = some ((((lk (lines.getD s []) (lines.getD (s - 8 + i) [])).length : Nat) : Int), ((s - 8 + i : Nat) : Int)) := by
   unfold j7; rw [ax, b8 hi]; rfl
  have hlo := hc _ (jr (d := ([] : List Int)) (show s - 8 + i < lines.length by exact J7 8 hs hi))
  have hun : (lk (lines.getD s []) (lines.getD (s - 8 + i) [])).length ≤ 5000 := bj kL (by exact J0 3 hcnt hls)
  have htk := kd hci
  have hord : ∀ c ∈ (j7 lines s).take i, c.2 < ((s - 8 + i : Nat) : Int) := fun c hcm => by
   unfold j7 at hcm
   rw [← eH, List.take_range] at hcm
   obtain ⟨j, hj, rfl⟩ := az.mp hcm
   have := aM.mp hj
   simp only; exact J17 2 this
  generalize hm : (lk (lines.getD s []) (lines.getD (s - 8 + i) [])).length = m at *
  exists ⟨_, by kd_in, ?_⟩
  exists kE Vw.refl (by exact J0 0) (by exact J0 1 hs) (by exact J7 6 hz hs) ?_
  refine kE Vw.refl (by exact J7 9) (by exact J7 10 hs hi) (by exact J17 3 hz hs hi) ?_
  rw [ag, ag]
  kd_p
  refine wf P (by exact J0 3 hcnt hls) (by exact J7 11 hlo hls) ?_
  have hsu := mh (d := lk (lines.getD s []) (lines.getD (s - 8 + i) [])) (by exact J0 3 hun hm)
  kd_p
  rw [hm]
  refine jC.dec (fun h1 => ?_) fun h1 => ?_
  ·kd_p
   refine jx.nx (by kd_all) (fun Z zz => zz _ _ (.inr ⟨((m : Int), ((s - 8 + i : Nat) : Int)), by rw [htk]; simp, rfl, rfl, ?_, fun c hcm => ?_⟩))
   ·rcases hb with ⟨_, q, _⟩ | ⟨b, _, _, q, q2, _⟩ <;> lia
   ·rw [htk] at hcm
    rcases aQ.mp hcm with hcm | hcm
    ·rw [tw]
     rcases hb with ⟨_, q, q2⟩ | ⟨b, _, _, q, _, q2⟩
     ·have := q2 c hcm; simp only; exact J17 4 h1 this q
     ·have := q2 c hcm; rw [tw] at this; simp only; exact J17 5 this h1 q
    ·simp at hcm; subst hcm; simp [nN]
  ·kd_p
   refine jx.nx (by kd_all) (fun Z zz => zz _ _ ?_)
   rcases hb with ⟨q, q1, q2⟩ | ⟨b, q0, q, q1, q2, q3⟩
   ·refine .inl ⟨q, q1, fun c hcm => ?_⟩
    rw [htk] at hcm
    rcases aQ.mp hcm with hcm | hcm
    ·exact q2 c hcm
    ·simp at hcm; subst hcm; simp only; exact J17 6 h1 q1
   ·refine .inr ⟨b, by rw [htk]; exact bu _ q0, q, q1, q2, fun c hcm => ?_⟩
    rw [htk] at hcm
    rcases aQ.mp hcm with hcm | hcm
    ·exact q3 c hcm
    ·simp at hcm; subst hcm
     have := hord b q0
     rw [tw]; simp only; exact J17 7 this h1 q1
 ·rintro best fewest hb
  unfold BX at hb
  rw [show (j7 lines s).take (s - (s - 8)) = j7 lines s from br (by simp [j7])] at hb
  kd_p
  have : best = mt lines s := by
   unfold mt
   rcases hb with ⟨q, q1, q2⟩ | ⟨b, q0, q, q1, q2, q3⟩
   ·rw [if_neg]
    ·exact q
    ·rintro ⟨z1, z2⟩
     have : oQ (j7 lines s) ∈ j7 lines s := by
      cases hx : j7 lines s with
      | nil => exact absurd hx z1
      | cons c L =>
       unfold oQ
       have hp := kk (c :: L)
       cases e : nB (c :: L) with
       | nil => rw [e] at hp; exact absurd hp.length_eq (by simp)
       | cons d M => rw [e] at hp; exact hp.mem_iff.mp (.head _)
     exact q2 _ this z2
   ·have := uR q0 q3
    rw [if_pos ⟨fun z => (by rw [z] at q0; cases q0), by rw [← this]; exact q2⟩, ← this]; exact q
  rw [this]; exact h
end
noncomputable def lV (lines : List (List Int)) (ch : Bool) (s : Nat) : Int := if ch = true then mt lines s else -1
noncomputable def kX (lines : List (List Int)) (ch : Bool) (s : Nat) : jN := if lV lines ch s = -1 then n8 (lines.getD s []) else lk (lines.getD s []) (lines.getD (lV lines ch s).toNat [])
noncomputable def jV (lines : List (List Int)) (ch : Bool) : List Int := (av lines.length).map (lV lines ch)
noncomputable def ju (lines : List (List Int)) (ch : Bool) : List jN := (av lines.length).map (kX lines ch)
theorem BZ {lines : List (List Int)} {s : Nat} {c : Int × Int} (h : c ∈ j7 lines s) : 0 ≤ c.2 ∧ c.2 < s := by
 unfold j7 at h
 obtain ⟨j, hj, rfl⟩ := az.mp h
 have := aM.mp hj
 simp only; exact J17 8 this
theorem B1 {L : List (Int × Int)} (h : L ≠ []) : oQ L ∈ L := by
 unfold oQ
 have hp := kk L
 cases e : nB L with
 | nil => rw [e] at hp; exact absurd hp.symm.eq_nil h
 | cons d M => rw [e] at hp; exact hp.mem_iff.mp (.head _)
theorem qM {lines : List (List Int)} {ch : Bool} {s : Nat} : lV lines ch s = -1 ∨ (0 ≤ lV lines ch s ∧ lV lines ch s < s) := by
 unfold lV mt
 split
 ·split
  ·rename_i h; exact .inr (BZ (B1 h.1))
  ·exact .inl rfl
 ·exact .inl rfl
theorem zx {lines : List (List Int)} {ch : Bool} {s cnt : Nat} (hc : ∀ l ∈ lines, l.length = cnt) (h : cnt < 64) (hs : s < lines.length) : pc (kX lines ch s) := by
 have hls := hc _ (jr (d := ([] : List Int)) hs)
 unfold kX n8 lk
 split <;> exact qI (by exact J2 16 hls h)
theorem qa {lines : List (List Int)} {ch : Bool} {cnt : Nat} (hc : ∀ l ∈ lines, l.length = cnt) (h : cnt < 64) (hz : lines.length < 64) : j3 (ju lines ch) :=
 ⟨fun d hd => by
  unfold ju at hd
  obtain ⟨s, hs, rfl⟩ := az.mp hd
  exact zx hc h (aM.mp hs), by unfold ju; rw [aa, aq]; exact hz⟩
section
variable {a : AR} {tags : List (List Int)} {cnt : Nat} {par : List Int} {size : Nat}
theorem xa (P : PW W) {lines : List (List Int)} (hne : 0 < lines.length) (hz : lines.length < 64) (hc : ∀ l ∈ lines, l.length = cnt) (hcnt : cnt < 64) (htg : tags.length ≤ 5000)
  (h : Q (rn (kU (ju lines true)) tags cnt (jV lines true)) H) : jZ W (n + 9) H (.ref 581) [zu lines tags, .bool true] Q := by
 wtm_at "full"
 kd_p
 intro ar
 kd_p
 intro ap
 kd_p
 exists jI ?_
 exists rP P (by exact J0 13 hz) ?_
 let I1 : IT jt := fun i Z => Z [lc "dfa" (zu lines tags), lc "is_chained" (.bool true), lc "rows" (.ref ar), lc "parents" (.ref ap), lu "state", lu "parent", lu "packed", lu "tags", gb "range", gb "choose_parent", gb "live_entries", gb "unlike_entries", gb "packed_rows", gb "PackedDfa"] ((ap, .lst (jp ((av i).map (lV lines true)))) :: (ar, .lst (((av i).map (kX lines true)).map jW)) :: H)
 refine ⟨lines.length, rfl, by exact J0 22 hz, I1, fun Z zz => zz, ?_, ?_⟩
 ·rintro i hi
  have hpr := qM (lines := lines) (ch := true) (s := i)
  have hls := hc _ (jr (d := ([] : List Int)) hi)
  have e1 : (av (i + 1)).map (lV lines true) = (av i).map (lV lines true) ++ [lV lines true i] := by rw [bA, aJ]; rfl
  have e2 : ((av (i + 1)).map (kX lines true)).map jW = ((av i).map (kX lines true)).map jW ++ [jW (kX lines true i)] := by rw [bA, aJ, aJ]; rfl
  exists ⟨_, by kd_in, ?_⟩
  refine BY P hi (by exact J0 13 hz) hc (by exact J0 13 hcnt) ?_
  rw [show mt lines i = lV lines true i from rfl]
  kd_p
  ·have hrow : kX lines true i = if lV lines true i = -1 then n8 (lines.getD i []) else lk (lines.getD i []) (lines.getD (lV lines true i).toNat []) := rfl
   rw [o5, ← e1]
   have hsz : (((av i).map (kX lines true)).map jW).length ≤ sizeLine := by rw [aa, aa, aq, am]; exact J2 22 hi hz
   generalize hp : lV lines true i = p at *
   refine jC.dec (fun h1 => ?_) fun h1 => ?_
   ·kd_p
    refine kE Vw.refl (by exact J0 0) (by exact J0 1 hi) (by exact J1 14 hi hz) ?_
    rw [ag]
    kd_p
    refine w9 P (by exact J0 10 hls hcnt) ?_
    rw [if_pos h1] at hrow
    kd_p
    rw [← hrow, ← e2]
    exact jx.nx (by kd_all) (fun Z zz => zz)
   ·have hlp := hc _ (jr (d := ([] : List Int)) (i := p.toNat) (show p.toNat < lines.length by exact J7 12 hi hpr))
    kd_p
    refine kE Vw.refl (by exact J0 0) (by exact J0 1 hi) (by exact J1 14 hi hz) ?_
    rw [ag]
    kd_p
    exists kE Vw.refl (by exact J17 9 h1 hpr) (by exact J7 12 hi hpr) (by exact J17 10 hi hz hpr) ?_
    refine wf P (by exact J0 10 hls hcnt) (by exact J7 11 hlp hls) ?_
    rw [if_neg h1] at hrow
    kd_p
    rw [← hrow, ← e2]
    exact jx.nx (by kd_all) (fun Z zz => zz)
  ·rw [aa, aa, aq, am]; exact J2 22 hi hz
 ·show lm _ _ _ _ _ _
  have hok := qa (ch := true) hc hcnt hz
  refine mI (mG.frz (r' := [lc "dfa" (zu lines tags), lc "is_chained" (.bool true), lc "rows" (jY (ju lines true)), lc "parents" (.lst (jp (jV lines true))), lu "state", lu "parent", lu "packed", lu "tags", gb "range", gb "choose_parent", gb "live_entries", gb "unlike_entries", gb "packed_rows", gb "PackedDfa"]) .two (.same (.same (.rfy (.lst (.tail _ (.head _)) .refl) (.rfy (.lst (.head _) .refl) (by kd_all))))) mV.refl) ?_
  kd_p1
  kd_p1
  exists ny P (by kd_mem) ?_
  exists kz P hok ?_
  exists lB (α := List Int) (fun t => PV.tup (jp t)) (by wtm_at "hcap") (jP ?_)
  refine ⟨_, rfl, _, tags, fun t => .tup (jp t), by wtm_at "crho", rfl, by rw [am]; exact J0 8 htg, fun t htt => ⟨_, by kd_in, sk P (by kd_mem) ?_⟩, ?_⟩
  ·kd_p
   refine sU Vw.refl ?_
   exact ⟨rfl, rfl⟩
  kd_p
  refine rQ P (l := lines.getD 0 []) (jM hne) (by have := hc _ (jr (d := ([] : List Int)) hne); exact J0 10 this hcnt) ?_
  rw [hc _ (jr (d := ([] : List Int)) hne)]
  kd_p
  exact ut P h
theorem xd (P : PW W) {lines : List (List Int)} (hne : 0 < lines.length) (hz : lines.length < 64) (hc : ∀ l ∈ lines, l.length = cnt) (hcnt : cnt < 64) (htg : tags.length ≤ 5000)
  (h : Q (rn (kU (ju lines false)) tags cnt (jV lines false)) H) : jZ W (n + 9) H (.ref 581) [zu lines tags] Q := by
 wtm_at "dflt"
 kd_p
 intro ar
 kd_p
 intro ap
 kd_p
 exists jI ?_
 exists rP P (by exact J0 13 hz) ?_
 let I2 : IT jt := fun i Z => Z [lc "dfa" (zu lines tags), lc "is_chained" (.bool false), lc "rows" (.ref ar), lc "parents" (.ref ap), lu "state", lu "parent", lu "packed", lu "tags", gb "range", gb "choose_parent", gb "live_entries", gb "unlike_entries", gb "packed_rows", gb "PackedDfa"] ((ap, .lst (jp ((av i).map (lV lines false)))) :: (ar, .lst (((av i).map (kX lines false)).map jW)) :: H)
 refine ⟨lines.length, rfl, by exact J0 22 hz, I2, fun Z zz => zz, ?_, ?_⟩
 ·rintro i hi
  have hpr := qM (lines := lines) (ch := false) (s := i)
  have hls := hc _ (jr (d := ([] : List Int)) hi)
  have e1 : (av (i + 1)).map (lV lines false) = (av i).map (lV lines false) ++ [lV lines false i] := by rw [bA, aJ]; rfl
  have e2 : ((av (i + 1)).map (kX lines false)).map jW = ((av i).map (kX lines false)).map jW ++ [jW (kX lines false i)] := by rw [bA, aJ, aJ]; rfl
  exists ⟨_, by kd_in, ?_⟩
  ·have hsz : (((av i).map (kX lines false)).map jW).length ≤ sizeLine := by rw [aa, aa, aq, am]; exact J2 22 hi hz
   have e3 : jp ((av i).map (lV lines false)) ++ [PV.int (-1)] = jp ((av (i + 1)).map (lV lines false)) := by rw [e1, ← o5]; rfl
   rw [e3]
   exists jC.pos rfl ?_
   refine kE Vw.refl (by exact J0 0) (by exact J0 1 hi) (by exact J1 14 hi hz) ?_
   rw [ag]
   kd_p
   exists w9 P (by exact J0 10 hls hcnt) ?_
   rw [show n8 (lines.getD i []) = kX lines false i from rfl, ← e2]
   exact jx.nx (by kd_all) (fun Z zz => zz)
  ·rw [aa, aa, aq, am]; exact J2 22 hi hz
 ·show lm _ _ _ _ _ _
  have hok := qa (ch := false) hc hcnt hz
  refine mI (mG.frz (r' := [lc "dfa" (zu lines tags), lc "is_chained" (.bool false), lc "rows" (jY (ju lines false)), lc "parents" (.lst (jp (jV lines false))), lu "state", lu "parent", lu "packed", lu "tags", gb "range", gb "choose_parent", gb "live_entries", gb "unlike_entries", gb "packed_rows", gb "PackedDfa"]) .two (.same (.same (.rfy (.lst (.tail _ (.head _)) .refl) (.rfy (.lst (.head _) .refl) (by kd_all))))) mV.refl) ?_
  kd_p1
  kd_p1
  exists ny P (by kd_mem) ?_
  exists kz P hok ?_
  exists lB (α := List Int) (fun t => PV.tup (jp t)) (by wtm_at "hcap") (jP ?_)
  refine ⟨_, rfl, _, tags, fun t => .tup (jp t), by wtm_at "crho", rfl, by rw [am]; exact J0 8 htg, fun t htt => ⟨_, by kd_in, sk P (by kd_mem) ?_⟩, ?_⟩
  ·kd_p
   refine sU Vw.refl ?_
   exact ⟨rfl, rfl⟩
  kd_p
  refine rQ P (l := lines.getD 0 []) (jM hne) (by have := hc _ (jr (d := ([] : List Int)) hne); exact J0 10 this hcnt) ?_
  rw [hc _ (jr (d := ([] : List Int)) hne)]
  kd_p
  exact ut P h
theorem u9 (P : PW W) {f : Int → Int → Int} (x : ro a par size cnt f) (hz : cnt ≤ 5000) (htg : tags.length ≤ 5000)
  (h : Q (zu ((av size).map fun s => (av cnt).map fun c => f (s : Nat) (c : Nat)) tags) H) : jZ W (n + 4) H (.ref 586) [rn a tags cnt par] Q := by
 have xr := x.arr.r
 wtm_at "def"
 kd_p
 intro ar
 kd_p
 exists jI ?_
 exists tz P x.arr ?_
 let I3 : IT jt := fun i Z => Z [cc "packed" (rn a tags cnt par), lc "rows" (.ref ar), cu "state", gb "range", gb "Dfa"] ((ar, .lst (((av i).map fun s => (av cnt).map fun c => f (s : Nat) (c : Nat)).map fun l => .lst (jp l))) :: H)
 refine ⟨size, rfl, by exact J0 17 xr, I3, fun Z zz => zz, ?_, ?_⟩
 ·rintro i hi
  refine ⟨_, by kd_in, ?_⟩
  exists jn (lx rfl (lb ?_))
  exists ku (α := Nat) (fun c => PV.int (f (i : Nat) (c : Nat))) (by wtm_at "hcap") (jO ?_)
  refine ⟨cnt, rfl, by exact J0 17 hz, _, av cnt, fun c => .int (c : Nat), by wtm_at "crho", rfl, by rw [aq, am]; exact J0 8 hz, fun c hcm => ⟨_, by kd_in, ?_⟩, ?_⟩
  ·have := aM.mp hcm
   kd_p
   refine n7 P x.arr x.pk (by exact J1 15) (by exact J0 23 hi) ?_
   rw [x.eq _ _ (by exact J1 15) (by exact J0 23 hi) (by exact J0 0) (by exact J0 23 this)]
   exact ⟨rfl, rfl⟩
  ·kd_p
   ·refine jx.nx (by kd_all) (Of.eqH ?_ (fun Z zz => zz))
    rw [bA, aJ, aJ]
    simp
   ·rw [aa, aa, aq, am]; exact J6 19 xr hi
 ·show lm _ _ _ _ _ _
  refine mI (mG.frz (r' := [cc "packed" (rn a tags cnt par), lc "rows" (j5 ((av size).map fun s => (av cnt).map fun c => f (s : Nat) (c : Nat))), cu "state", gb "range", gb "Dfa"]) .one (.same (.rfy (.lst (.head _) .refl) (by kd_all))) mV.refl) ?_
  kd_p1
  kd_p1
  exists Eb P (by kd_mem) ?_
  exists ku (α := List Int) (fun t => PV.tup (jp t)) (by wtm_at "hcap") (jP ?_)
  refine ⟨_, rfl, _, tags, fun t => .tup (jp t), by wtm_at "crho", rfl, by rw [am]; exact J0 8 htg, fun t htt => ⟨_, by kd_in, sk P (by kd_mem) ?_⟩, ?_⟩
  ·kd_p
   refine sU Vw.refl ?_
   exact ⟨rfl, rfl⟩
  kd_p
  exact yp P h
end
noncomputable abbrev kr (ns : List Int) (sp gr : Int) : HO := .lst [.lst (jp ns), .int sp, .int gr]
theorem n9 {x m : Int} (h : 0 < m) : 0 ≤ x.fmod m ∧ x.fmod m < m := by
 rw [Int.fmod_eq_emod_of_nonneg _ (iA h)]
 exact ⟨Int.emod_nonneg _ (by exact J1 16 h), Int.emod_lt_of_pos _ h⟩
theorem yq {x m : Int} (hx : 0 ≤ x) (h : 0 < m) : 0 ≤ x.fdiv m := by
 rw [dC _ (iA h)]
 exact Int.ediv_nonneg hx (iA h)
theorem tB {value e : Expr} {p pos} (h : Ev W n r H value fun o H1 => Ev W n r H1 e fun i H2 => A3 o i H2 fun xs k => ∀ a, Q (.ref a) ((a, .lst (xs.take k)) :: H2)) :
  Ev W n r H (.Subscript value (.Slice none (some e) none p) pos) Q := fun A env fa G s R hr f => by
 refine Subscript_ (ay (h A env fa G s R hr f) (fun vo s1 h1 => ?_) fun _ _ x => x)
 obtain ⟨G1, po, H1, e1, r1, v1, q1⟩ := h1
 refine wpAny_Slice (aB ?_)
 refine ay (q1 A env fa G1 s1 R r1 (f.ext e1)) (fun vi s2 h2 => ?_) fun _ _ x => x
 obtain ⟨G2, pi, H2, e2, r2, v2, xs, k, w, rfl, hz, hQ⟩ := h2
 obtain ⟨t, rfl⟩ := lO v2
 obtain ⟨a, vs, m, rfl, g1, rs⟩ := w.lstAt r2 (e2.rv v1)
 rw [evalPart_none]
 refine aB ?_
 have hl := js g1
 obtain ⟨ops, hs⟩ := nC (.Slice none (some e) none p) (.ref a) (.ref s2.heap.objs.size)
 refine tail_any (T := "list") (hl.push _).typeIs fM.lookup (wpAny_getItem_list_slice (hl.push _) (jm ..) .none (.int _ _) .none (by simp) ?_ (by rw [aH, rs.length]; exact hz)) hs
 refine Fin.trans (e1.trans e2) (mJ (vs := vs.take k) (tk := s2.toks) (m := 0) r2 (ki ?_) (fun b o e => jw _ _ _ (jw _ _ _ e)) ?_ (rs.take k) hQ)
 ·rw [cN]; exact cY _
 ·rw [slicePick_upto', b7]
  exact aW _ rfl
theorem GQ (P : PW W) {ns : List Int} (hz : ns.length ≤ 64) (h : ∀ a, Q (.ref a) ((a, kr (ns.take 40) 0 0) :: H)) : jZ W (n + 1) H (.ref 591) [.lst (jp ns)] Q := by
 have hs := pO (L := ns) (by exact J4 9 hz)
 wtm_at "def"
 exists jn (jR (uC rfl (jA (ku (α := Int) PV.int (by wtm_at "hcap") (jP (li (CX ?_)))))))
 refine ⟨_, 40, Vw.refl, rfl, hs, fun a => ⟨a, _, _, rfl, rfl, _, rfl, _, ns.take 40, PV.int, by wtm_at "crho", by rw [eH], ?_, fun k hk => ⟨_, by kd_in, ?_⟩, ?_⟩⟩
 ·rw [bg, am]; exact J17 11
 ·kd_p
  exact rfl
 ·kd_p
  intro a
  exact h a
theorem ke (P : PW W) {K : HO → HH} {p : Addr} (U : ∀ o o', kQ p o o' (K o) (K o')) {ns : List Int} {sp gr many : Int} (hz : ns.length ≤ 64) (h0 : 0 ≤ sp) (h1 : sp ≤ 1000000) (hg : 0 ≤ gr) (hm : 0 < many) (hm2 : many ≤ 1000)
  (hq : ∀ d sp' gr' : Int, 0 ≤ d → d < many → 0 ≤ sp' → sp' ≤ sp + 1 → 0 ≤ gr' → Q (.int d) (K (kr ns sp' gr'))) : jZ W (n + 1) (K (kr ns sp gr)) (.ref 598) [.ref p, .int many] Q := by
 have vp : ∀ {H : HH} {xs : List PV}, (p, HO.lst xs) ∈ H → Vw H (.ref p) (.lst xs) := fun h => .lst h
 have mem : ∀ o, (p, o) ∈ K o := fun o => (U o o).there
 have hs := pO (L := ns) (by exact J4 9 hz)
 wtm_at "def"
 kd_p
 exists jz (x := .int gr) (vp (mem _)) (by decide) rfl (by decide) ?_
 refine jC.dec (fun h2 => ?_) fun h2 => ?_
 ·kd_p
  exists jz (x := .int gr) (vp (mem _)) (by decide) rfl (by decide) ?_
  exists oU (by exact J1 16 hm) ?_
  exists jz (x := .int gr) (vp (mem _)) (by decide) rfl (by decide) ?_
  exists uD (by exact J1 16 hm) (by exact J7 13 hm2 hm) ?_
  exists mw (U _ _) (by decide) (by decide) (by simp) ?_
  have := n9 (x := gr) hm
  exact hq _ _ _ this.1 this.2 h0 (by exact J2 23) (yq hg hm)
 wtm_at "mo"
 refine jz (x := .int sp) (vp (mem _)) (by decide) rfl (by decide) ?_
 wtm_at "mo"
 refine mw (U _ _) (by decide) (by decide) (by simp) ?_
 change lm W n _ (K (kr ns (sp + 1) gr)) _ _
 exists jn (jD rfl (kR ?_))
 exists lA (nq (by decide)) ?_
 exists tB ?_
 exists jz (x := .lst (jp ns)) (vp (mem _)) (by decide) rfl (by decide) ?_
 exists ⟨_, 1, Vw.refl, rfl, hs, fun a => ?_⟩
 refine uO (ns := ns.take 1) (.lst (by rw [← eH]; exact .head _)) ?_
 kd_p
 exists oU (by decide) ?_
 refine ⟨_, _, .one, ?_⟩
 generalize 20947 * sp + 3571 + Int.fmod (ns.take 1).sum 1000003 = c0
 kd_p1
 refine jn (uH (Q' := fun fl r' H' => fl = .next ∧ ∃ c : Int, r' = [lc "pen" (.ref p), lc "many" (.int many), lu "digit", lc "spot" (.int sp), lc "cell" (.int c), lu "great", lu "mixed", gb "int", gb "sum", gb "len", gb "abs"] ∧ H' = K (kr ns (sp + 1) gr)) (kI (pf (jU ?_))) ?_)
 ·kd_p
  exists jz (x := .lst (jp ns)) (vp (mem _)) (by decide) rfl (by decide) ?_
  intro ae
  kd_p
  exists nD Vw.refl (.lst (.head _)) ?_
  refine ⟨_, _, .one, ?_⟩
  rw [show (!(jp ns).isEmpty) = decide (ns ≠ []) by cases ns <;> simp]
  refine jC.dec (fun h3 => ?_) fun h3 => ?_
  ·have hpos := bI.mpr h3
   kd_p
   exists jz (x := .lst (jp ns)) (vp (mem _)) (by decide) rfl (by decide) ?_
   exists jz (x := .lst (jp ns)) (vp (mem _)) (by decide) rfl (by decide) ?_
   rw [aa]
   exists oU (by exact J17 12 hpos) ?_
   have hr := n9 (x := sp) (m := (ns.length : Int)) (by exact J0 14 hpos)
   exists j9 Vw.refl hr.1 (by exact J17 13 hr) (by exact J4 9 hz) ?_
   exact ⟨_, rfl, rfl⟩
  ·kd_p
   exact ⟨_, rfl, rfl⟩
 rintro fl r' H' ⟨rfl, c, rfl, rfl⟩
 refine jn (uH (Q' := fun fl r' H' => (∃ v, fl = .ret v ∧ Q v H') ∨ (fl = .next ∧ r' = [lc "pen" (.ref p), lc "many" (.int many), lu "digit", lc "spot" (.int sp), lc "cell" (.int c), lu "great", lu "mixed", gb "int", gb "sum", gb "len", gb "abs"] ∧ H' = K (kr ns (sp + 1) gr))) ?_ ?_)
 ·kd_p
  exists jz (x := .lst (jp ns)) (vp (mem _)) (by decide) rfl (by decide) ?_
  rw [aa]
  refine jC.dec (fun h3 => ?_) fun h3 => ?_
  rotate_left
  ·kd_p
   exact .inr ⟨rfl, rfl, rfl⟩
  kd_p
  exists qS (by decide) (by decide) (by decide) ?_
  refine jC.dec (fun h4 => ?_) fun h4 => ?_
  rotate_left
  ·kd_p
   exact .inr ⟨rfl, rfl, rfl⟩
  kd_p
  exists qS (by decide) (by decide) (by decide) ?_
  exists lA (nq (by decide)) ?_
  have hgr : 0 ≤ 2 * ((c.natAbs : Int) - 10 ^ (18 : Int).toNat) + (if decide (c < 0) = true then 1 else 0) := by
   have : (0 : Int) ≤ (if decide (c < 0) = true then 1 else 0) := by split <;> decide
   lia
  generalize 2 * ((c.natAbs : Int) - 10 ^ (18 : Int).toNat) + (if decide (c < 0) = true then (1 : Int) else 0) = great at *
  exists uD (by exact J1 16 hm) (by exact J7 13 hm2 hm) ?_
  exists mw (U _ _) (by decide) (by decide) (by simp) ?_
  exists oU (by exact J1 16 hm) ?_
  have := n9 (x := great) hm
  exact .inl ⟨_, rfl, hq _ _ _ this.1 this.2 (by exact J7 14 h0) (by exact J7 15) (yq hgr hm)⟩
 rintro fl r' H' (⟨v, rfl, hv⟩ | ⟨rfl, rfl, rfl⟩)
 ·exact hv
 kd_p
 have hc := n9 (x := c) (m := 2147483587) (by decide)
 exists oU (by decide) ?_
 exists lA (nq (by decide)) ?_
 exists qS (by decide) (by decide) (by lia) ?_
 exists oU (by decide) ?_
 have hx := n9 (x := (c.fmod 2147483587 + 20947 * sp + 3571) ^ (5 : Int).toNat) (m := 2147483629) (by decide)
 generalize Int.fmod ((c.fmod 2147483587 + 20947 * sp + 3571) ^ (5 : Int).toNat) 2147483629 = mx at *
 exists lA (nq (by decide)) ?_
 exists lA (nq (by exact J17 14 hx)) ?_
 exists lA (nq (by decide)) ?_
 exists lA (nq (by exact J17 15 h1 h0)) ?_
 have hb : (mx * (2 * sp + 7207) + 20947 * sp * sp + 31).natAbs < 2 ^ 64 := by
  have e1 : mx * (2 * sp + 7207) ≤ 2147483629 * 2007207 := jb (by exact J17 16 hx) (by exact J17 17 h1) (by exact J7 16 h0) (by decide)
  have e2 : 0 ≤ mx * (2 * sp + 7207) := fj hx.1 (by exact J7 16 h0)
  have e3 : 20947 * sp * sp ≤ 20947000000 * 1000000 := jb (by exact J17 18 h1) (by exact J17 19 h1) (by exact J4 10 h0) (by decide)
  have e4 : 0 ≤ 20947 * sp * sp := fj (by exact J17 20 h0) (by exact J4 10 h0)
  exact J17 21 e3 e1 e4 e2
 exists qS (by decide) (by decide) hb ?_
 exists oU (by decide) ?_
 exists uD (by decide) (by decide) ?_
 exists oU (by exact J1 16 hm) ?_
 have := n9 (x := (Int.fmod ((mx * (2 * sp + 7207) + 20947 * sp * sp + 31) ^ (3 : Int).toNat) 2147483579).fdiv 32) hm
 exact hq _ _ _ this.1 this.2 (by exact J7 14 h0) (by exact J7 15) (by exact J4 10 hg)
theorem oF (P : PW W) {K : HO → HH} {p : Addr} (U : ∀ o o', kQ p o o' (K o) (K o')) {q : PV} {xs : List PV} (w : ∀ o, Vw (K o) q (.lst xs)) (hx : 0 < xs.length) (hx2 : xs.length ≤ 1000) {ns : List Int} {sp gr : Int} (hz : ns.length ≤ 64) (h0 : 0 ≤ sp) (h1 : sp ≤ 1000000) (hg : 0 ≤ gr)
  (hq : ∀ x ∈ xs, ∀ sp' gr' : Int, 0 ≤ sp' → sp' ≤ sp + 1 → 0 ≤ gr' → Q x (K (kr ns sp' gr'))) : jZ W (n + 2) (K (kr ns sp gr)) (.ref 605) [.ref p, q] Q := by
 wtm_at "def"
 exists jn (jR (oj ?_))
 refine sD (w _) (by rw [am]; exact J17 22 hx2) ?_
 kd_p
 refine ke P U hz h0 h1 hg (by exact J0 14 hx) (by exact J17 23 hx2) fun d sp' gr' hd0 hd1 q1 q2 q3 => ?_
 have hd : d.toNat < xs.length := by exact J2 1 hd1 hx
 kd_p
 refine jz (x := xs[d.toNat]) (w _) hd0 (aG hd) (by exact J18 0 hx2 hd1) ?_
 exact hq _ (bJ hd) _ _ q1 q2 q3
structure nR (d : jN) (j : Nat) : Prop where
 srt : qR d
 rng : ∀ p ∈ d, 0 ≤ p.1 ∧ p.1 < (j : Int)
theorem nR.nil {j} : nR [] j := ⟨by unfold qR; simp, by simp⟩
theorem nR.up {d j k} (x : nR d j) (h : j ≤ k) : nR d k := ⟨x.srt, fun p hp => by have := x.rng p hp; exact J18 1 h this⟩
theorem nR.new {d j} (x : nR d j) {v : Int} : dset d (j : Int) v = d ++ [((j : Int), v)] := o9 (lG.mpr fun q => by
 obtain ⟨p, hp, e⟩ := az.mp q
 have := x.rng p hp; exact J18 2 this e)
theorem nR.snoc {d j} (x : nR d j) {v : Int} : nR (d ++ [((j : Int), v)]) (j + 1) := by
 refine ⟨?_, fun p hp => ?_⟩
 ·unfold qR
  rw [aJ, bG]
  refine ⟨x.srt, by simp, fun a ha b hb => ?_⟩
  obtain ⟨p, hp, rfl⟩ := az.mp ha
  simp at hb; subst hb
  exact (x.rng p hp).2
 ·rcases aQ.mp hp with hp | hp
  ·have := x.rng p hp; exact J18 3 this
  ·simp at hp; subst hp; simp only; exact J18 4
theorem yr : ∀ (j : Nat) {L : List Int}, L.Pairwise (· < ·) → (∀ c ∈ L, 0 ≤ c ∧ c < (j : Int)) → L.length ≤ j
 | 0, L, h1, h2 => by
  cases L with
  | nil => simp
  | cons c L => have := h2 c (.head _); exact J18 5 this
 | j + 1, L, h1, h2 => by
  rcases cB L with rfl | ⟨L', c, rfl⟩
  ·simp
  ·rw [cC] at *
   have h3 := bG.mp h1
   have := yr j h3.1 fun x hx => by
    have q1 := h3.2.2 x hx c (by simp)
    have q2 := h2 x (bu _ hx)
    have q3 := h2 c (by simp)
    exact J18 6 q3 q2 q1
   simp; exact J7 17 this
theorem nR.len {d j} (x : nR d j) : d.length ≤ j := by
 have := yr j x.srt (fun c hc => by obtain ⟨p, hp, rfl⟩ := az.mp hc; exact x.rng p hp)
 simpa using this
theorem nR.ok {d j} (x : nR d j) (h : j < 64) : pc d := ⟨x.srt, fun p hp => (x.rng p hp).1, fun p hp => by have := (x.rng p hp).2; exact J18 7 this h, bH x.len h⟩
theorem B2 (P : PW W) {K : HO → HH} {p : Addr} (U : ∀ o o', kQ p o o' (K o) (K o')) {ns : List Int} {sp gr : Int} (hz : ns.length ≤ 64) (h0 : 0 ≤ sp) (h1 : sp ≤ 500000) (hg : 0 ≤ gr)
  (hq : ∀ (R : List jN) (sp' gr' : Int), 2 ≤ R.length → R.length ≤ 5 → (∀ d ∈ R, nR d 6) → 0 ≤ sp' → sp' ≤ sp + 100 → 0 ≤ gr' → Q (jY R) (K (kr ns sp' gr'))) : jZ W (n + 3) (K (kr ns sp gr)) (.ref 612) [.ref p] Q := by
 wtm_at "def"
 kd_p
 intro af
 kd_p
 exists jI ?_
 exists ke (K := fun o => (af, .lst []) :: K o) P (fun o o' => .tail (U o o')) hz h0 (by exact J3 0 h1) hg (by decide) (by decide) fun d sp1 gr1 hd0 hd1 s0 s1 g0 => ?_
 obtain ⟨dn, rfl⟩ : ∃ dn : Nat, d = (dn : Int) := ⟨d.toNat, by exact J2 2 hd0⟩
 let I1 : IT jt := fun i Z => ∀ (R : List jN) (sp' gr' : Int), R.length = i → (∀ d ∈ R, nR d 6) → 0 ≤ sp' → sp' ≤ sp1 + 10 * i → 0 ≤ gr' → Z [lc "pen" (.ref p), lc "found" (.ref af), lu "turn", lu "one", lu "column", lu "number", gb "range", gb "_law_draw", gb "dict", gb "_law_pick"] ((af, .lst (R.map jW)) :: K (kr ns sp' gr'))
 refine ⟨2 + dn, by rw [show ((2 + dn : Nat) : Int) = 2 + (dn : Int) by exact J18 8], by exact J18 9 hd1, I1, fun Z zz => zz [] sp1 gr1 rfl (by simp) s0 (by exact J3 1) g0, ?_, ?_⟩
 ·rintro i hi R sp' gr' hRl hR q0 q1 q2
  have hi5 : i ≤ 5 := by exact J18 10 hd1 hi
  have hRs : (R.map jW).length ≤ sizeLine := by rw [aa, am]; exact J18 11 hRl hd1 hi
  refine ⟨_, by kd_in, ?_⟩
  let ρ : jt := [lc "pen" (.ref p), lc "found" (.ref af), lc "turn" (.int (i : Nat)), lu "one", lu "column", lu "number", gb "range", gb "_law_draw", gb "dict", gb "_law_pick"]
  let I3 : jJ → Prop := fun Z => (∀ sp2 gr2 : Int, 0 ≤ sp2 → sp2 ≤ sp' + 2 → 0 ≤ gr2 → ∀ row ∈ R, Z .cont ρ ((af, .lst ((R ++ [row]).map jW)) :: K (kr ns sp2 gr2))) ∧ ∀ sp2 gr2 : Int, 0 ≤ sp2 → sp2 ≤ sp' + 2 → 0 ≤ gr2 → Z .next ρ ((af, .lst (R.map jW)) :: K (kr ns sp2 gr2))
  refine jn (BF I3 ?_ ?_)
  ·exists kI (nJ (pf (jU ?_)))
   intro ae
   kd_p
   exists nD (.lst (.tail _ (.head _))) (.lst (.head _)) ?_
   refine ⟨_, _, .one, ?_⟩
   rw [show (!(R.map jW).isEmpty) = decide (R ≠ []) by cases R <;> simp]
   refine jC.dec (fun h3 => ?_) fun h3 => ?_
   rotate_left
   ·kd_p
    exact fun Z zz => zz.2 sp' gr' q0 (by exact J18 12) q2
   kd_p
   exists ke (K := fun o => (af, .lst (R.map jW)) :: K o) P (fun o o' => .tail (U o o')) hz q0 (by exact J18 13 s1 q1 h1 hd1 hi) q2 (by decide) (by decide) fun d2 sp2 gr2 hd0 hd1 s2 s3 g2 => ?_
   refine jC.dec (fun h4 => ?_) fun h4 => ?_
   rotate_left
   ·kd_p
    exact fun Z zz => zz.2 sp2 gr2 s2 (by exact J18 14 s3) g2
   refine uz (jC.tt ?_)
   refine jn (lx rfl (lb ?_))
   wtm_at "mo"
   exists vT (td P (by kd_mem) (jA (ny P (by kd_mem) ?_)))
   have hpos := bI.mpr h3
   refine oF (K := fun o => (af, .lst (R.map jW)) :: K o) P (fun o o' => .tail (U o o')) (fun o => .lst (.head _)) (by rw [aa]; exact hpos) (by rw [aa]; exact J18 15 hRl ‹_› hi) hz s2 (by exact J18 16 s1 s3 q1 h1 ‹_› hi) g2 fun x hx sp3 gr3 s4 s5 g3 => ?_
   obtain ⟨row, hrow, rfl⟩ := az.mp hx
   kd_p
   refine ui (f := PV.int) Vw.refl (mh (by have := (hR row hrow).len; exact J7 18 this)) fun ad => ⟨ad, _, _, rfl, rfl, ?_⟩
   kd_p
   have := fun Z (zz : I3 Z) => zz.1 sp3 gr3 s4 (by exact J18 17 s5 s3) g3 row hrow
   rw [aJ] at this
   exact this
  refine ⟨fun sp2 gr2 s2 s3 g2 row hrow => ?_, fun sp2 gr2 s2 s3 g2 => ?_⟩
  ·refine jx.ct (by kd_all) fun Z zz => zz (R ++ [row]) sp2 gr2 (by simp [hRl]) (fun d hd => ?_) s2 (by exact J18 18 s3 q1) g2
   rcases aQ.mp hd with hd | hd
   ·exact hR d hd
   ·simp at hd; subst hd; exact hR _ hrow
  kd_p
  intro ao
  kd_p
  exists jI ?_
  let I2 : IT jt := fun j Z => ∀ (d : jN) (sp3 gr3 : Int), nR d j → 0 ≤ sp3 → sp3 ≤ sp2 + j → 0 ≤ gr3 → Z [lc "pen" (.ref p), lc "found" (.ref af), lc "turn" (.int (i : Nat)), lc "one" (.ref ao), lu "column", lu "number", gb "range", gb "_law_draw", gb "dict", gb "_law_pick"] ((ao, .dct (Dk .int d)) :: (af, .lst (R.map jW)) :: K (kr ns sp3 gr3))
  refine ⟨6, rfl, by decide, I2, fun Z zz => zz [] sp2 gr2 nR.nil s2 (by exact J0 18) g2, ?_, ?_⟩
  ·rintro j hj d sp3 gr3 hd s4 s5 g3
   refine ⟨_, by kd_in, ?_⟩
   exists jn (jD rfl (kR (ny P (by kd_mem) ?_)))
   intro al
   kd_p
   refine oF (K := fun o => (al, .lst [.none, .int 0, .none, .int (-1), .int 4, .none, .int 9]) :: (ao, .dct (Dk .int d)) :: (af, .lst (R.map jW)) :: K o) P (fun o o' => .tail (.tail (.tail (U o o')))) (fun o => .lst (.head _)) (by decide) (by decide) hz s4 (by exact J18 19 s1 s3 s5 q1 h1 hd1 hi hj) g3 fun x hx sp4 gr4 s6 s7 g4 => ?_
   refine ⟨_, _, .one, ?_⟩
   have hx : x = .none ∨ ∃ v, x = .int v := by
    simp only [au, bw, or_false] at hx
    rcases hx with rfl | rfl | rfl | rfl | rfl | rfl | rfl
    ·exact .inl rfl
    ·exact .inr ⟨_, rfl⟩
    ·exact .inl rfl
    ·exact .inr ⟨_, rfl⟩
    ·exact .inr ⟨_, rfl⟩
    ·exact .inl rfl
    ·exact .inr ⟨_, rfl⟩
   rcases hx with rfl | ⟨v, rfl⟩
   ·kd_p
    exists jC.ff ?_
    exact jx.nx (by kd_all) (fun Z zz => zz d sp4 gr4 (hd.up (by exact J3 13)) s6 (by exact J0 19 s7 s5) g4)
   ·kd_p
    exists jC.tt ?_
    refine kK (f := PV.int) rfl (by wtm_at "updh") (mh (by have := hd.len; exact J18 20 this hj)) ?_
    kd_p
    rw [hd.new]
    exact jx.nx (by kd_all) (fun Z zz => zz _ sp4 gr4 hd.snoc s6 (by exact J0 19 s7 s5) g4)
  ·rintro d sp3 gr3 hd s4 s5 g3
   kd_p
   refine jx.fz .one (by kd_all) (.lst (nA.snoc (.dct (.head _) .refl)) mV.refl) (Of.eqH (by rw [aJ]; rfl) (fun Z zz => zz (R ++ [d]) sp3 gr3 (by simp [hRl]) (fun d' hd' => ?_) s4 (by exact J18 21 s3 s5 q1) g3))
   rcases aQ.mp hd' with hd' | hd'
   ·exact hR d' hd'
   ·simp at hd'; subst hd'; exact hd
 ·rintro R sp' gr' hRl hR q0 q1 q2
  exists jn (jR (li ?_))
  exact ⟨af, _, _, rfl, rfl, hq R _ _ (by exact J18 22 hRl) (by exact J18 23 hRl hd1) hR q0 (by exact J19 0 s1 q1 hd1) q2⟩
theorem wg {α : Type} [DecidableEq α] : ∀ {d e : List α}, d.Nodup → (∀ x ∈ d, x ∈ e) → d.length = e.length → d.Perm e
 | [], e, _, _, h => by
  have : e = [] := ge.mp h.symm
  subst this; exact .refl _
 | p :: d, e, hn, hs, h => by
  have hp := hs p (.head _)
  rw [aY] at hn
  have h1 := List.perm_cons_erase hp
  have h2 := h1.length_eq
  refine (gM p (wg hn.2 (fun x hx => ?_) ?_)).trans h1.symm
  ·exact (List.mem_erase_of_ne (fun q => hn.1 (by rw [← q]; exact hx))).mpr (hs x (.tail _ hx))
  ·simp at h h2; exact J19 1 h2 h
theorem nS {d : jN} (h : (d.map ai).Nodup) : d.Nodup := by
 unfold gk at h ⊢
 rw [bU] at h
 exact h.imp fun q e => q (by rw [e])
theorem Dy {d e : jN} (hd : qR d) (he : qR e) : D5 d e = true ↔ d = e := by
 constructor
 ·intro h
  unfold D5 at h
  rw [a9, beq_iff_eq, aV] at h
  obtain ⟨h1, h2⟩ := h
  have hs : ∀ x ∈ d, x ∈ e := fun x hx => by
   have := h2 x hx
   cases q : jB e x.1 with
   | none => rw [q] at this; cases this
   | some y =>
    rw [q] at this
    have e1 : x.2 = y := by simpa using this
    have := lw q
    rw [← e1] at this; exact this
  have hp := wg (nS hd.nodup) hs h1
  unfold qR at hd he
  rw [bU] at hd he
  refine vK (R := fun a b => a.1 < b.1 ∨ a = b) (fun a b q1 q2 => ?_) hp (hd.imp fun q => .inl q) (he.imp fun q => .inl q)
  rcases q1 with q1 | q1
  ·rcases q2 with q2 | q2
   ·lia
   ·exact q2.symm
  ·exact q1
 ·rintro rfl
  unfold D5
  rw [a9, beq_iff_eq, aV]
  refine ⟨rfl, fun x hx => ?_⟩
  rw [hd.get hx]; simp
theorem xe {R : List jN} {d : jN} (hd : d ∈ R) : ((av R.length).filter fun i => decide (R.getD i [] = d))[0]? = some (R.idxOf d) := by
 have hlt := bW hd
 generalize hi : R.idxOf d = i at *
 have hat : R.getD i [] = d := by
  rw [aL, aG hlt]
  simp only [cM]
  subst hi; exact ie hlt
 have hno : ∀ j, j < i → R.getD j [] ≠ d := fun j hj e => by
  have hj2 : j < R.length := by exact J6 12 hj hlt
  have hm : d ∈ R.take i := by
   rw [← e]
   refine aS (i := j) ?_
   rw [List.getElem?_take_of_lt hj]; exact jM hj2
  have : (R.take i).idxOf d < i := by
   have := bW hm
   rw [bg] at this; exact J19 2 this
  have h2 : R.idxOf d = (R.take i).idxOf d := by
   conv => lhs; rw [← bS i R]
   rw [ix, if_pos hm]
  exact J19 3 h2 hi this
 have hsp : av R.length = av i ++ (List.range' i (R.length - i)) := by
  have h1 := List.range'_append_1 (s := 0) (m := i) (n := R.length - i)
  rw [Nat.zero_add] at h1
  rw [gO, gO, h1]; congr 1; exact J19 4 hlt
 rw [hsp, cF]
 have h0 : (av i).filter (fun j => decide (R.getD j [] = d)) = [] := by
  rw [cx]
  intro j hj
  have := hno j (aM.mp hj)
  simpa using this
 rw [h0, eM]
 obtain ⟨k, hk⟩ : ∃ k, R.length - i = k + 1 := ⟨R.length - i - 1, by exact J19 5 hlt⟩
 rw [hk, List.range'_succ, gf, if_pos (by simpa using hat)]
 rfl
theorem tC {b o : Int} : ∀ {row : jN} {h : Hd}, (hput h b o row).length ≤ h.length + row.length
 | [], h => by simp [hput]
 | p :: row, h => by
  rw [n3]
  have := tC (b := b) (o := o) (row := row) (h := dset h (b + p.1) (p.2, o))
  have h2 := rM (d := h) (k := b + p.1) (x := (p.2, o))
  simp only [dG]; exact J19 6 this h2
structure rT (R : List jN) (w : Nat) : Prop where
 row : ∀ d ∈ R, d.length ≤ w
 all : R.length * w < 64
theorem rT.held {R : List jN} {w : Nat} (x : rT R w) : ∀ i ≤ (jq R).length, (kg R ((jq R).take i)).h.length ≤ i * w
 | 0, _ => by rw [cb]; simp [kg]
 | i + 1, hi => by
  rw [kd (aG (by exact J1 17 hi)), lY]
  have hm := lH (bJ (l := jq R) (n := i) (by exact J1 17 hi))
  have h1 := x.row _ (jr (d := ([] : jN)) hm.2.1)
  have h2 := rT.held x i (by exact J0 9 hi)
  have h3 := tC (b := place (kg R ((jq R).take i)).h (kg R ((jq R).take i)).m ((R.getD (jq R)[i].toNat []).map ai)) (o := (jq R)[i] + 1) (row := R.getD (jq R)[i].toNat []) (h := (kg R ((jq R).take i)).h)
  have h4 : (i + 1) * w = i * w + w := Nat.succ_mul _ _
  unfold kq
  simp only
  lia
theorem rT.lt {R : List jN} {w : Nat} (x : rT R w) {i : Nat} (hi : i ≤ (jq R).length) : (kg R ((jq R).take i)).h.length < 64 := by
 have h1 := x.held i hi
 have h2 := pF (R := R)
 have h3 : i * w ≤ R.length * w := Nat.mul_le_mul_right w (by exact J1 10 h2 hi)
 have := x.all
 exact J19 7 h3 h1 this
noncomputable def oN (h : Hd) (m : Nat) : Prop := m = 0 ∨ ((m : Int) - 1) ∈ h.map ai
theorem tX {α : Type} {d : List (Int × α)} {k j : Int} {x : α} : j ∈ (dset d k x).map ai ↔ j = k ∨ j ∈ d.map ai := by
 rw [← ri, m5]
 by_cases e : j = k
 ·rw [if_pos e]; simp [e]
 ·rw [if_neg e, ri]; simp [e]
theorem pT {b o j : Int} : ∀ {row : jN} {h : Hd}, j ∈ (hput h b o row).map ai ↔ j ∈ h.map ai ∨ ∃ p ∈ row, j = b + p.1
 | [], h => by simp [hput]
 | p :: row, h => by
  rw [n3, pT, tX]
  simp only [au, exists_eq_or_imp]
  constructor
  ·rintro ((h1 | h1) | h1)
   ·exact .inr (.inl h1)
   ·exact .inl h1
   ·exact .inr (.inr h1)
  ·rintro (h1 | h1 | h1)
   ·exact .inl (.inr h1)
   ·exact .inl (.inl h1)
   ·exact .inr h1
theorem oN.step {R : List jN} {st : St} {num : Int} (hR : j3 R) (hn : num ∈ jq R) (t : oN st.h st.m) : oN (kq R st num).h (kq R st num).m := by
 obtain ⟨h0, h1, h2, _⟩ := lH hn
 have y := (hR.row _ (jr (d := ([] : jN)) h1)).cols h2
 have hge := qD (h := st.h) (m := st.m) (cols := (R.getD num.toNat []).map ai)
 have hl0 := y.head _ y.lastm
 have hlm := y.lastm
 unfold oN kq
 simp only
 generalize hb : place st.h st.m ((R.getD num.toNat []).map ai) = b at *
 right
 rw [pT]
 by_cases hc : st.m ≤ (b + mS ((R.getD num.toNat []).map ai) + 1).toNat
 ·right
  obtain ⟨p, hp, e⟩ := az.mp hlm
  exact ⟨p, hp, by lia⟩
 ·left
  rcases t with t | t
  ·lia
  ·rw [show max st.m (b + mS ((R.getD num.toNat []).map ai) + 1).toNat = st.m by exact J19 8 hc]; exact t
theorem oN.take {R : List jN} (hR : j3 R) : ∀ i ≤ (jq R).length, oN (kg R ((jq R).take i)).h (kg R ((jq R).take i)).m
 | 0, _ => by rw [cb]; exact .inl rfl
 | i + 1, hi => by
  rw [kd (aG (by exact J1 17 hi)), lY]
  exact (oN.take hR i (by exact J0 9 hi)).step hR (bJ _)
theorem oN.all {R : List jN} (hR : j3 R) : oN (jv R).h (jv R).m := by
 have := oN.take hR (jq R).length (aU _)
 rw [aZ] at this; exact this
theorem yt {L : List Int} {x : Int} (hm : x ∈ L) (hx : ∀ a ∈ L, a ≤ x) : ot L = x := by
 have h := ud (ns := L) (fun q => by rw [q] at hm; cases hm)
 have h1 := hx _ h.1
 have h2 := h.2 _ hm
 exact J5 22 h2 h1
theorem yu {L : List Int} {x : Int} (hm : x ∈ L) (hx : ∀ a ∈ L, x ≤ a) : sV L = x := by
 have h := uc (ns := L) (fun q => by rw [q] at hm; cases hm)
 have h1 := hx _ h.1
 have h2 := h.2 _ hm
 exact J19 9 h2 h1
theorem zy {h : Hd} {m : Nat} (x : lQ h m) (t : oN h m) {L : List Int} (hL : ∀ k, k ∈ L ↔ k ∈ h.map ai) : ot (L ++ [-1]) + 1 = m := by
 have hh : ∀ k ∈ L, 0 ≤ k ∧ k < (m : Int) := fun k hk => by
  obtain ⟨p, hp, rfl⟩ := az.mp ((hL k).mp hk)
  exact ⟨x.low p hp, x.high p hp⟩
 rcases t with t | t
 ·have : L = [] := by
   cases L with
   | nil => rfl
   | cons k L => have := hh k (.head _); lia
  subst this; subst t; rfl
 ·rw [yt (x := (m : Int) - 1) (bu _ ((hL _).mpr t)) fun a ha => ?_]
  ·exact J19 10
  ·rcases aQ.mp ha with ha | ha
   ·have := hh a ha; exact J19 11 this
   ·simp at ha
    obtain ⟨p, hp, e⟩ := az.mp t
    have := x.low p hp
    exact J19 12 ha
noncomputable abbrev GR (R : List jN) : PV := .tup [.lst (jp (km R)), .lst (jp (lR R)), .lst (jp (jS R)), .lst (o4 (ko R))]
theorem pn {R : List jN} {k : Int} {po : PV} (w : Vw H po (jY R)) (h0 : 0 ≤ k) (h1 : k.toNat < R.length) (hs : k < 5000) (h : Q (jW (R.getD k.toNat [])) H) : oP W n H po (.int k) Q :=
 jz w h0 (by rw [ax, jM (d := ([] : jN)) h1]; rfl) (by exact J4 7 hs) h
theorem GS {L : List Nat} {k : Int} {po : PV} (w : Vw H po (.lst (o4 L))) (h0 : 0 ≤ k) (h1 : k.toNat < L.length) (hs : L.length ≤ 5000) (h : Q (.int (L.getD k.toNat 0 : Nat)) H) : oP W n H po (.int k) Q :=
 jz w h0 (yd (jM h1)) (by exact J7 19 hs h1) h
theorem lz (P : PW W) {R : List jN} {w : Nat} (hR : j3 R) (hw : rT R w) (h : Q (GR R) H) : jZ W (n + 1) H (.ref 617) [jY R] Q := by
 have hlen := hR.len
 have hRs : (R.map jW).length ≤ sizeLine := by rw [aa, am]; exact J0 5 hlen
 wtm_at "def"
 exists jn (lB (α := jN) (fun d => PV.int (R.idxOf d : Nat)) (by wtm_at "hcap") (jP ?_))
 refine ⟨_, rfl, _, R, jW, by wtm_at "crho", rfl, by rw [am]; exact J0 5 hlen, fun d hd => ⟨_, by kd_in, oj (lj (α := Nat) (fun i => decide (R.getD i [] = d)) (fun i => PV.int (i : Nat)) (by wtm_at "hcap") (jO ?_))⟩, ?_⟩
 ·kd_p
  refine ⟨R.length, by rw [aa], by exact J0 22 hlen, _, av R.length, fun i => .int (i : Nat), by wtm_at "crho", rfl, by rw [aq, am]; exact J0 5 hlen, fun i hi => ⟨_, by kd_in, ?_⟩, ?_⟩
  ·have hi2 := aM.mp hi
   kd_p
   refine pn Vw.refl (by exact J0 0) (by exact J0 1 hi2) (by exact J1 14 hi2 hlen) ?_
   rw [ag]
   kd_p
   refine D6 Vw.refl Vw.refl ?_
   have e : D5 (R.getD i []) d = decide (R.getD i [] = d) := by
    have := Dy (hR.row _ (jr (d := ([] : jN)) hi2)).srt (hR.row d hd).srt
    by_cases q : R.getD i [] = d
    ·rw [decide_eq_true q, this.mpr q]
    ·rw [decide_eq_false q]
     cases z : D5 (R.getD i []) d with
     | false => rfl
     | true => exact absurd (this.mp z) q
   rw [e]
   kd_p
   intro _
   kd_p
   exact rfl
  ·kd_p
   refine jz (x := .int (R.idxOf d : Nat)) Vw.refl (by decide) ?_ (by decide) ?_
   ·show (cV _ _)[0]? = _
    rw [ax, xe hd]; rfl
   ·exact ⟨rfl, rfl⟩
 rw [show R.map (fun d => PV.int (R.idxOf d : Nat)) = o4 (ko R) by unfold ko; simp]
 have hown : ∀ i, i < R.length → (ko R).getD i 0 = R.idxOf (R.getD i []) := fun i hi => by
  unfold ko; rw [aL, ax, jM (d := ([] : jN)) hi]; rfl
 have hol : (ko R).length = R.length := jL
 kd_p1
 exists jn (jD rfl (li (lv P (by kd_mem) (jA (lj (α := Nat) (mQ R) (fun i => kY (rh R i)) (by wtm_at "hcap") (jO ?_))))))
 refine ⟨R.length, by rw [aa], by exact J0 22 hlen, _, av R.length, fun i => .int (i : Nat), by wtm_at "crho", rfl, by rw [aq, am]; exact J0 5 hlen, fun i hi => ⟨_, by kd_in, ?_⟩, ?_⟩
 ·have hi2 := aM.mp hi
  have hrl := (hR.row _ (jr (d := ([] : jN)) hi2)).len
  have hrs := mh (d := R.getD i []) (by lia)
  kd_p
  refine GS Vw.refl (by exact J0 0) (by exact J0 2 hol hi2) (by exact J0 10 hol hlen) ?_
  rw [ag, hown i hi2]
  kd_p
  have hk : mQ R i = (decide (R.idxOf (R.getD i []) = i) && decide (0 < (R.getD i []).length)) := rfl
  refine jC.dec (fun h1 => ?_) fun h1 => ?_
  ·rw [decide_eq_true (show R.idxOf (R.getD i []) = i by exact J1 20 h1), hJ] at hk
   kd_p
   refine pn Vw.refl (by exact J0 0) (by exact J0 1 hi2) (by exact J1 14 hi2 hlen) ?_
   rw [ag]
   kd_p
   refine jC.dec (fun h2 => ?_) fun h2 => ?_
   ·rw [decide_eq_true (by exact J4 4 h2)] at hk
    kd_p
    exists ⟨hk.symm, rfl, fun _ => ?_⟩
    refine pn Vw.refl (by exact J0 0) (by exact J0 1 hi2) (by exact J1 14 hi2 hlen) ?_
    rw [ag]
    kd_p
    rw [show (0 : Int) - ((R.getD i []).length : Nat) = -((R.getD i []).length : Nat) by exact J19 13]
    exact rfl
   ·rw [decide_eq_false (by exact J7 20 h2)] at hk
    kd_p
    exact ⟨hk.symm, rfl, fun q => by cases q⟩
  ·rw [decide_eq_false (show ¬ R.idxOf (R.getD i []) = i by exact J7 21 h1), d5] at hk
   kd_p
   exact ⟨hk.symm, rfl, fun q => by cases q⟩
 kd_p
 have hkl := o7 (R := R)
 rw [show ((av R.length).filter (mQ R)).map (fun i => kY (rh R i)) = (o6 R).map kY by unfold o6; rw [aX]; rfl]
 refine rc Vw.refl (by exact J4 1 hkl hlen) fun a => ⟨a, _, _, rfl, rfl, ?_⟩
 kd_p1
 exists jn (k7 (xs := ["held", "places"]) rfl (by decide) (.inr rfl) ?_)
 intro ah
 kd_p
 intro al
 kd_p
 rw [aa]
 refine yZ (.lst (.head _)) (by exact J0 0) (by exact J19 14 hlen) (by simp; exact J0 5 hlen) fun ap => ?_
 rw [show (bd ((R.length : Int)).toNat [PV.int 0]).flatten = jp (bd R.length 0) by rw [ag]; simp]
 kd_p
 refine ⟨_, _, rfl, .cons (by kd_in) (.cons (by kd_in) .nil), ?_⟩
 refine Bq (K := (ap, .lst (jp (bd R.length 0))) :: (ah, .dct []) :: H) (.l (.r .none)) ?_
 exists jn (m9 (tt := false) (fun h => nomatch h) (jP ?_))
 let I1 : IT jt := fun i Z => Z [cc "some" (jY R), lu "at", cc "firsts" (.lst (o4 (ko R))), lc "line" (.lst ((nB (o6 R)).map kY)), cc "held" (.ref ah), cc "places" (.ref ap), lu "size", cu "place", lu "column", lu "ends", lu "cells", lu "marks", gb "sorted", gb "range", gb "len", gb "min", gb "max"] ((ap, .lst (jp (kg R ((jq R).take i)).b)) :: (ah, .dct (Dk kY (kg R ((jq R).take i)).h)) :: H)
 refine ⟨_, rfl, uK.T I1 (fun Z zz => zz) ?_ ?_⟩
 ·rintro i x hx
  show Ft _ _ _ _ _ _ _
  rw [ax] at hx
  obtain ⟨⟨sz, num⟩, hk, rfl⟩ := bc.mp hx
  have hnum : (jq R)[i]? = some num := by unfold jq; rw [ax, hk]; rfl
  have hi := (aA.mp hnum).1
  have hmem := aS hnum
  obtain ⟨h0, h1, h2, _⟩ := lH hmem
  have hok := mK.take hR i (by exact J2 14 hi)
  have hrow := hR.row _ (jr (d := ([] : jN)) h1)
  have y := hrow.cols h2
  have hol2 := pF (R := R)
  have hm := hok.m
  have hbl := hok.len
  have hhl := hw.lt (i := i) (by exact J2 14 hi)
  have e : kg R ((jq R).take (i + 1)) = kq R (kg R ((jq R).take i)) num := by rw [kd hnum, lY]
  have hge := qD (h := (kg R ((jq R).take i)).h) (m := (kg R ((jq R).take i)).m) (cols := (R.getD num.toNat []).map ai)
  generalize hst : kg R ((jq R).take i) = st at *
  have hgr : ∀ {Q : CV} {H : HH} {n : Nat}, Q (jW (R.getD num.toNat [])) H → oP W n H (jY R) (.int num) Q := fun hq => pn Vw.refl h0 h1 (by exact J19 15 hlen h1) hq
  unfold kq at e
  generalize R.getD num.toNat [] = row at *
  refine mW (xs := ["size", "at"]) (ps := [.int sz, .int num]) Vw.refl rfl (.cons (by kd_in) (.cons (by kd_in) .nil)) ?_
  exists jn (jD rfl (kR ?_))
  exists hgr ?_
  refine lD (f := PV.int) Vw.refl hrow.len fun as => ?_
  rw [re y.srt]
  kd_p
  refine uN (ns := row.map ai) (.lst (.head _)) y.ne ?_
  rw [yu y.headm y.head]
  kd_p
  refine ⟨_, _, .one, ?_⟩
  kd_p1
  let I2 : IT jt := fun j Z => ∀ b : Int, b = -((row.map ai).headD 0) + st.m - j → j ≤ st.m → pN st.h (row.map ai) j b = place st.h st.m (row.map ai) → Z [cc "some" (jY R), lc "at" (.int num), cc "firsts" (.lst (o4 (ko R))), lc "line" (.lst ((nB (o6 R)).map kY)), cc "held" (.ref ah), cc "places" (.ref ap), lc "size" (.int sz), cc "place" (.int b), lu "column", lu "ends", lu "cells", lu "marks", gb "sorted", gb "range", gb "len", gb "min", gb "max"] ((ap, .lst (jp st.b)) :: (ah, .dct (Dk kY st.h)) :: H)
  refine jn (lE I2 st.m (fun Z zz => zz (0 - (row.map ai).headD 0) (by exact J19 16) (aU _) (by rw [gt]; rfl)) ?_)
  rintro j b hb hj hf
  exists pf (jU (lj (α := Int) (fun k => (jB st.h (b + k)).isSome) PV.int (by wtm_at "hcap") (wQ (f := PV.int) ?_)))
  refine hgr ?_
  refine ⟨row, rfl, _, row.map ai, PV.int, by wtm_at "crho", by rw [aX]; rfl, by rw [aa, am]; have := hrow.len; exact J0 5 this, fun k hk => ⟨_, by kd_in, ?_⟩, ?_⟩
  ·kd_p
   exists Ez (f := kY) (.dct (.tail _ (.head _))) ?_
   intro _
   kd_p
   exact rfl
  kd_p
  intro ae
  kd_p
  exists nD Vw.refl (.lst (.head _)) ?_
  refine ⟨_, _, .one, ?_⟩
  have hfil : (!(((row.map ai).filter fun k => (jB st.h (b + k)).isSome).map PV.int).isEmpty) = !(mR st.h (row.map ai) b) := by
   congr 1
   unfold mR
   generalize row.map ai = cols
   rw [List.isEmpty_map]
   cases q : cols.all fun c => hfree st.h (b + c) with
   | true =>
    rw [aV] at q
    rw [dI, cx]
    intro c hc z
    have := q c hc
    unfold hfree at this
    rw [cP] at this
    rw [this] at z; cases z
   | false =>
    rw [iy] at q
    obtain ⟨c, hc, z⟩ := q
    cases hx : (cols.filter fun k => (jB st.h (b + k)).isSome) with
    | nil =>
     rw [cx] at hx
     have := hx c hc
     unfold hfree at z
     cases w : jB st.h (b + c) with
     | none => rw [w] at z; exact absurd rfl z
     | some v => rw [w] at this; exact absurd rfl this
    | cons => rfl
  rw [hfil]
  cases hfit : mR st.h (row.map ai) b with
  | false =>
   exists jC.tt ?_
   cases j with
   | zero => rw [u0 hok.ok fun c hc => by have := y.head c hc; exact J7 22 this hb] at hfit; cases hfit
   | succ j => exact jx.nx (by kd_all) ⟨j, f0 _, fun Z zz => zz _ (by exact J7 23 hb) (by exact J0 9 hj) (by rw [← hf]; conv => rhs; unfold pN; rw [if_neg (by rw [hfit]; simp)])⟩
  | true =>
   refine jC.ff ?_
   have hbp : b = place st.h st.m (row.map ai) := by
    rw [← hf]; cases j with
    | zero => rfl
    | succ j => unfold pN; rw [if_pos hfit]
   have hin : ∀ p ∈ row, 0 ≤ b + p.1 := fun p hp => by
    have h1 := y.head p.1 (aO (f := ai) hp)
    exact J19 17 h1 hge hbp
   rw [← hbp] at e
   exists jn (m9 (tt := false) (fun h => nomatch h) (wQ (f := PV.int) ?_))
   refine hgr ?_
   let I3 : IT jt := fun j Z => Z [cc "some" (jY R), lc "at" (.int num), cc "firsts" (.lst (o4 (ko R))), lc "line" (.lst ((nB (o6 R)).map kY)), cc "held" (.ref ah), cc "places" (.ref ap), lc "size" (.int sz), cc "place" (.int b), lu "column", lu "ends", lu "cells", lu "marks", gb "sorted", gb "range", gb "len", gb "min", gb "max"] ((ap, .lst (jp st.b)) :: (ah, .dct (Dk kY (hput st.h b (num + 1) (row.take j)))) :: H)
   refine ⟨row, rfl, uK.T I3 (fun Z zz => zz) ?_ ?_⟩
   ·rintro j x hx
    rw [ax] at hx
    obtain ⟨p, hp, rfl⟩ := bc.mp hx
    have hpm := aS hp
    have hjl := (aA.mp hp).1
    exists m8 (by kd_in) ?_
    exists hgr ?_
    exists my (f := PV.int) Vw.refl (hrow.srt.get hpm) ?_
    exists kK (f := kY) (x := (p.2, num + 1)) rfl (by wtm_at "updh") (by
     rw [am]
     have := tC (b := b) (o := num + 1) (row := row.take j) (h := st.h)
     have h2 : (row.take j).length ≤ row.length := (ef j row).length_le
     have := hrow.len
     exact J19 18 h2 ‹_› this hhl) ?_
    rw [← um, ← kd hp]
    exact jx.nx (by kd_all) (fun Z zz => zz)
   ·show lm _ _ _ _ _ _
    rw [aa, aZ]
    kd_p
    refine mw (by wtm_at "updh") h0 (by exact J4 11 hlen h1) (by rw [aa, hbl]; exact J3 17 h1) ?_
    kd_p
    rw [qC]
    refine jx.nx (by kd_all) (Of.eqH ?_ (fun Z zz => zz))
    rw [e]
 ·show lm _ _ _ _ _ _
  rw [aa, (kk _).length_eq]
  rw [show (jq R).take (o6 R).length = jq R from br (by unfold jq; rw [aa, (kk _).length_eq]; exact aU _)]
  have hok := mK.all hR
  have htight := oN.all hR
  have hh := hw.lt (i := (jq R).length) (aU _)
  rw [aZ] at hh
  change mK R (kg R (jq R)) R.length at hok
  have hm := hok.m
  have hbl := hok.len
  exists jn (jD rfl (kR (uU P (by kd_mem) ?_)))
  exists lD (f := kY) (.dct (.tail _ (.head _))) hh fun as => ?_
  intro a1
  kd_p
  refine uP (.lst (.tail _ (.head _))) (.lst (.head _)) (by rw [aa, (qw _).length_eq, aa, am]; simp; exact J19 19 hh) fun a2 => ?_
  kd_p
  refine si (ns := srt ((kg R (jq R)).h.map ai) ++ [-1]) (.lst (by rw [aJ]; exact .head _)) (by simp) ?_
  kd_p
  rw [zy hok.ok htight (fun k => (qw _).mem_iff)]
  refine ⟨_, _, .three, ?_⟩
  kd_p1
  change mK R (jv R) R.length at hok
  change (jv R).m ≤ 64 * R.length at hm
  change (jv R).b.length = R.length at hbl
  change lm W n _ ((ap, .lst (jp (jv R).b)) :: (ah, .dct (Dk kY (jv R).h)) :: H) _ _
  have hgetv : ∀ c : Nat, ((jB (jv R).h (c : Int)).map kY).getD (.tup [.int 0, .int 0]) = kY ((jB (jv R).h (c : Int)).getD (0, 0)) := fun c => by
   cases jB (jv R).h (c : Int) <;> rfl
  exists jn (lB (α := Nat) (fun c => PV.int ((jB (jv R).h (c : Int)).getD (0, 0)).1) (by wtm_at "hcap") (jO ?_))
  refine ⟨(jv R).m, rfl, by exact J8 0 hm hlen, _, av (jv R).m, fun c => .int (c : Nat), by wtm_at "crho", rfl, by rw [aq, am]; exact J8 1 hm hlen, fun c hc => ⟨_, by kd_in, oj (x_get ?_)⟩, ?_⟩
  ·kd_p
   exists oC (f := kY) (.dct (.tail _ (.head _))) (hgetv c) ?_
   refine kJ (x := .int ((jB (jv R).h (c : Int)).getD (0, 0)).1) Vw.refl (by decide) rfl (by decide) ?_
   exact ⟨rfl, rfl⟩
  rw [show (av (jv R).m).map (fun c => PV.int ((jB (jv R).h ((c : Nat) : Int)).getD (0, 0)).1) = jp (lR R) by unfold lR pM; simp]
  kd_p1
  exists jn (lB (α := Nat) (fun c => PV.int ((jB (jv R).h (c : Int)).getD (0, 0)).2) (by wtm_at "hcap") (jO ?_))
  refine ⟨(jv R).m, rfl, by exact J8 0 hm hlen, _, av (jv R).m, fun c => .int (c : Nat), by wtm_at "crho", rfl, by rw [aq, am]; exact J8 1 hm hlen, fun c hc => ⟨_, by kd_in, oj (x_get ?_)⟩, ?_⟩
  ·kd_p
   exists oC (f := kY) (.dct (.tail _ (.head _))) (hgetv c) ?_
   refine kJ (x := .int ((jB (jv R).h (c : Int)).getD (0, 0)).2) Vw.refl (by decide) rfl (by decide) ?_
   exact ⟨rfl, rfl⟩
  rw [show (av (jv R).m).map (fun c => PV.int ((jB (jv R).h ((c : Nat) : Int)).getD (0, 0)).2) = jp (jS R) by unfold jS o8; simp]
  kd_p1
  exists jn (jR (kR (sB rfl (jA (ku (α := Nat) (fun o => PV.int ((jv R).b.getD o 0)) (by wtm_at "hcap") (jP ?_))))))
  refine ⟨_, rfl, _, ko R, fun o => .int (o : Nat), by wtm_at "crho", rfl, by rw [hol, am]; exact J0 5 hlen, fun o ho => ⟨_, by kd_in, ?_⟩, ?_⟩
  ·have := wU ho
   kd_p
   refine j9 (.lst (.head _)) (by exact J0 0) (by exact J0 2 hbl this) (by exact J0 10 hbl hlen) ?_
   exact ⟨rfl, rfl⟩
  rw [show (ko R).map (fun o => PV.int ((jv R).b.getD o 0)) = jp (km R) by unfold km; simp]
  kd_p
  exact ⟨_, _, .two, h⟩
theorem oG {b o c : Int} : ∀ {row : jN} {h : Hd}, (∀ p ∈ row, c ≠ b + p.1) → jB (hput h b o row) c = jB h c
 | [], h, _ => rfl
 | p :: row, h, hc => by
  rw [n3, oG fun q hq => hc q (.tail _ hq), m5, if_neg (hc p (.head _))]
theorem tD {b o : Int} : ∀ {row : jN} {h : Hd}, qR row → ∀ p ∈ row, jB (hput h b o row) (b + p.1) = some (p.2, o)
 | [], h, _, p, hp => by cases hp
 | q :: row, h, hs, p, hp => by
  rw [n3]
  unfold qR at hs
  rw [aC, cm] at hs
  rcases au.mp hp with rfl | hp
  ·rw [oG fun r hr => by have := hs.1 r.1 (aO (f := ai) hr); exact J19 20 this, m5, if_pos rfl]
  ·exact tD hs.2 p hp
theorem wh {R : List jN} : (jq R).Nodup := by
 unfold jq
 have hp : ((nB (o6 R)).map bB).Perm ((o6 R).map bB) := (kk _).map _
 rw [hp.nodup_iff]
 unfold o6
 rw [aX]
 unfold gk
 rw [bU]
 refine List.Pairwise.imp ?_ ((List.nodup_range (n := R.length)).filter (mQ R))
 intro a b hab e
 unfold rh at e
 simp only [cK] at e
 exact hab (by exact J1 20 e)
theorem zU {R : List jN} {i : Nat} (hi : i < R.length) (h : R.getD i [] ≠ []) (h2 : R.idxOf (R.getD i []) = i) : (i : Int) ∈ jq R := by
 unfold jq
 refine az.mpr ⟨rh R i, (kk _).mem_iff.mpr ?_, rfl⟩
 unfold o6
 refine az.mpr ⟨i, bz.mpr ⟨aM.mpr hi, ?_⟩, rfl⟩
 unfold mQ
 rw [decide_eq_true h2, decide_eq_true (bI.mpr h)]; rfl
structure pp (R : List jN) (L : List Int) (st : St) : Prop where
 a : ∀ o ∈ L, ∀ p ∈ R.getD o.toNat [], jB st.h (st.b.getD o.toNat 0 + p.1) = some (p.2, o + 1)
 b : ∀ c v k, jB st.h c = some (v, k) → ∃ o ∈ L, k = o + 1 ∧ ∃ p ∈ R.getD o.toNat [], c = st.b.getD o.toNat 0 + p.1 ∧ v = p.2
theorem pp.step {R : List jN} {L : List Int} {st : St} {num : Int} {i : Nat} (hR : j3 R) (ih : pp R L st) (hok : mK R st i) (hnd : num ∉ L) (hlow : ∀ o ∈ L, 0 ≤ o ∧ o.toNat < R.length) (hnm : num ∈ jq R) : pp R (L ++ [num]) (kq R st num) := by
 obtain ⟨h0, h1, h2, _⟩ := lH hnm
 have hrow := hR.row _ (jr (d := ([] : jN)) h1)
 have y := hrow.cols h2
 have hfit := wT hok.ok y
 have hbl := hok.len
 unfold kq
 generalize hb : place st.h st.m ((R.getD num.toNat []).map ai) = b at *
 have hfree : ∀ p ∈ R.getD num.toNat [], jB st.h (b + p.1) = none := fun p hp => by
  unfold mR at hfit
  rw [aV] at hfit
  have := hfit p.1 (aO (f := ai) hp)
  unfold Mine.Internal.hfree at this
  exact cP.mp this
 have hbo : ∀ o ∈ L, (st.b.set num.toNat b).getD o.toNat 0 = st.b.getD o.toNat 0 := fun o ho => by
  have hne : num.toNat ≠ o.toNat := fun q => by
   have := (hlow o ho).1
   have : num = o := by exact J19 21 this h0 q
   exact hnd (this ▸ ho)
  rw [aL, dD hne, ← aL]
 have hbn : (st.b.set num.toNat b).getD num.toNat 0 = b := by
  rw [aL, dl (by exact J19 22 hbl h1)]; rfl
 refine ⟨fun o ho p hp => ?_, fun c v k hc => ?_⟩
 ·simp only at hp ⊢
  rcases aQ.mp ho with ho | ho
  ·rw [hbo o ho]
   have := ih.a o ho p hp
   rw [oG fun q hq e => by rw [e, hfree q hq] at this; cases this]
   exact this
  ·simp at ho; subst ho
   rw [hbn]
   exact tD hrow.srt p hp
 ·simp only at hc
  by_cases q : ∃ p ∈ R.getD num.toNat [], c = b + p.1
  ·obtain ⟨p, hp, rfl⟩ := q
   rw [tD hrow.srt p hp] at hc
   cases hc
   exact ⟨num, by simp, rfl, p, hp, by rw [hbn], rfl⟩
  ·rw [oG fun p hp e => q ⟨p, hp, e⟩] at hc
   obtain ⟨o, ho, e1, p, hp, e2, e3⟩ := ih.b c v k hc
   exact ⟨o, bu _ ho, e1, p, hp, by rw [hbo o ho]; exact e2, e3⟩
theorem pp.take {R : List jN} (hR : j3 R) (i : Nat) : i ≤ (jq R).length → pp R ((jq R).take i) (kg R ((jq R).take i)) := by
 induction i with
 | zero => exact fun _ => by rw [cb]; exact ⟨by simp, fun c v k h => by simp [kg, jB] at h⟩
 | succ i ih =>
  intro hi
  have hat := aG (l := jq R) (i := i) (by exact J1 17 hi)
  rw [kd hat, lY]
  refine pp.step hR (ih (by exact J0 9 hi)) (mK.take hR i (by exact J0 9 hi)) (fun q => ?_) (fun o ho => by have := lH (dE ho); exact ⟨this.1, this.2.1⟩) (bJ _)
  have h1 := wh (R := R)
  rw [show jq R = (jq R).take i ++ (jq R)[i] :: (jq R).drop (i + 1) by rw [bY, bS]] at h1
  exact (dy.mp h1).2.2 _ q _ (.head _) rfl
theorem pp.all {R : List jN} (hR : j3 R) : pp R (jq R) (jv R) := by
 have := pp.take hR (jq R).length (aU _)
 rw [aZ] at this; exact this
theorem xf {R : List jN} {i : Nat} (hi : i < R.length) : (ko R).getD i 0 = R.idxOf (R.getD i []) := by
 unfold ko; rw [aL, ax, jM (d := ([] : jN)) hi]; rfl
theorem B3 {R : List jN} {i : Nat} (hi : i < R.length) : (oI (ko R)).getD i 0 = (R.idxOf (R.getD i []) : Nat) := by
 rw [aL, ax, jM (d := 0) (by rw [jL]; exact hi), xf hi]; rfl
theorem wi {R : List jN} {i : Nat} (hi : i < R.length) : (km R).getD i 0 = (jv R).b.getD (R.idxOf (R.getD i [])) 0 := by
 unfold km; rw [aL, ax, jM (d := 0) (by rw [jL]; exact hi), xf hi]; rfl
theorem B4 {R : List jN} {d : jN} (h : d ∈ R) : R.getD (R.idxOf d) [] = d := by
 have := bW h
 rw [aL, aG this]; exact ie this
theorem yw {h : Hd} {m : Nat} {c : Nat} (hc : c < m) : (o8 h m).getD c 0 = ((jB h (c : Int)).getD (0, 0)).2 := by
 rw [aL, tm hc]; rfl
theorem yx {h : Hd} {m : Nat} {c : Nat} (hc : c < m) : (pM h m).getD c 0 = ((jB h (c : Int)).getD (0, 0)).1 := by
 rw [aL, uZ hc]; rfl
theorem wj {R : List jN} (hR : j3 R) {d : jN} (hd : d ∈ R) {c v : Int} : jB (jv R).h c = some (v, ((R.idxOf d : Nat) : Int) + 1) ↔ (c - (jv R).b.getD (R.idxOf d) 0, v) ∈ d := by
 have inv := pp.all hR
 have hid := B4 hd
 have hlt := bW hd
 constructor
 ·intro h
  obtain ⟨o, ho, e1, p, hp, e2, e3⟩ := inv.b _ _ _ h
  have : o = ((R.idxOf d : Nat) : Int) := by exact J19 23 e1
  subst this
  rw [ag, hid] at hp
  rw [ag] at e2
  rw [show c - (jv R).b.getD (R.idxOf d) 0 = p.1 by exact J20 0 e2, e3]; exact hp
 ·intro h
  have ho : ((R.idxOf d : Nat) : Int) ∈ jq R := zU hlt (by rw [hid]; exact List.ne_nil_of_mem h) (by rw [hid])
  have := inv.a _ ho (c - (jv R).b.getD (R.idxOf d) 0, v) (by rw [ag, hid]; exact h)
  rw [ag] at this
  rw [show (jv R).b.getD (R.idxOf d) 0 + (c - (jv R).b.getD (R.idxOf d) 0, v).1 = c by simp only; exact J20 1] at this
  exact this
theorem sq {R : List jN} (hR : j3 R) {i : Nat} (hi : i < R.length) {col : Int} : lI ((km R).getD i 0) (lR R) (jS R) ((oI (ko R)).getD i 0) col = jB (R.getD i []) col := by
 have hm := jr (d := ([] : jN)) hi
 have hs := (hR.row _ hm).srt
 have hok := (mK.all hR).ok
 rw [wi hi, B3 hi]
 have key : ∀ v, jB (jv R).h ((jv R).b.getD (R.idxOf (R.getD i [])) 0 + col) = some (v, ((R.idxOf (R.getD i []) : Nat) : Int) + 1) ↔ jB (R.getD i []) col = some v := fun v => by
  rw [wj hR hm, show (jv R).b.getD (R.idxOf (R.getD i [])) 0 + col - (jv R).b.getD (R.idxOf (R.getD i [])) 0 = col by exact J20 2]
  exact ⟨fun h => hs.get h, fun h => lw h⟩
 have ho0 : 0 ≤ ((R.idxOf (R.getD i []) : Nat) : Int) := fk _
 generalize (jv R).b.getD (R.idxOf (R.getD i [])) 0 = b at *
 generalize ((R.idxOf (R.getD i []) : Nat) : Int) = o at *
 have hnone : (∀ v, jB (jv R).h (b + col) ≠ some (v, o + 1)) → jB (R.getD i []) col = none := fun h => by
  cases e : jB (R.getD i []) col with
  | none => rfl
  | some v => exact absurd ((key v).mpr e) (h v)
 unfold lI
 by_cases h1 : b + col < 0
 ·rw [if_pos h1, hnone fun v q => by rw [hok.get0 (.inl h1)] at q; cases q]
 rw [if_neg h1]
 have hbc : (((b + col).toNat : Nat) : Int) = b + col := bP (by exact J3 2 h1)
 by_cases h2 : (b + col).toNat < (jv R).m
 ·have hC : (jS R)[(b + col).toNat]? = some ((jB (jv R).h (b + col)).getD (0, 0)).2 := by unfold jS; rw [tm h2, hbc]
  have hT : (lR R)[(b + col).toNat]? = some ((jB (jv R).h (b + col)).getD (0, 0)).1 := by unfold lR; rw [uZ h2, hbc]
  rw [hC, hT]
  simp only
  cases e : jB (jv R).h (b + col) with
  | none =>
   rw [hnone fun v q => by rw [e] at q; cases q]
   simp only [iL]
   rw [if_neg (by exact J8 2 ho0)]
  | some x =>
   obtain ⟨v, k⟩ := x
   simp only [cM]
   by_cases h3 : k = o + 1
   ·rw [if_pos h3]
    subst h3
    exact ((key v).mp e).symm
   ·rw [if_neg h3, hnone fun v' q => by rw [e] at q; cases q; exact h3 rfl]
 ·have hC : (jS R)[(b + col).toNat]? = none := a8 (by unfold jS; rw [ky]; exact J8 3 h2)
  rw [hC, hnone fun v q => by rw [hok.get0 (.inr (by exact J20 3 h2 hbc))] at q; cases q]
theorem yy {d e : jN} (hd : qR d) (he : qR e) (h : ∀ x, x ∈ d ↔ x ∈ e) : d = e := by
 have hp : d.Perm e := (List.perm_ext_iff_of_nodup (nS hd.nodup) (nS he.nodup)).mpr h
 unfold qR at hd he
 rw [bU] at hd he
 refine vK (R := fun a b => a.1 < b.1 ∨ a = b) (fun a b q1 q2 => ?_) hp (hd.imp fun q => .inl q) (he.imp fun q => .inl q)
 rcases q1 with q1 | q1
 ·rcases q2 with q2 | q2
  ·lia
  ·exact q2.symm
 ·exact q1
theorem ve {R : List jN} (hR : j3 R) : lX (km R) (lR R) (jS R) (oI (ko R)) = R := by
 apply dA
 intro i
 by_cases hi : i < R.length
 ·have hm := jr (d := ([] : jN)) hi
  have hs := (hR.row _ hm).srt
  have hok := (mK.all hR).ok
  have hlt := bW hm
  have hid := B4 hm
  have hlen : (jS R).length = (jv R).m := by unfold jS; exact ky
  rw [jM (d := ([] : jN)) hi]
  unfold lX
  rw [ax, jM (L := oI (ko R)) (d := 0) (by rw [aa, jL]; exact hi), B3 hi, gx]
  congr 1
  refine yy mL hs fun x => ?_
  have hb : (km R).getD (((R.idxOf (R.getD i []) : Nat) : Int)).toNat 0 = (jv R).b.getD (R.idxOf (R.getD i [])) 0 := by
   rw [ag, wi hlt, hid]
  unfold jy
  rw [fy, hb, hlen]
  have hh := fun c v => wj hR hm (c := c) (v := v)
  have ho0 : 0 ≤ ((R.idxOf (R.getD i []) : Nat) : Int) := fk _
  generalize (jv R).b.getD (R.idxOf (R.getD i [])) 0 = b at *
  generalize ((R.idxOf (R.getD i []) : Nat) : Int) = o at *
  constructor
  ·rintro ⟨c, hc, e⟩
   have hc := aM.mp hc
   unfold jS lR at e
   rw [yw hc, yx hc] at e
   cases q : jB (jv R).h (c : Int) with
   | none =>
    rw [q] at e
    simp only [iL] at e
    rw [if_neg (by exact J8 2 ho0)] at e; cases e
   | some y =>
    obtain ⟨v, k⟩ := y
    rw [q] at e
    simp only [cM] at e
    by_cases z : k = o + 1
    ·rw [if_pos z] at e
     cases e
     subst z
     exact (hh _ _).mp q
    ·rw [if_neg z] at e; cases e
  ·intro hx
   have := (hh (x.1 + b) x.2).mpr (by rw [show x.1 + b - b = x.1 by exact J8 4]; exact hx)
   have hl := hok.low _ (lw this)
   have hg := hok.high _ (lw this)
   simp only at hl hg
   refine ⟨(x.1 + b).toNat, aM.mpr (by exact J4 12 hl hg), ?_⟩
   unfold jS lR
   rw [yw (by exact J4 12 hl hg), yx (by exact J4 12 hl hg), bP hl, this]
   simp only [cM, if_pos]
   rw [show x.1 + b - b = x.1 by exact J8 4]
 ·rw [a8 (by unfold lX; rw [aa, aa, jL]; exact J1 0 hi), a8 (by exact J1 0 hi)]
theorem z9 {R : List jN} (hR : j3 R) : ∀ k ∈ jS R, 0 ≤ k ∧ k ≤ R.length := fun k hk => by
 unfold jS o8 at hk
 obtain ⟨c, hc, rfl⟩ := az.mp hk
 cases e : jB (jv R).h (c : Int) with
 | none => simp
 | some y =>
  obtain ⟨v, k⟩ := y
  obtain ⟨o, ho, rfl, _⟩ := (pp.all hR).b _ _ _ e
  have := lH ho
  simp only [cM]; lia
theorem B5 {R : List jN} (hR : j3 R) : yg (km R) (lR R) (jS R) (oI (ko R)) := by
 have h1 := (mK.all hR).m
 have h2 := hR.len
 refine ⟨by rw [nO, aa, jL], by unfold lR jS; rw [kN, ky], fun o ho => ?_, fun k hk => ?_, by rw [aa, jL]; exact h2, by unfold jS; rw [ky]; exact J6 21 h1 h2⟩
 ·obtain ⟨x, hx, rfl⟩ := az.mp ho
  have := wU hx
  rw [aa, jL]; exact J20 4 this
 ·have := z9 hR k hk
  rw [aa, jL]; exact this
theorem pU {k : Nat} {i : Int} : oR k (.int i) := by cases k <;> exact trivial
theorem Em {k : Nat} {i : Str} : oR k (.str i) := by cases k <;> exact trivial
theorem B6 {k : Nat} : oR k .none := by cases k <;> exact trivial
theorem B7 {k : Nat} {o : Option Int} : oR k (vX o) := by cases o <;> first | exact B6 | exact pU
theorem yz {k : Nat} {xs : List PV} (h : ∀ x ∈ xs, oR k x) : oR (k + 1) (.lst xs) := h
theorem sr {k : Nat} {xs : List PV} (h : ∀ x ∈ xs, oR k x) : oR (k + 1) (.tup xs) := h
theorem k4 {α : Type} {k : Nat} {L : List α} {f : α → PV} (h : ∀ x, oR k (f x)) : oR (k + 1) (.lst (L.map f)) := yz fun x hx => by obtain ⟨y, _, rfl⟩ := az.mp hx; exact h y
theorem vf {k : Nat} {L : List Int} : oR (k + 1) (.lst (jp L)) := k4 fun _ => pU
theorem yA {k : Nat} {L : List Nat} : oR (k + 1) (.lst (o4 L)) := k4 fun _ => pU
theorem wl {k : Nat} {L : List Int} : oR (k + 1) (.tup (jp L)) := sr fun x hx => by obtain ⟨y, _, rfl⟩ := az.mp hx; exact pU
theorem qO {k : Nat} {d : jN} : oR (k + 1) (jW d) := ⟨d.map fun p => (p.1, PV.int p.2), by simp [Dk], fun p hp => by obtain ⟨y, _, rfl⟩ := az.mp hp; exact pU⟩
theorem pq {k : Nat} {x : PV} {xs : List PV} (h : oR k x) (h' : ∀ y ∈ xs, oR k y) : ∀ y ∈ x :: xs, oR k y := fun y hy => by
 rcases au.mp hy with rfl | hy
 ·exact h
 ·exact h' y hy
theorem vg {k : Nat} : ∀ y ∈ ([] : List PV), oR k y := fun y hy => by cases hy
inductive GT (W : Wd) (n : Nat) (r : jt) (x : Str) (body : List Stmt) (Q : jJ) (p : PV) (H1 : HH) : Prop
 | mk (lo hi : Int) (e : p = .rng lo hi) (b : -(2 ^ 62) ≤ lo ∧ lo < 2 ^ 62 ∧ -(2 ^ 62) ≤ hi ∧ hi < 2 ^ 62) (I : (CR) → Prop) (i0 : Of I r H1)
   (step : ∀ k, lo ≤ k → k < hi → I (CK W n x (.int k) body (jx W (Of I) Q))) (fin : I (Q .next))
theorem Dz {x px iter body pos} {Q : jJ} (h : Ev W n r H iter (GT W n r x body Q))
  (hs : autoParam (∀ env x, foldedSetIterable iter env x = pure x) aI) : Ex W n r H (.For (.Name x px) iter body [] pos) Q :=
 m9 (tt := false) (fun h => nomatch h) (te (h.mono fun p H1 h => by
  obtain ⟨lo, hi, e, hb, I, h0, step, done⟩ := h
  exact ⟨lo, hi, e, hb, fun _ => Of I, h0, fun i x' r' H' hx hI => by
  rw [ax] at hx
  obtain ⟨y, hy, rfl⟩ := bc.mp hx
  have hi' := (aA.mp hy).1
  rw [k8] at hi'
  rw [sO hi'] at hy
  cases hy
  obtain ⟨r2, U, E⟩ := hI _ (step (lo + (i : Int)) (by exact J20 5) (by exact J20 6 hi'))
  exact m8 U E, fun r' H' hI => hI _ done⟩)) hs
theorem vh {L : List Int} : (L.filter fun k => decide (k = 0)).length = L.count 0 := by
 rw [List.count_eq_length_filter]
 congr 1
theorem wm (P : PW W) {R : List jN} (hne : 0 < R.length) (hl : R.length ≤ 5) (hB : ∀ d ∈ R, nR d 6) (h : Q (.bool true) H) : jZ W (n + 9) H (.ref 624) [jY R] Q := by
 have hR : j3 R := ⟨fun d hd => (hB d hd).ok (by decide), by exact J2 3 hl⟩
 have hS : rT R 6 := ⟨fun d hd => (hB d hd).len, by exact J20 7 hl⟩
 have hA := B5 hR
 have hRs : (R.map jW).length ≤ sizeLine := by rw [aa, am]; exact J4 13 hl
 have hm := (mK.all hR).m
 have hml : (jS R).length = (jv R).m := by unfold jS; exact ky
 have htl : (lR R).length = (jv R).m := by unfold lR; exact kN
 wtm_at "def"
 exists jn (om rfl rfl (ny P (by kd_mem) ?_))
 refine lz P hR hS (mW (xs := ["places", "cells", "marks", "firsts"]) (ps := [.lst (jp (km R)), .lst (jp (lR R)), .lst (jp (jS R)), .lst (o4 (ko R))]) Vw.refl rfl (.cons (by kd_in) (.cons (by kd_in) (.cons (by kd_in) (.cons (by kd_in) .nil)))) ?_)
 kd_p1
 kd_p1
 exists ny P (by kd_mem) ?_
 exists rL P hR ?_
 exists jT 2 (by decide) .refl .refl (by wtm_at "dat") (fun es => by simp) ?_
 exists pe P (fun d hd => (hR.row d hd).srt) (fun d hd => (hR.row d hd).len) hR.len ?_
 exists jT 1 (by decide) .refl .refl (by wtm_at "dat") (fun es => by simp) ?_
 have hbl : (km R).length = R.length := nO
 have hol : (ko R).length = R.length := jL
 exists jI ?_
 let I1 : IT jt := fun i Z => Z [lc "some" (jY R), lc "places" (.lst (jp (km R))), lc "cells" (.lst (jp (lR R))), lc "marks" (.lst (jp (jS R))), lc "firsts" (.lst (o4 (ko R))), lc "heard" (yk R), lu "at", lu "column", lu "held", lu "back", gb "_law_first_fit", gb "pack_rows", gb "owners_of", gb "range", gb "len", gb "look_up", gb "packed_rows"] H
 refine ⟨R.length, by rw [aa], by exact J2 4 hl, I1, fun Z zz => zz, ?_, ?_⟩
 ·rintro i hi
  refine ⟨_, by kd_in, ?_⟩
  exists jn (Dz ?_)
  let I2 : (CR) → Prop := fun Z => Z [lc "some" (jY R), lc "places" (.lst (jp (km R))), lc "cells" (.lst (jp (lR R))), lc "marks" (.lst (jp (jS R))), lc "firsts" (.lst (o4 (ko R))), lc "heard" (yk R), lc "at" (.int (i : Nat)), lu "column", lu "held", lu "back", gb "_law_first_fit", gb "pack_rows", gb "owners_of", gb "range", gb "len", gb "look_up", gb "packed_rows"] H
  refine ⟨-3, 10, rfl, by decide, I2, fun Z zz => zz, ?_, ?_⟩
  ·rintro k hk0 hk1
   refine ⟨_, by kd_in, ?_⟩
   exists jn (kI (jU (ny P (by kd_mem) ?_)))
   exists kJ (x := .lst (jp (km R))) Vw.refl (by decide) rfl (by decide) ?_
   exists kJ (x := .lst (jp (lR R))) Vw.refl (by decide) rfl (by decide) ?_
   exists kJ (x := .lst (jp (jS R))) Vw.refl (by decide) rfl (by decide) ?_
   refine GS Vw.refl (by exact J0 0) (by exact J0 2 hol hi) (by exact J3 3 hl hol) ?_
   rw [ag]
   kd_p
   refine rj P (by exact J0 4 hbl hi) (by exact J3 3 hl hbl) (by exact J20 8 htl hml) (by exact J3 4 hl hm htl) ?_
   have hlk := sq hR hi (col := k)
   rw [B3 hi] at hlk
   rw [xf hi, hlk]
   exists x_get ?_
   refine pn Vw.refl (by exact J0 0) (by exact J0 1 hi) (by exact J20 9 hl hi) ?_
   rw [ag]
   kd_p
   refine uo (f := PV.int) (v := vX (jB (R.getD i []) k)) Vw.refl (by cases jB (R.getD i []) k <;> rfl) ?_
   refine jT 0 (by decide) .refl .refl B7 (fun es => by cases jB (R.getD i []) k <;> simp [vX]) ?_
   kd_p
   exact jx.nx (by kd_all) (fun Z zz => zz)
  ·show lm _ _ _ _ _ _
   kd_p
   exact jx.nx (by kd_all) (fun Z zz => zz)
 show lm _ _ _ _ _ _
 kd_p1
 kd_p1
 exists ny P (by kd_mem) ?_
 exists kz P hR ?_
 exists Fj P (by exact J3 4 hl hm hml) ?_
 refine oz P (by exact J3 4 hl hm htl) ?_
 have hst := pO (L := lR R) (by exact J3 4 hl hm htl)
 kd_p
 exists ue Vw.refl ?_
 rw [aa, vh]
 exists jT 1 (by decide) .refl .refl (by wtm_at "dat") (fun es => by simp) ?_
 refine tp P hA fun D bs hbs => ?_
 rw [ve hR]
 rw [aa, hol] at hbs
 kd_p
 refine jT (t := jY R) 1 (by decide) (.lst (.head _) (wX hbs fun p hp => .tail _ (bu _ hp))) .refl (k4 fun _ => qO) (fun es => by simp) ?_
 wtm_at "w1"
 wtm_at "mo"
 obtain ⟨d0, R', rfl⟩ : ∃ d0 R', R = d0 :: R' := by
  cases R with
  | nil => simp at hne
  | cons d0 R' => exact ⟨d0, R', rfl⟩
 obtain ⟨b0, bs', rfl⟩ : ∃ b0 bs', bs = b0 :: bs' := by
  cases bs with
  | nil => simp at hbs
  | cons b0 bs' => exact ⟨b0, bs', rfl⟩
 refine jz (x := .ref b0) (.lst (.head _)) (by decide) rfl (by decide) ?_
 wtm_at "mo"
 refine kK (f := PV.int) (x := 1) (d := d0) (H' := (D, .lst ((b0 :: bs').map .ref)) :: (b0, .dct (Dk .int (dset d0 77 1))) :: (slots bs' (dS R') ++ H)) rfl (.tail .head) (mh (by have := (hB d0 (.head _)).len; exact J7 18 this)) ?_
 have hl2 : ((b0 :: bs').map PV.ref).length ≤ sizeLine := by rw [aa, am]; exact J20 10 hl hbs
 exists jn (jR (kR (uW (m7 (xQ ?_)))))
 exists ⟨_, 1, .lst (.head _), rfl, hl2, fun a1 => xQ ?_⟩
 refine ⟨_, 1, Vw.refl, rfl, hRs, fun a2 => ?_⟩
 refine qs (t := jY R') 1 (by decide) (.lst (.tail _ (.head _)) (wX (by simpa using hbs) fun p hp => .tail _ (.tail _ (.tail _ (.tail _ (bu _ hp)))))) (.lst (.head _) .refl) (k4 fun _ => qO) ?_
 exists ⟨_, rfl, jC.tt ?_⟩
 refine oA P hA ?_
 rw [ve hR]
 kd_p
 refine qs (t := jY (d0 :: R')) 1 (by decide) .refl .refl (k4 fun _ => qO) ?_
 exact ⟨H, _, .r (.r (.r (.r jK.slots))), h⟩
noncomputable abbrev IB (W : Wd) (n : Nat) (x : Str) (v : PV) (cr : jt) (elt : Expr) (i : Nat) (I : (CL) → Prop) : CL := fun ys H => ys.length = i → lL x v cr fun r => Ev W n r H elt fun q => Of I (ys ++ [q])
noncomputable abbrev IC (m : Nat) (K : CL) : CL := fun ys H => ys.length = m → K ys H
inductive Fq {α : Type} (W : Wd) (n : Nat) (r : jt) (elt : Expr) (x : Str) (scope : Scope) (K : CL) (xs : List PV) (H1 : HH) : Prop
 | mk (cr : jt) (L : List α) (g : α → PV) (I : IT (List PV)) (cp : k9 r scope.names cr) (e : xs = L.map g) (hz : L.length ≤ sizeLine) (i0 : Of (I 0) [] H1)
   (step : ∀ i a, L[i]? = some a → I i (IB W n x (g a) cr elt i (I (i + 1))))
   (fin : I L.length (IC L.length K))
theorem wn {Q : CV} {α : Type} {elt iter : Expr} {x : Str} {scope : Scope} {K : CL}
  (h : tP W false n r H iter (Fq (α := α) W n r elt x scope K)) (hK : ∀ ys H', K ys H' → ∀ D, Q (.ref D) ((D, .lst ys) :: H')) : yV W n r H elt x iter [] scope Q := fun A env fa G s R hr f => by
 refine jH (h A env fa G s R hr f) fun xv s1 h1 => jH h1 fun it s2 h2 => ?_
 obtain ⟨G2, I, fp, wr, xs, H2, St, a, b, c, d, e, e2, f1, g, h, ⟨cr, L, gg, Inv, cp, rfl, hz, i0, step, fin⟩⟩ := h2
 refine ⟨G2, I, fp, wr, _, H2, St, a, b, c, d, e, e2, f1, g, h, cr, fun i ys H' => ys.length = i ∧ i ≤ L.length ∧ Of (Inv i) ys H', cp, ⟨rfl, bF _, i0⟩, fun i ys H' q => by rw [q.1]; exact bj q.2.1 hz, fun i p ys H' hx q => ?_, fun ys H' q D => ?_⟩
 ·obtain ⟨q1, q2, q3⟩ := q
  rw [ax] at hx
  obtain ⟨a, ha, rfl⟩ := bc.mp hx
  obtain ⟨r2, U, E⟩ := q3 _ (step i a ha) q1
  exact ⟨r2, U, jC.tt (E.mono fun q H3 hq => ⟨by simp [q1], (aA.mp ha).1, hq⟩)⟩
 ·rw [aa] at q
  exact hK _ _ (q.2.2 _ fin q.1) D
noncomputable abbrev ID (Q : CV) : CL := fun ys H => Q (.lst ys) H
noncomputable abbrev IE (t : Str) (r : jt) (Q : jJ) : CL := fun ys H => lL t (.lst ys) r fun r' => Q .next r' H
theorem xg {Q : CV} {α : Type} {elt iter : Expr} {x : Str} {px pos : Pos} {scope : Scope} (hcap : ∃ cr, k9 r scope.names cr)
  (h : tP W false n r H iter (Fq (α := α) W n r elt x scope (ID Q)))
  (hk : autoParam (scope.kind = .function) aF) (hn : autoParam ((scope.names.map ai).Nodup) aN) (hs : autoParam (∀ env x, foldedSetIterable iter env x = pure x) aI) :
  Ev W n r H (.ListComp elt [⟨.Name x px, iter, [], 0⟩] scope pos) Q :=
 li (qr hcap (wn h fun ys H' q D => ⟨D, _, _, rfl, rfl, q⟩) hk hn hs)
theorem qb {t pt spos} {Q : jJ} {α : Type} {elt iter : Expr} {x : Str} {px pos : Pos} {scope : Scope} (hcap : ∃ cr, k9 r scope.names cr)
  (h : tP W false n r H iter (Fq (α := α) W n r elt x scope (IE t r Q)))
  (hk : autoParam (scope.kind = .function) aF) (hn : autoParam ((scope.names.map ai).Nodup) aN) (hs : autoParam (∀ env x, foldedSetIterable iter env x = pure x) aI) :
  Ex W n r H (.Assign [.Name t pt] (.ListComp elt [⟨.Name x px, iter, [], 0⟩] scope pos) spos) Q :=
 uV fun Q' hQ => nc hcap (wn h fun ys H' q D => by obtain ⟨r', U, z⟩ := q; exact hQ D _ _ r' U z) hk hn hs
theorem wo {α : Type} {xs : List α} {x : α} : (xs ++ [x])[((-1 : Int) + (xs ++ [x]).length).toNat]? = some x := by
 have : ((-1 : Int) + (xs ++ [x]).length).toNat = xs.length := by simp; exact J8 5
 rw [this]; simp
structure nw (lines tags : List (List Int)) (cnt : Nat) : Prop where
 s0 : 0 < lines.length
 s1 : lines.length ≤ 10
 c0 : 0 < cnt
 c1 : cnt ≤ 3
 sc : lines.length * cnt < 64
 row : ∀ l ∈ lines, l.length = cnt
 ent : ∀ l ∈ lines, ∀ v ∈ l, -1 ≤ v ∧ v < lines.length
 tag : tags.length = lines.length
structure xh (l : List Int) (cnt size : Nat) : Prop where
 len : l.length = cnt
 ent : ∀ v ∈ l, -1 ≤ v ∧ v < (size : Int)
theorem wp (P : PW W) {K : HO → HH} {p : Addr} (U : ∀ o o', kQ p o o' (K o) (K o')) {ns : List Int} {sp gr : Int} (hz : ns.length ≤ 64) (h0 : 0 ≤ sp) (h1 : sp ≤ 500000) (hg : 0 ≤ gr)
  (hq : ∀ (lines tags : List (List Int)) (cnt : Nat) (sp' gr' : Int), nw lines tags cnt → 0 ≤ sp' → sp' ≤ sp + 1000 → 0 ≤ gr' → Q (.tup [j5 lines, n6 tags]) (K (kr ns sp' gr'))) : jZ W (n + 3) (K (kr ns sp gr)) (.ref 673) [.ref p] Q := by
 wtm_at "def"
 exists jn (jD rfl (kR (ny P (by kd_mem) ?_)))
 intro al
 kd_p
 refine oF (K := fun o => (al, .lst [.int 1, .int 2, .int 3, .int 4, .int 10]) :: K o) P (fun o o' => .tail (U o o')) (fun o => .lst (.head _)) (by decide) (by decide) hz h0 (by exact J3 0 h1) hg fun x hx sp1 gr1 s0 s1 g0 => ?_
 refine ⟨_, _, .one, ?_⟩
 obtain ⟨size, rfl, hs0, hs1⟩ : ∃ size : Nat, x = .int (size : Nat) ∧ 0 < size ∧ (size ≤ 4 ∨ size = 10) := by
  simp only [au, bw, or_false] at hx
  rcases hx with rfl | rfl | rfl | rfl | rfl
  ·exact ⟨1, rfl, by decide, by decide⟩
  ·exact ⟨2, rfl, by decide, by decide⟩
  ·exact ⟨3, rfl, by decide, by decide⟩
  ·exact ⟨4, rfl, by decide, by decide⟩
  ·exact ⟨10, rfl, by decide, by decide⟩
 kd_p1
 refine jn (jD rfl (Ev.mono (Q := fun v H' => ∃ (cnt : Nat) (sp' gr' : Int), v = .int (cnt : Nat) ∧ H' = K (kr ns sp' gr') ∧ 0 < cnt ∧ cnt ≤ 3 ∧ size * cnt < 64 ∧ 0 ≤ sp' ∧ sp' ≤ sp1 + 1 ∧ 0 ≤ gr') (kP ?_) ?_))
 ·kd_p
  refine jC.dec (fun h2 => ?_) fun h2 => ?_
  ·kd_p
   exists ke P U hz s0 (by exact J4 14 s1 h1) g0 (by decide) (by decide) fun d sp' gr' hd0 hd1 q0 q1 q2 => ?_
   have : size ≤ 4 := by exact J20 11 h2 hs1
   refine ⟨(1 + d).toNat, sp', gr', by rw [bP (by exact J8 6 hd0)], rfl, by exact J8 7 hd0, by exact J8 8 hd1, ?_, q0, q1, q2⟩
   have : size * (1 + d).toNat ≤ 4 * 3 := fA this (by exact J8 8 hd1)
   exact J20 12 this
  ·kd_p
   exists ke P U hz s0 (by exact J4 14 s1 h1) g0 (by decide) (by decide) fun d sp' gr' hd0 hd1 q0 q1 q2 => ?_
   refine ⟨(1 + d).toNat, sp', gr', by rw [bP (by exact J8 6 hd0)], rfl, by exact J8 7 hd0, by exact J20 13 hd1, ?_, q0, q1, q2⟩
   have : size * (1 + d).toNat ≤ 10 * 2 := fA (by exact J20 14 hs1) (by exact J20 15 hd1)
   exact J20 16 this
 rintro v H' ⟨cnt, sp2, gr2, rfl, rfl, hc0, hc1, hsc, s2, s3, g2⟩
 kd_p
 intro ll
 kd_p
 exists jI ?_
 let I1 : IT jt := fun i Z => ∀ (L : List (List Int)) (sp' gr' : Int), L.length = i → (∀ l ∈ L, xh l cnt size) → 0 ≤ sp' → sp' ≤ sp2 + 10 * i → 0 ≤ gr' → Z [cc "pen" (.ref p), cc "size" (.int (size : Nat)), lc "count" (.int (cnt : Nat)), lc "lines" (.ref ll), lu "state", gb "_law_pick", gb "_law_draw", gb "range", gb "list"] ((ll, .lst (L.map fun l => .lst (jp l))) :: K (kr ns sp' gr'))
 refine ⟨size, rfl, by exact J20 17 hs1, I1, fun Z zz => zz [] sp2 gr2 rfl (by simp) s2 (by exact J3 1) g2, ?_, ?_⟩
 ·rintro i hi L sp3 gr3 hLl hL s4 s5 g3
  have hLs : (L.map fun l => PV.lst (jp l)).length ≤ sizeLine := by rw [aa, am]; exact J20 18 hLl hi hs1
  have adds : ∀ {l : List Int}, xh l cnt size → ∀ m ∈ L ++ [l], xh m cnt size := fun hl m hm => by
   rcases aQ.mp hm with hm | hm
   ·exact hL m hm
   ·simp at hm; subst hm; exact hl
  refine ⟨_, by kd_in, ?_⟩
  refine jn (kI (Tv.mono (Q' := fun b H' => ∃ sp' gr' : Int, H' = (ll, .lst (L.map fun l => .lst (jp l))) :: K (kr ns sp' gr') ∧ (b = true → L ≠ []) ∧ 0 ≤ sp' ∧ sp' ≤ sp3 + 1 ∧ 0 ≤ gr') (nJ (pf (jU ?_))) ?_))
  ·kd_p
   intro ae
   kd_p
   exists nD (.lst (.tail _ (.head _))) (.lst (.head _)) ?_
   refine ⟨_, _, .one, ?_⟩
   rw [show (!(L.map fun l => PV.lst (jp l)).isEmpty) = decide (L ≠ []) by cases L <;> simp]
   refine jC.dec (fun h3 => ?_) fun h3 => ?_
   ·kd_p
    exists ke (K := fun o => (ll, .lst (L.map fun l => .lst (jp l))) :: K o) P (fun o o' => .tail (U o o')) hz s4 (by exact J20 19 s3 s1 s5 h1 hi hs1) g3 (by decide) (by decide) fun d sp' gr' hd0 hd1 q0 q1 q2 => ?_
    refine jC.by (fun _ => ?_) fun _ => ?_
    ·kd_p
     exact ⟨sp', gr', rfl, fun _ => h3, q0, q1, q2⟩
    ·exact ⟨sp', gr', rfl, fun q => (by cases q), q0, q1, q2⟩
   ·exact ⟨sp3, gr3, rfl, fun q => (by cases q), s4, by exact J2 23, g3⟩
  rintro b H' ⟨sp4, gr4, rfl, hb, s6, s7, g4⟩
  refine jC.by (fun h3 => ?_) fun h3 => ?_
  ·have hne := hb h3
   have hpos := bI.mpr hne
   exists jn (lx rfl (lb ?_))
   refine oF (K := fun o => (ll, .lst (L.map fun l => .lst (jp l))) :: K o) P (fun o o' => .tail (U o o')) (fun o => .lst (.head _)) (by rw [aa]; exact hpos) (by rw [aa]; exact J20 20 hLl hi hs1) hz s6 (by exact J20 21 s7 s3 s1 s5 h1 hi hs1) g4 fun x hx sp5 gr5 s8 s9 g5 => ?_
   obtain ⟨l, hl, rfl⟩ := az.mp hx
   have hlk := hL l hl
   have hll := hlk.len
   kd_p
   exists q9 Vw.refl (pO (by exact J0 6 hc1 hll)) fun al => ?_
   exists ke (K := fun o => (al, .lst (jp l)) :: (ll, HO.lst ((L.map fun l => PV.lst (jp l)) ++ [PV.ref al])) :: K o) P (fun o o' => .tail (.tail (U o o'))) hz s8 (by exact J20 22 s9 s3 s7 s1 s5 h1 hi hs1) g5 (by exact J4 15) (by exact J8 9 hs1) fun d sp6 gr6 hd0 hd1 s10 s11 g6 => ?_
   refine nY (x := .ref al) (.lst (.tail _ (.head _))) (by decide) (by simp; exact J8 10) wo (by decide) ?_
   kd_p
   exists ke (K := fun o => (al, .lst (jp l)) :: (ll, HO.lst ((L.map fun l => PV.lst (jp l)) ++ [PV.ref al])) :: K o) P (fun o o' => .tail (.tail (U o o'))) hz s10 (by exact J20 23 s3 s11 s1 s7 s9 s5 h1 hi hs1) g6 (by exact J0 14 hc0) (by exact J8 11 hc1) fun d2 sp7 gr7 hd2 hd3 s12 s13 g7 => ?_
   refine mw .head hd2 (by exact J21 0 hc1 hd3) (by rw [aa]; exact J21 1 hll hd3) ?_
   kd_p
   rw [qC]
   refine jx.fz .one (by kd_all) (.lst (nA.snoc (.lst (.head _) .refl)) mV.refl) (Of.eqH (by rw [aJ]; rfl) (fun Z zz => zz (L ++ [l.set d2.toNat (d - 1)]) sp7 gr7 (by simp [hLl]) (adds ⟨by simp [hll], fun v hv => ?_⟩) s12 (by exact J21 2 s13 s9 s7 s11 s5) g7))
   rcases List.mem_or_eq_of_mem_set hv with hv | rfl
   ·exact hlk.ent v hv
   ·exact J21 3 hd0 hd1
  ·exists jn (lx rfl (lb ?_))
   exists xg (α := Nat) (by wtm_at "hcap") (jO ?_)
   let I2 : IT (List PV) := fun i Z => ∀ (l : List Int) (sp' gr' : Int), (∀ v ∈ l, -1 ≤ v ∧ v < (size : Int)) → 0 ≤ sp' → sp' ≤ sp4 + i → 0 ≤ gr' → Z (jp l) ((ll, .lst (L.map fun l => .lst (jp l))) :: K (kr ns sp' gr'))
   refine ⟨cnt, rfl, by exact J1 5 hc1, _, av cnt, fun c => .int (c : Nat), I2, by wtm_at "crho", rfl, by rw [aq, am]; exact J2 5 hc1, fun Z zz => zz [] sp4 gr4 (by simp) s6 (by exact J0 18) g4, ?_, ?_⟩
   ·rintro j c hc l sp5 gr5 hl s8 s9 g5 hyl
    have hj := (aA.mp hc).1
    rw [aq] at hj
    exists ⟨_, by kd_in, ?_⟩
    exists ke (K := fun o => (ll, .lst (L.map fun l => .lst (jp l))) :: K o) P (fun o o' => .tail (U o o')) hz s8 (by exact J21 4 s7 s3 s1 s9 s5 h1 hc1 hi hj hs1) g5 (by exact J4 15) (by exact J8 9 hs1) fun d sp6 gr6 hd0 hd1 s10 s11 g6 => ?_
    refine Of.eq (by simp) (fun Z zz => zz (l ++ [d - 1]) sp6 gr6 (fun v hv => ?_) s10 (by exact J0 19 s11 s9) g6)
    rcases aQ.mp hv with hv | hv
    ·exact hl v hv
    ·simp at hv; exact J21 5 hd0 hd1 hv
   ·rintro l sp5 gr5 hl s8 s9 g5 hyl
    rw [aa, aq] at hyl
    rw [aq] at s9
    kd_p
    exact jx.nx (by kd_all) (Of.eqH (by rw [aJ]; rfl) (fun Z zz => zz (L ++ [l]) sp5 gr5 (by simp [hLl]) (adds ⟨hyl, hl⟩) s8 (by exact J21 6 s7 s9 s5 hc1) g5))
 ·rintro L sp3 gr3 hLl hL s4 s5 g3
  have hLsz : L.length ≤ 10 := by exact J21 7 hLl hs1
  refine mI (mG.frz (r' := [cc "pen" (.ref p), cc "size" (.int (size : Nat)), lc "count" (.int (cnt : Nat)), lc "lines" (j5 L), lu "state", gb "_law_pick", gb "_law_draw", gb "range", gb "list"]) .one (.same (.same (.same (.rfy (.lst (.head _) .refl) (by kd_all))))) mV.refl) ?_
  exists jn (jR ?_)
  exists xg (α := List Int) (by wtm_at "hcap") (jP ?_)
  let I3 : IT (List PV) := fun i Z => ∀ (tags : List (List Int)) (sp' gr' : Int), 0 ≤ sp' → sp' ≤ sp3 + i → 0 ≤ gr' → Z (tags.map (fun t => .tup (jp t))) (K (kr ns sp' gr'))
  refine ⟨_, rfl, _, L, fun l => .lst (jp l), I3, by wtm_at "crho", rfl, by rw [am]; exact J1 6 hLsz, fun Z zz => zz [] sp3 gr3 s4 (by exact J0 18) g3, ?_, ?_⟩
  ·rintro j c hc tags sp5 gr5 s8 s9 g5 hyl
   have hj := (aA.mp hc).1
   exists ⟨_, by kd_in, kR (ny P (by kd_mem) ?_)⟩
   intro a4
   kd_p
   refine oF (K := fun o => (a4, .lst [.tup (jp []), .tup (jp [0]), .tup (jp [0, 1]), .tup (jp [])]) :: K o) P (fun o o' => .tail (U o o')) (fun o => .lst (.head _)) (by decide) (by decide) hz s8 (by exact J21 8 s1 s3 s9 s5 h1 hLsz hLl hj) g5 fun x hx sp6 gr6 s10 s11 g6 => ?_
   refine ⟨_, _, .one, ?_⟩
   obtain ⟨t, rfl⟩ : ∃ t : List Int, x = .tup (jp t) := by
    simp only [au, bw, or_false] at hx
    rcases hx with rfl | rfl | rfl | rfl
    ·exact ⟨_, rfl⟩
    ·exact ⟨_, rfl⟩
    ·exact ⟨_, rfl⟩
    ·exact ⟨_, rfl⟩
   exact Of.eq (by rw [aJ]; rfl) (fun Z zz => zz (tags ++ [t]) sp6 gr6 s10 (by exact J0 19 s11 s9) g6)
  ·rintro tags sp5 gr5 s8 s9 g5 hyl
   rw [aa] at hyl
   kd_p
   exact hq L tags cnt sp5 gr5 ⟨by exact J6 4 hLl hs0, by exact J21 9 hLsz, hc0, hc1, by rw [hLl]; exact hsc, fun l hl => (hL l hl).len, fun l hl => by rw [hLl]; exact (hL l hl).ent, hyl⟩ s8 (by exact J21 10 s3 s1 s9 s5 hLsz hLl) g5
noncomputable def fL (lines : List (List Int)) (s c : Int) : Int := if s = -1 then -1 else (lines.getD s.toNat []).getD c.toNat 0
theorem nw.rng {lines tags : List (List Int)} {cnt : Nat} (x : nw lines tags cnt) {s c : Int} (h0 : -1 ≤ s) (h1 : s < lines.length) (h2 : 0 ≤ c) (h3 : c < cnt) : -1 ≤ fL lines s c ∧ fL lines s c < lines.length := by
 unfold fL
 split
 ·have := x.s0; exact J22 0
 ·have hl := jr (L := lines) (d := ([] : List Int)) (i := s.toNat) (by exact J22 1 h0 h1 ‹_›)
  have hc := x.row _ hl
  exact x.ent _ hl _ (jr (d := (0 : Int)) (by exact J22 2 h2 hc h3))
theorem xi {l : List Int} {p : Int → Bool} : (l.filter p).length = ((av l.length).filter fun t => p (l.getD t 0)).length := by
 induction l with
 | nil => rfl
 | cons a l ih =>
  have e : ((fun t => p ((a :: l).getD t 0)) ∘ ij) = fun t => p (l.getD t 0) := by funext t; rfl
  rw [dG, List.range_succ_eq_map, gf, gf, eQ, e, show (a :: l).getD 0 0 = a from rfl]
  split <;> simp [ih]
theorem xj (P : PW W) {lines tags : List (List Int)} {cnt : Nat} (x : nw lines tags cnt) {word : List Int} (hw : ∀ c ∈ word, 0 ≤ c ∧ c < cnt) (hwl : word.length ≤ 50) {start : Nat} (hst : start ≤ word.length) (h : Q (sf (fL lines) tags (word.drop start) start 0 .none) H) : jZ W (n + 1) H (.ref 680) [j5 lines, n6 tags, .lst (jp word), .int (start : Nat)] Q := by
 have xs0 := x.s0
 have xs1 := x.s1
 have xt := x.tag
 have hsz := pO (L := word) (by exact J8 15 hwl)
 generalize hres : sf (fL lines) tags (word.drop start) start 0 .none = res at *
 wtm_at "def"
 exists jn (k7 (xs := ["best", "state"]) rfl (by decide) (by first | exact .inl rfl | exact .inr rfl) ?_)
 exists ⟨_, _, rfl, .cons (by kd_in) (.cons (by kd_in) .nil), ?_⟩
 exists sn ?_
 rw [aa]
 let I1 : IT jt := fun i Z => ∀ (st : Int) (best : PV), 0 ≤ st → st < lines.length → sf (fL lines) tags (word.drop (start + i)) (start + i) st best = res → Z [lc "lines" (j5 lines), lc "marks" (n6 tags), lc "word" (.lst (jp word)), lc "start" (.int (start : Nat)), lc "best" best, lc "state" (.int st), lu "at", gb "range", gb "len"] H
 refine ⟨start, word.length, rfl, ⟨hst, by exact J22 3 hwl⟩, I1, fun Z zz => zz 0 .none (by exact J4 16) (by exact J0 14 xs0) hres, ?_, ?_⟩
 ·rintro i hi st best h0 h1 hf
  have hj : start + i < word.length := by exact J22 4 hi
  have hc := hw _ (jr (d := (0 : Int)) hj)
  have hdr : word.drop (start + i) = word.getD (start + i) 0 :: word.drop (start + i + 1) := by
   rw [fJ hj]; congr 1; rw [aL, aG hj]; rfl
  rw [hdr] at hf
  rw [rq] at hf
  have hr := x.rng (s := st) (by exact J22 5 h0) h1 hc.1 hc.2
  have hll := x.row _ (jr (L := lines) (d := ([] : List Int)) (i := st.toNat) (by exact J2 1 h1 xs0))
  have hfl : fL lines st (word.getD (start + i) 0) = (lines.getD st.toNat []).getD (word.getD (start + i) 0).toNat 0 := by unfold fL; rw [if_neg (by exact J22 6 h0)]
  exists ⟨_, by kd_in, ?_⟩
  exists kE Vw.refl h0 (by exact J2 1 h1 xs0) (by exact J8 16 xs1 h1) ?_
  refine j9 Vw.refl (by exact J22 7) (by exact J22 8 hj) (by exact J8 15 hwl) ?_
  rw [ag]
  have hcnt := x.c1
  wtm_at "w1"
  refine j9 Vw.refl hc.1 (by exact J8 17 hc hll) (by exact J0 6 hcnt hll) ?_
  rw [← hfl]
  generalize fL lines st (word.getD (start + i) 0) = st' at *
  kd_p
  refine jC.dec (fun h2 => ?_) fun h2 => ?_
  ·kd_p
   rw [if_pos h2] at hf
   rw [show best = res from hf]
   exact h
  rw [if_neg h2] at hf
  kd_p
  exists rp Vw.refl (by exact J1 2 hr h2) (by exact J1 13 hr xt xs0) (by exact J4 17 xs1 hr) ?_
  exists xR Vw.refl Vw.refl ?_
  by_cases h4 : tags.getD st'.toNat [] = []
  ·rw [h4]
   rw [if_pos h4] at hf
   exists jC.ff ?_
   exact jx.nx (by kd_all) (fun Z zz => zz st' best (by exact J1 2 hr h2) hr.2 hf)
  ·rw [show (!(jp (tags.getD st'.toNat [])).isEmpty) = true by cases e : tags.getD st'.toNat [] with | nil => exact absurd e h4 | cons => rfl]
   rw [if_neg h4] at hf
   kd_p
   exists rp Vw.refl (by exact J1 2 hr h2) (by exact J1 13 hr xt xs0) (by exact J4 17 xs1 hr) ?_
   rw [show ((start + i : Nat) : Int) + 1 = ((start + i + 1 : Nat) : Int) by exact J22 9]
   exact jx.nx (by kd_all) (fun Z zz => zz st' _ (by exact J1 2 hr h2) hr.2 hf)
 ·rintro st best h0 h1 hf
  kd_p
  rw [gs (by exact J22 10)] at hf
  rw [show best = res from hf]
  exact h
theorem B8 (P : PW W) {lines tags : List (List Int)} {cnt : Nat} (x : nw lines tags cnt) {word : List Int} (hw : ∀ c ∈ word, 0 ≤ c ∧ c < cnt) (h : Q (.int (se (fL lines) word 0)) H) : jZ W (n + 1) H (.ref 687) [j5 lines, .lst (jp word)] Q := by
 have xs0 := x.s0
 have xs1 := x.s1
 have xc := x.c1
 wtm_at "def"
 kd_p
 exists mZ (α := Int) ?_
 let I2 : IT jt := fun i Z => ∀ st : Int, st = se (fL lines) (word.take i) 0 → -1 ≤ st → st < lines.length → Z [lc "lines" (j5 lines), lc "word" (.lst (jp word)), lc "state" (.int st), lu "number"] H
 refine ⟨word, PV.int, rfl, I2, fun Z zz => zz 0 rfl (by exact J1 23) (by exact J0 14 xs0), ?_, ?_⟩
 ·rintro i c hc st he h0 h1
  have hcc := hw c (aS hc)
  have hr := x.rng h0 h1 hcc.1 hcc.2
  have hnx : fL lines st c = se (fL lines) (word.take (i + 1)) 0 := by rw [kd hc, uu, ← he]
  exists ⟨_, by kd_in, ?_⟩
  refine jC.dec (fun h2 => ?_) fun h2 => ?_
  ·have hll := x.row _ (jr (L := lines) (d := ([] : List Int)) (i := st.toNat) (by exact J2 1 h1 xs0))
   have hfl : fL lines st c = (lines.getD st.toNat []).getD c.toNat 0 := by unfold fL; rw [if_neg (by exact J22 11 h2)]
   kd_p
   exists kE Vw.refl (by exact J22 12 h0 h2) (by exact J2 1 h1 xs0) (by exact J8 16 xs1 h1) ?_
   refine j9 Vw.refl hcc.1 (by exact J8 17 hcc hll) (by exact J0 6 xc hll) ?_
   rw [← hfl]
   kd_p
   exact jx.nx (by kd_all) (fun Z zz => zz _ hnx hr.1 hr.2)
  ·have hfl : fL lines st c = -1 := by unfold fL; rw [if_pos (by exact J1 1 h2)]
   kd_p
   exact jx.nx (by kd_all) (fun Z zz => zz _ (by rw [← hnx, hfl]) (by exact J8 18) (by exact J8 19))
 ·rintro st he h0 h1
  rw [aZ] at he
  kd_p
  rw [he]; exact h
theorem wq (P : PW W) {par : List Int} {size : Nat} (hp : nG par size) (hz : size ≤ 50) {s : Nat} (hs : s < size) (h : Q (.lst (jp (mj par s))) H) : jZ W (n + 1) H (.ref 699) [.lst (jp par), .int (s : Nat)] Q := by
 have hpl := hp.len
 have hcl := tA hp (here := (s : Int)) (by exact J1 15) (by exact J0 23 hs)
 wtm_at "def"
 kd_p
 intro al
 kd_p
 let I3 : IT jt := fun k Z => ∀ (j : Nat) (d : List Int), j < size → k = j → d ++ mj par j = mj par s → Z [lc "parents" (.lst (jp par)), lc "state" (.int (s : Nat)), lc "found" (.ref al)] ((al, .lst (jp (d ++ [(j : Int)]))) :: H)
 refine lE I3 s (fun Z zz => zz s [] hs rfl rfl) ?_
 rintro k j d hj rfl he
 have hr := hp.rng hj
 have hat := uv hp hj
 have hsnoc : jp (d ++ [(k : Int)]) = jp d ++ [PV.int (k : Int)] := by simp
 rw [hsnoc]
 have last : ∀ {Q : CV}, Q (.int (k : Nat)) ((al, .lst (jp d ++ [PV.int (k : Int)])) :: H) → oP W n ((al, .lst (jp d ++ [PV.int (k : Int)])) :: H) (.ref al) (.int (-1)) Q := fun hq =>
  nY (x := .int (k : Nat)) (.lst (.head _)) (by decide) (by simp; exact J8 10) wo (by decide) hq
 kd_p
 refine last ?_
 wtm_at "w1"
 refine j9 Vw.refl (by exact J0 0) (by exact J0 2 hpl hj) (by exact J8 20 hz hpl) ?_
 rw [ag]
 kd_p
 refine jC.dec (fun h2 => ?_) fun h2 => ?_
 ·kd_p
  refine last ?_
  wtm_at "w1"
  refine j9 Vw.refl (by exact J0 0) (by exact J0 2 hpl hj) (by exact J8 20 hz hpl) ?_
  rw [ag]
  kd_p
  ·obtain ⟨j', hj'⟩ : ∃ j' : Nat, par.getD k 0 = (j' : Int) := ⟨(par.getD k 0).toNat, by exact J22 13 hr h2⟩
   rw [hj'] at hr hat ⊢
   exact jx.nx (by kd_all) ⟨j', by exact J22 14 hr, Of.eqH (by rw [← hsnoc]; simp) (fun Z zz => zz j' (d ++ [(k : Int)]) (by exact J22 15 hr hj) rfl (by rw [← he, hat]; simp))⟩
  ·rw [cf, aa, am]
   have := congrArg eI he
   rw [cf] at this
   simp; exact J22 16 hz hcl this hs
 ·exists jn (jR (li ?_))
  refine ⟨al, _, _, rfl, rfl, ?_⟩
  rw [hat, show par.getD k 0 = -1 by exact J1 1 h2, rS] at he
  rw [← hsnoc, he]
  exact h
theorem Aa : typeLookup (.type "list") "keys" = pure none := am_miss_of_fast (by kernel_rfl)
theorem qc {prog : Program} {w : World} {A : Around} {E : Value → Shared → Prop} {s : Shared} {a : Addr} {xs : Array Value} {k : Nat} {name : Str} {Q : Option Value → Shared → Prop}
  (hx : s.heap.get? a = some { cls := .type "list", data := .seq xs k }) (hmiss : typeLookup (.type "list") name = pure none) (hname : (["__module__", "__name__", "__qualname__", "__doc__", "__annotations__"] : List Str).contains name = false) (hA : A.handled = none)
  (h : ∀ h' tk, (∀ b o, s.heap.get? b = some o → h'.get? b = some o) → Q none { s with heap := h', toks := tk }) (hsz : name.length + 100 ≤ sizeLine) :
  wpAny (model prog w) A (getAttr? (.ref a) name) Q E s := by
 obtain ⟨hp, g, d, tk, os⟩ := s
 have hT : ∀ tk', (⟨hp, g, d, tk', os⟩ : Shared).TypeIs (.ref a) "list" := fun _ => ⟨_, hx, rfl⟩
 have f1 := sub_AttributeError
 have f3 := dN.lookup
 have f4 := dN.bind (.ref a)
 have f5 := am_list_getattr_none
 unfold getAttr? getAttrBy? getAttrBy
 repeat (any_goals (first | assumption | exact hT _ | ((with_reducible show wpAny _ _ (call (jg "list.__getattribute__") _ _) _ _ _); refine hW dN (hT _) am_entry_list_getattribute (F.args_list_getattribute_2 _ _) (meets_getattribute_miss_list a xs k #[] name _ hmiss hname hsz) ⟨hx, hA, fun h' tk' e hx' => ?_⟩) | wp_step))
 obtain ⟨t', u', he⟩ := hx'.there
 show wpAny _ _ (getattributeRaised _ _ _ _ _ _ _) _ _ _
 unfold getattributeRaised
 repeat (any_goals (first | assumption | wp_step))
 exact h _ _ hx'.keeps
theorem uw : entryFor table "dict.update.loop" = some Builtin.«dict.update.loop» := entryFor_of_tree (by kernel_rfl)
theorem pH : plainId "dict.update.loop" = true := by decide +kernel
theorem vj {prog : Program} {w : World} {A : Around} {E : Value → Shared → Prop} {s : Shared} {v : Value} {x : Int × Int} {Q : List Value → Shared → Prop} (h : lq s.heap v x) (hq : ∀ t u, Q [.int x.1 t, .int x.2 u] s) : wpAny (model prog w) A (gu v) Q E s := by
 obtain ⟨a, t, u, rfl, o, ho, hc, n, hd⟩ := h
 have hT : s.TypeIs (.ref a) "tuple" := ⟨o, ho, hc⟩
 unfold gu
 refine aj (wpAny_typeOf hT ?_)
 rw [if_pos (by decide)]
 refine aj (cU ho hd ?_)
 exact aB (hq t u)
theorem pI {prog : Program} {w : World} {h h' : Heap} {a : Addr} {kvs : List (Int × Value)} (x : h.DictOf (intKind prog w) a kvs) (hk : ∀ o, h.get? a = some o → h'.get? a = some o) : h'.DictOf (intKind prog w) a kvs := by
 obtain ⟨o, es, ep, ho, r⟩ := x
 exact ⟨o, es, ep, hk o ho, r⟩
theorem Ab {W : Wd} {G : Gh} {A : Around} {R : Result → Shared → Prop} {I l D : Addr} {vs : List Value} {L : List (Int × Int)} (hh : A.handled = none) (hlI : l ≠ I) (hDI : D ≠ I) (hDl : D ≠ l) (hlen : vs.length = L.length) (hz : L.length ≤ 5000) (nd : (L.map ai).Nodup) :
  ∀ (k j : Nat) (s : Shared) (kvs : List (Int × Value)), L.length - j = k → j ≤ L.length → s.heap.IsListIter I l j → s.heap.IsList l vs.toArray →
  (∀ (i : Nat) (x : Int × Int), L[i]? = some x → ∃ v, vs[i]? = some v ∧ lq s.heap v x ∧ v ≠ .ref I ∧ v ≠ .ref D) → KV W G PV.int (L.take j) kvs → s.heap.DictOf (intKind W.prog W.w) D kvs →
  (∀ h' tk kvs', KV W G PV.int L kvs' → h'.DictOf (intKind W.prog W.w) D kvs' → (∀ b o, b ≠ I → b ≠ D → s.heap.get? b = some o → h'.get? b = some o) → R (.ok (.ret .none)) { s with heap := h', toks := tk }) →
  codeAny (model W.prog W.w) A (.builtin "dict.update.loop" ⟨[.ref D, .ref I, rawInt (j : Int), .none], []⟩) R s := by
 have Wl := hY (prog := W.prog) (w := W.w) (A := A.in1) hh I l hlI vs.toArray
 have hDw : D ∉ [I] := by simpa using hDI
 intro k
 induction k with
 | zero =>
  intro j s kvs hk hj hit hl hT kv hD hR
  have hin : j = vs.toArray.size := by rw [aH]; exact J22 17 hj hlen hk
  refine dO uw ?_
  rw [cS pH _]
  show wpAny _ A.in1 (pyNext (.ref I) >>= _) _ _ s
  refine aj (Wl.done s _ _ (hin ▸ ⟨hit, hl⟩) fun h' tk hk' => ?_)
  show wpAny _ A.in1 (Builtin.Dict.addKeywords D [] >>= _) _ _ _
  refine aj (aB (aB ?_))
  rw [show L.take j = L from br (by exact J22 18 hk)] at kv
  exact hR h' tk kvs kv (pI hD fun o e => hk' D o hDw e) fun b o h1 h2 e => hk' b o (by simpa using h1) e
 | succ k ih =>
  intro j s kvs hk hj hit hl hT kv hD hR
  have hlt : j < vs.toArray.size := by rw [aH]; exact J22 19 hlen hk
  have hlt' : j < L.length := by exact J22 20 hk
  refine dO uw ?_
  rw [cS pH _]
  show wpAny _ A.in1 (pyNext (.ref I) >>= _) _ _ s
  refine aj (Wl.item j s _ _ hlt ⟨hit, hl⟩ fun v h' tk hP hst' hk' => ?_)
  obtain ⟨v', hv', pv, q1, q2⟩ := hT j L[j] (aG hlt')
  have ev : v' = v := by
   have : vs[j]? = some v := by simpa using hP
   rw [hv'] at this; exact bD this
  subst ev
  have kp : ∀ (u : Value) (x : Int × Int), u ≠ .ref I → lq s.heap u x → lq h' u x := fun u x h1 p => p.keep fun a o e q => hk' a o (by
   have : a ≠ I := fun z => h1 (z ▸ e)
   simpa using this) q
  have hD' := pI hD fun o e => hk' D o hDw e
  show wpAny _ A.in1 (holding [v'] _ >>= _) _ _ _
  refine aj (bv ?_)
  refine aj (d8 (vj (kp _ _ q1 pv) fun t u => ?_))
  show wpAny _ A.in1 (holding _ (dictSet D _ _)) _ _ _
  refine bv ?_
  have hkl : kvs.length ≤ sizeLine := by rw [kv.length, bg, am]; exact J22 21 hz
  refine wpAny_dictSet_pairs (hsz := hkl) (dB _ _ L[j].1 t) hD' fun h2 hd2 hs2 => ?_
  refine aB ⟨dM pH _, ?_⟩
  have hat : L[j]? = some L[j] := aG hlt'
  have hnew : jB (L.take j) L[j].1 = none := lG.mpr fun q => by
   have hsp : L = L.take j ++ L[j] :: L.drop (j + 1) := by rw [bY, bS]
   rw [hsp, aJ] at nd
   exact (dy.mp nd).2.2 _ q _ (.head _) rfl
  have kv2 : KV W G PV.int (L.take (j + 1)) (stored kvs L[j].1 (.int L[j].2 u)) := by
   have := kv.stored (k := L[j].1) (x := L[j].2) (v := .int L[j].2 u) (by wtm_at "rv")
   rw [o9 hnew] at this
   rw [kd hat]; exact this
  have kp2 : ∀ b o, b ≠ I → b ≠ D → s.heap.get? b = some o → h2.get? b = some o := fun b o h1 h3 e => (hs2.2 b h3).trans (hk' b o (by simpa using h1) e)
  have := ih (j + 1) { s with heap := h2, toks := tk + 1 } _ (by exact J22 22 hk) hlt' (hst'.1.at fun o e => (hs2.2 I (fP hDI)).trans e) (hl.at fun o e => kp2 l o hlI (fP hDl) e) (fun i x hx => ?_) kv2 hd2 (fun h3 tk3 kvs3 a b c => ?_)
  ·exact this
  ·obtain ⟨u', hu', pu, z1, z2⟩ := hT i x hx
   exact ⟨u', hu', pu.keep fun a o e q => kp2 a o (fun z => z1 (z ▸ e)) (fun z => z2 (z ▸ e)) q, z1, z2⟩
  ·exact hR h3 tk3 kvs3 a b fun b' o h1 h2' e => c b' o h1 h2' (kp2 b' o h1 h2' e)
theorem ux {p : PV} {L : List (Int × Int)} (w : Vw H p (.lst (L.map kY))) (nd : (L.map ai).Nodup) (hz : L.length ≤ 5000) (h : ∀ a, Q (.ref a) ((a, .dct (Dk .int L)) :: H)) : mP W n H (fun vs => call (.type "dict") vs) [p] Q := kG fun A G s v R hr hv => by
 obtain ⟨l, vs, m, rfl, e1, rs⟩ := w.lstAt hr hv
 have hl0 : vs.length = L.length := by rw [rs.length, aa]
 have tupOf : ∀ (i : Nat) (x : Int × Int), L[i]? = some x → ∃ v, vs[i]? = some v ∧ lq s.heap v x ∧ ∃ b, v = .ref b ∧ b < s.heap.objs.size := fun i x hx => by
  obtain ⟨v, hv, rv⟩ := rs.get (i := i) (x := kY x) (by rw [ax, hx]; rfl)
  simp only [kY, RV, j0] at rv
  obtain ⟨b, ws, rfl, ⟨o, g1, g2, m', g3⟩, v1, _, rfl, ⟨t, rfl⟩, v2, _, rfl, ⟨u, rfl⟩, rfl⟩ := rv
  have g1' := (hr.imm _ _ g1).1
  exact ⟨_, hv, ⟨b, t, u, rfl, o, g1', g2, m', g3⟩, b, rfl, bq g1'⟩
 refine callType_codes (Q₁ := fun obj s₁ => obj = .ref s.heap.objs.size ∧ s₁ = { s with heap := s.heap.push { cls := .type "dict", data := .dict #[] } }) F.kt_called_dict (F.kt_typeCall_dict_1 _) F.entry_dict_init (kt_code_dict_new _ ⟨rfl, rfl⟩) ?_
 rintro obj s₁ ⟨rfl, rfl⟩
 have hnew : (s.heap.push { cls := .type "dict", data := .dict #[] }).DictOf (intKind W.prog W.w) s.heap.objs.size [] := Heap.DictOf.new s.heap
 have el : (s.heap.push { cls := .type "dict", data := .dict #[] }).get? l = some (lK vs m) := jw _ _ _ e1
 have hll : l < s.heap.objs.size := bq e1
 refine ⟨hnew.typeIs, F.args_dict_init_2 _ _, ?_⟩
 unfold Builtin.«dict.__init__»
 refine aj ?_
 unfold Builtin.Dict.selfAndRest
 refine aj (wpAny_notOrdered_dict hnew.typeIs ?_)
 show wpAny _ _ (pure (s.heap.objs.size, [gR l])) _ _ _
 refine aB ?_
 show wpAny _ _ (gh "dict.__init__" s.heap.objs.size (.ref l) [] .none) _ _ _
 unfold gh
 refine aj (wpAny_typeOf (s := { s with heap := s.heap.push { cls := .type "dict", data := .dict #[] } }) (js el).typeIs ?_)
 rw [if_pos (by decide)]
 refine aj (qc el Aa (by decide +kernel) (by exact R.hd) (fun h1 tk1 k1 => ?_) (by rw [am]; decide +kernel))
 simp only [Option.isNone_none, if_true]
 refine aj (ft ?_)
 have el1 : h1.get? l = some (lK vs m) := k1 _ _ el
 have hD1 : h1.DictOf (intKind W.prog W.w) s.heap.objs.size [] := pI hnew fun o e => k1 _ _ e
 have hDh : ld h1 s.heap.objs.size := let ⟨o, es, ep, ho, _⟩ := hD1; ⟨o, ho⟩
 have hDs : s.heap.objs.size < h1.objs.size := let ⟨o, ho⟩ := hDh; bq ho
 refine aj (fO (js el1) ?_)
 refine aB ⟨dM pH _, ?_⟩
 have hit0 : (h1.push { cls := .type "list_iterator", data := .fields #[.ref l, .int 0 0] }).IsListIter h1.objs.size l 0 := ⟨_, aW _ rfl, rfl, rfl⟩
 refine Ab (G := G) (D := s.heap.objs.size) (vs := vs) (L := L) (by exact R.hd) (bK (d7 hll hDs)) (bK hDs) (ip hll) hl0 hz nd L.length 0 _ [] (by exact J22 23) (bF _) hit0 ((js el1).at fun o e => jw _ _ _ e) (fun i x hx => ?_) (by rw [cb]; rfl) (pI hD1 fun o e => jw _ _ _ e) (fun h2 tk2 kvs2 kv2 d2 k2 => ?_)
 ·obtain ⟨v, q1, q2, b, rfl, q3⟩ := tupOf i x hx
  refine ⟨_, q1, q2.keep fun a o e q => jw _ _ _ (k1 _ _ (jw _ _ _ q)), fun z => ?_, fun z => ?_⟩
  ·cases z; exact dq _ (d7 q3 hDs)
  ·cases z; exact dq _ q3
 ·refine ⟨rfl, ?_⟩
  refine vN (tk := tk2) hr oZ (fun b o q => k2 b o ?_ ?_ (jw _ _ _ (k1 _ _ (jw _ _ _ q)))) d2 kv2 h
  ·exact bK (d7 (bq q) hDs)
  ·exact bK (bq q)
theorem Ac (P : PW W) {lines tags : List (List Int)} {cnt : Nat} (x : nw lines tags cnt) (h : Q (.lst (jp (jV lines true))) H) : jZ W (n + 1) H (.ref 692) [j5 lines] Q := by
 have xs0 := x.s0
 have xs1 := x.s1
 have xc := x.c1
 have hlz : (lines.map fun l => PV.lst (jp l)).length ≤ sizeLine := by rw [aa, am]; exact J1 6 xs1
 wtm_at "def"
 kd_p
 intro al
 kd_p
 exists jI ?_
 rw [aa]
 have hcl : ∀ s, (j7 lines s).length ≤ 8 := fun s => by unfold j7; rw [aa, aq]; exact J23 0
 let I1 : IT jt := fun i Z => Z [cc "lines" (j5 lines), lc "found" (.ref al), cu "state", lu "some", cu "other", lu "own", gb "range", gb "len", gb "max", gb "min"] ((al, HO.lst (jp ((jV lines true).take i))) :: H)
 refine ⟨lines.length, rfl, by exact J3 5 xs1, I1, Of.eqH (by rw [cb]; rfl) (fun Z zz => zz), ?_, ?_⟩
 ·rintro s hs
  have hls := x.row _ (jr (L := lines) (d := ([] : List Int)) hs)
  exists ⟨_, by kd_in, ?_⟩
  intro as
  kd_p
  exists sn ?_
  let I2 : IT jt := fun i Z => Z [cc "lines" (j5 lines), lc "found" (.ref al), cc "state" (.int (s : Nat)), lc "some" (.ref as), cu "other", lu "own", gb "range", gb "len", gb "max", gb "min"] ((as, HO.lst (((j7 lines s).take i).map kY)) :: (al, HO.lst (jp ((jV lines true).take s))) :: H)
  refine ⟨s - 8, s, by rw [show max 0 ((s : Int) - 8) = ((s - 8 : Nat) : Int) by lia], ⟨by exact J7 7, by exact J23 1 xs1 hs⟩, I2, Of.eqH (by rw [cb]; rfl) (fun Z zz => zz), ?_, ?_⟩
  ·rintro i hi
   have hlo := x.row _ (jr (d := ([] : List Int)) (show s - 8 + i < lines.length by exact J7 8 hs hi))
   have hl0 := x.row _ (jr (d := ([] : List Int)) (show 0 < lines.length by exact J23 2 xs0))
   have hci : (j7 lines s)[i]? = some ((((lk (lines.getD s []) (lines.getD (s - 8 + i) [])).length : Nat) : Int), ((s - 8 + i : Nat) : Int)) := by
    unfold j7; rw [ax, b8 hi]; rfl
   have hun : (lk (lines.getD s []) (lines.getD (s - 8 + i) [])).length = ((av cnt).filter fun t => !decide ((lines.getD (s - 8 + i) []).getD t 0 = (lines.getD s []).getD t 0)).length := by
    unfold lk kl
    rw [aa, hls]
    congr 2
    funext t
    by_cases q : (lines.getD s []).getD t 0 = (lines.getD (s - 8 + i) []).getD t 0
    ·rw [decide_eq_true q, decide_eq_true q.symm]
    ·rw [decide_eq_false q, decide_eq_false (fun z => q z.symm)]
   have hun2 : ((av cnt).filter fun t => !decide ((lines.getD (s - 8 + i) []).getD t 0 = (lines.getD s []).getD t 0)).length ≤ cnt := bj (bm _ _) (by simp)
   have hs2 : (((j7 lines s).take i).map kY).length ≤ sizeLine := by rw [aa, bg, am]; have := hcl s; exact J23 3 hi
   refine ⟨_, by kd_in, ?_⟩
   exists jn (lx rfl (lb ?_))
   exists lj (α := Nat) (fun t => !decide ((lines.getD (s - 8 + i) []).getD t 0 = (lines.getD s []).getD t 0)) (fun i => PV.int (i : Nat)) (by wtm_at "hcap") (jO ?_)
   refine kE Vw.refl (by exact J4 16) (by exact J8 21 xs0) (by exact J8 22) ?_
   have hl1 := pO (L := lines.getD (0 : Int).toNat []) (by rw [show (0 : Int).toNat = 0 from rfl]; exact J0 6 xc hl0)
   kd_p
   rw [aa, show (0 : Int).toNat = 0 from rfl, hl0]
   refine ⟨cnt, rfl, by exact J1 5 xc, _, av cnt, fun c => .int (c : Nat), by wtm_at "crho", rfl, by rw [aq, am]; exact J2 5 xc, fun t ht => ⟨_, by kd_in, ?_⟩, ?_⟩
   ·have ht2 := aM.mp ht
    kd_p
    exists kE Vw.refl (by exact J7 9) (by exact J7 10 hs hi) (by exact J23 4 xs1 hs hi) ?_
    rw [ag]
    refine j9 Vw.refl (by exact J0 0) (by exact J0 2 hlo ht2) (by exact J0 6 xc hlo) ?_
    rw [ag]
    kd_p
    exists kE Vw.refl (by exact J0 0) (by exact J0 1 hs) (by exact J4 18 xs1 hs) ?_
    rw [ag]
    refine j9 Vw.refl (by exact J0 0) (by exact J0 2 hls ht2) (by exact J0 6 xc hls) ?_
    rw [ag]
    kd_p
    exists ⟨by simp, rfl, fun _ => ?_⟩
    exact rfl
   ·have hl3 : (((av cnt).filter fun t => !decide ((lines.getD (s - 8 + i) []).getD t 0 = (lines.getD s []).getD t 0)).map fun i => PV.int (i : Nat)).length ≤ sizeLine := by rw [aa, am]; exact J23 5 hun2 xc
    kd_p
    rw [aa, ← hun]
    exact jx.nx (by kd_all) (Of.eqH (by rw [kd hci, aJ]; rfl) (fun Z zz => zz))
  ·show lm _ _ _ _ _ _
   rw [show (j7 lines s).take (s - (s - 8)) = j7 lines s from br (by simp [j7])]
   have hown : (((lines.getD s []).filter fun t => !decide (t = -1)).length : Int) = we lines s := by
    unfold we n8 kl
    rw [aa]
    exact congrArg _ (xi (p := fun t => !decide (t = -1)))
   have hpa : (jV lines true)[s]? = some (mt lines s) := by
    unfold jV; rw [ax, b8 hs]; rfl
   have hflt : ((lines.getD s []).filter fun t => !decide (t = -1)).length ≤ cnt := bj (bm _ _) (by exact J4 19 hls)
   have hfin : ∀ {v : PV}, v = .int (mt lines s) → jp ((jV lines true).take s) ++ [v] = jp ((jV lines true).take (s + 1)) := fun e => by rw [e, kd hpa]; simp
   exists jn (jD rfl (vQ P (by kd_mem) (jA (lj (α := Int) (fun t => !decide (t = -1)) PV.int (by wtm_at "hcap") (jP ?_)))))
   refine kE Vw.refl (by exact J0 0) (by exact J0 1 hs) (by exact J4 18 xs1 hs) ?_
   rw [ag]
   refine ⟨_, rfl, _, lines.getD s [], PV.int, by wtm_at "crho", rfl, by rw [am]; exact J1 3 xc hls, fun t ht => ⟨_, by kd_in, ?_⟩, ?_⟩
   ·kd_p
    exists ⟨by simp, rfl, fun _ => ?_⟩
    exact rfl
   have hl4 := pO (L := (lines.getD s []).filter fun t => !decide (t = -1)) (by exact J23 6 hflt xc)
   refine ml (sD Vw.refl hl4 ?_)
   rw [aa, hown]
   kd_p1
   have hs3 : (jp ((jV lines true).take s)).length ≤ sizeLine := pO (by rw [bg]; unfold jV; rw [aa, aq]; exact J23 7 xs1)
   have hcl' := hcl s
   have hcs : ((j7 lines s).map kY).length ≤ sizeLine := by rw [aa, am]; exact J23 8 hcl'
   refine jn (lx rfl (lb ?_))
   kd_p1
   kd_p1
   kd_p1
   refine qk (Tv.mono (Q' := fun b H' => H' = (as, HO.lst ((j7 lines s).map kY)) :: (al, HO.lst (jp ((jV lines true).take s))) :: H ∧ (b = true ↔ j7 lines s ≠ [] ∧ (oQ (j7 lines s)).1 < we lines s)) (nJ (pf (jU ?_))) ?_)
   ·kd_p
    intro ae
    kd_p
    exists nD (.lst (.tail _ (.head _))) (.lst (.head _)) ?_
    refine ⟨_, _, .one, ?_⟩
    rw [show (!((j7 lines s).map kY).isEmpty) = decide (j7 lines s ≠ []) by cases j7 lines s <;> simp]
    refine jC.dec (fun h3 => ?_) fun h3 => ?_
    ·exists nJ (jU (oj (vS P (by kd_mem) ?_)))
     exists vO (.lst (.head _)) h3 ?_
     exists kJ (x := .int (oQ (j7 lines s)).1) Vw.refl (by decide) rfl (by decide) ?_
     refine jC.by (fun h4 => ?_) fun h4 => ?_
     ·kd_p
      exact nP rfl ⟨h3, of_decide_eq_true h4⟩
     ·exact ⟨rfl, j4 rfl fun z => of_decide_eq_false h4 z.2⟩
    ·exact ⟨rfl, j4 rfl fun z => h3 z.1⟩
   rintro b _ ⟨rfl, hb⟩
   refine jC.by (fun h3 => ?_) fun h3 => ?_
   ·have hb2 := hb.mp h3
    exists oj (vS P (by kd_mem) ?_)
    exists vO (.lst (.head _)) hb2.1 ?_
    exists kJ (x := .int (oQ (j7 lines s)).2) Vw.refl (by decide) rfl (by decide) ?_
    refine jx.fz .one (by kd_all) mV.refl (Of.eqH ?_ (fun Z zz => zz))
    rw [hfin]
    unfold mt
    rw [if_pos hb2]
   ·have hb2 : ¬ (j7 lines s ≠ [] ∧ (oQ (j7 lines s)).1 < we lines s) := fun z => by rw [hb.mpr z] at h3; cases h3
    kd_p
    refine jx.fz .one (by kd_all) mV.refl (Of.eqH ?_ (fun Z zz => zz))
    rw [hfin]
    unfold mt
    rw [if_neg hb2]
 ·show lm _ _ _ _ _ _
  rw [show (jV lines true).take lines.length = jV lines true from br (by simp [jV])]
  exists jn (jR (li ?_))
  exact ⟨al, _, _, rfl, rfl, h⟩
theorem kF {α : Type} {L : List α} {d : α} {i : Nat} (h : i < L.length) : L.getD i d = L[i] := by
 rw [aL, aG h]; rfl
theorem lT {α : Type} {f : Nat → α} {N i : Nat} {d : α} (h : i < N) : ((av N).map f).getD i d = f i := by
 rw [kF (by simpa using h)]; simp
theorem yB {lines : List (List Int)} {ch : Bool} {s : Nat} (h : s < lines.length) : (jV lines ch).getD s 0 = lV lines ch s := lT h
theorem DA {lines : List (List Int)} {ch : Bool} {s : Nat} (h : s < lines.length) : (ju lines ch).getD s [] = kX lines ch s := lT h
theorem En {lines : List (List Int)} {ch : Bool} : nG (jV lines ch) lines.length where
 len := by simp [jV]
 low := fun s hs => by rw [yB hs]; exact qM
theorem nw.rowsOk {lines tags : List (List Int)} {cnt : Nat} (x : nw lines tags cnt) (ch : Bool) : j3 (ju lines ch) :=
 qa x.row (by have := x.c1; exact J1 7 this) (by have := x.s1; exact J4 20 this)
theorem nw.step {lines tags : List (List Int)} {cnt : Nat} (x : nw lines tags cnt) (ch : Bool) {c : Int} (h0 : 0 ≤ c) (h1 : c < cnt) : ∀ s : Nat, s < lines.length → pj (kU (ju lines ch)) (jV lines ch) s c = fL lines s c := by
 intro s
 induction s using Nat.strongRecOn with
 | ind s ih =>
 intro hs
 have hls := x.row _ (jr (L := lines) (d := ([] : List Int)) hs)
 have hlk := sq (x.rowsOk ch) (i := s) (by simp [ju]; exact hs) (col := c)
 rw [DA hs] at hlk
 obtain ⟨k, rfl⟩ : ∃ k : Nat, c = (k : Int) := ⟨c.toNat, by exact J2 2 h0⟩
 rw [v8 En hs]
 show (match lI ((km (ju lines ch)).getD s 0) (lR (ju lines ch)) (jS (ju lines ch)) ((oI (ko (ju lines ch))).getD s 0) k with
  | some v => v
  | none => pj (kU (ju lines ch)) (jV lines ch) ((jV lines ch).getD s 0) k) = _
 rw [hlk, yB hs]
 have hfl : ∀ t : Nat, fL lines t k = (lines.getD t []).getD k 0 := fun t => by unfold fL; rw [if_neg (by exact J1 22), ag, ag]
 rw [hfl s]
 unfold kX
 by_cases hp : lV lines ch s = -1
 ·rw [if_pos hp, hp, oE]
  unfold n8
  rw [rm (by exact J4 6 hls h1)]
  by_cases q : (lines.getD s []).getD k 0 = -1
  ·rw [q]; rfl
  ·rw [decide_eq_false q]; rfl
 ·rw [if_neg hp]
  have hr : 0 ≤ lV lines ch s ∧ lV lines ch s < s := (qM).resolve_left hp
  unfold lk
  rw [rm (by exact J4 6 hls h1)]
  obtain ⟨p, hpe⟩ : ∃ p : Nat, lV lines ch s = (p : Int) := ⟨(lV lines ch s).toNat, by exact J4 21 hr⟩
  rw [hpe] at hr ⊢
  rw [ag]
  by_cases q : (lines.getD s []).getD k 0 = (lines.getD p []).getD k 0
  ·rw [decide_eq_true q]
   show pj _ _ (p : Int) (k : Int) = _
   rw [ih p (by exact J4 22 hr) (by exact J23 9 hr hs), hfl p, q]
  ·rw [decide_eq_false q]; rfl
theorem nw.stepOk {lines tags : List (List Int)} {cnt : Nat} (x : nw lines tags cnt) (ch : Bool) : ro (kU (ju lines ch)) (jV lines ch) lines.length cnt (fL lines) where
 arr := by
  have := u5 (x.rowsOk ch)
  rwa [show (ju lines ch).length = lines.length by simp [ju]] at this
 pk := En
 eq := fun s c h0 h1 h2 h3 => by
  by_cases q : s = -1
  ·subst q; rw [oE]; rfl
  ·obtain ⟨t, rfl⟩ : ∃ t : Nat, s = (t : Int) := ⟨s.toNat, by exact J1 21 h0 q⟩
   exact x.step ch h2 h3 t (by exact J0 21 h1)
 rng := fun s c h0 h1 h2 h3 => x.rng h0 h1 h2 h3
theorem yC {lines : List (List Int)} : jV lines false = bd lines.length (-1) := by
 unfold jV
 refine bO (by simp) fun i h1 h2 => ?_
 rw [bk, List.getElem_replicate]; rfl
theorem wt {lines : List (List Int)} : ju lines false = lines.map n8 := by
 unfold ju
 refine bO (by simp) fun i h1 h2 => ?_
 have h3 : i < lines.length := by simpa using h2
 rw [bk, bk, bL]
 unfold kX
 rw [if_pos (show lV lines false i = -1 from rfl), kF h3]
theorem nw.small {lines tags : List (List Int)} {cnt : Nat} (x : nw lines tags cnt) : rT (ju lines false) cnt where
 row := fun d hd => by
  rw [wt] at hd
  obtain ⟨l, hl, rfl⟩ := az.mp hd
  exact bj kL (by rw [x.row l hl]; exact aU _)
 all := by rw [show (ju lines false).length = lines.length by simp [ju]]; exact x.sc
theorem B9 {lines : List (List Int)} {cnt : Nat} (h : ∀ l ∈ lines, l.length = cnt) : ((av lines.length).map fun s => (av cnt).map fun c => fL lines (s : Nat) (c : Nat)) = lines := by
 refine bO (by simp) fun i h1 h2 => ?_
 rw [bk, bL]
 refine bO (by simp [h _ (bJ h2)]) fun j h3 h4 => ?_
 rw [bk, bL]
 unfold fL
 rw [if_neg (by exact J1 22), ag, ag, kF h2, kF h4]
theorem xk {R : List jN} : PV.tup [.lst (jp (kU R).B), .lst (jp (kU R).T), .lst (jp (kU R).C), .lst (jp (kU R).O)] = GR R := by
 show PV.tup [_, _, _, PV.lst (jp (oI (ko R)))] = PV.tup [_, _, _, PV.lst (o4 (ko R))]
 rw [Ek]; rfl
theorem yD {k : Nat} {f : Int → Int → Int} {tags : List (List Int)} : ∀ {w : List Int} {i : Nat} {st : Int} {b : PV}, oR (k + 2) b → oR (k + 2) (sf f tags w i st b)
 | [], _, _, _, h => h
 | x :: w, i, st, b, h => by
  rw [rq]
  split
  ·exact h
  ·refine yD ?_
   split
   ·exact h
   ·exact sr (pq pU (pq wl vg))
theorem DB {lines : List (List Int)} {s : Nat} (hs : s < lines.length) : (av (lines.getD s []).length).map (fun (c : Nat) => PV.int (fL lines s c)) = jp (lines.getD s []) := by
 refine bO (by simp) fun j h1 h2 => ?_
 rw [bk, bk, bL]
 unfold fL
 rw [if_neg (by exact J1 22), ag, ag, kF (by simpa using h2)]
theorem qP (P : PW W) {lines tags : List (List Int)} {cnt : Nat} (x : nw lines tags cnt) {word : List Int} (hw : ∀ c ∈ word, 0 ≤ c ∧ c < cnt) (hwl : word.length = 5) (h : Q (.bool true) H) : jZ W (n + 10) H (.ref 704) [j5 lines, n6 tags, .lst (jp word)] Q := by
 have xs0 := x.s0
 have xs1 := x.s1
 have xc := x.c1
 have xt := x.tag
 have hlz : (lines.map fun l => PV.lst (jp l)).length ≤ sizeLine := by rw [aa, am]; exact J1 6 xs1
 have htz : (tags.map fun t => PV.tup (jp t)).length ≤ sizeLine := by rw [aa, am]; exact J23 10 xs1 xt
 wtm_at "def"
 exists jn (jD rfl (Eb P (by kd_mem) (jA (ku (α := List Int) (fun l => .lst (jp l)) (by wtm_at "hcap") (jP ?_)))))
 refine ⟨_, rfl, _, lines, fun l => .lst (jp l), by wtm_at "crho", rfl, by rw [am]; exact J1 6 xs1, fun l hl => ⟨_, by kd_in, li (wO P (by kd_mem) ?_)⟩, ?_⟩
 ·have hll := x.row l hl
  kd_p
  exact q9 Vw.refl (pO (by exact J0 6 xc hll)) fun a => ⟨a, _, _, rfl, rfl, rfl, rfl⟩
 exists jA (li (wO P (by kd_mem) ?_))
 exists q9 Vw.refl htz fun a => ⟨a, _, _, rfl, rfl, ?_⟩
 refine yp P ?_
 kd_p1
 refine jn (k7 (xs := ["plain", "chained"]) rfl (by decide) (.inr rfl) ?_)
 kd_p1
 exists jA (ny P (by kd_mem) ?_)
 refine xd (n := n) P xs0 (by exact J4 20 xs1) x.row (by exact J1 7 xc) (by exact J0 15 xs1 xt) ?_
 exists jA (ny P (by kd_mem) ?_)
 exists xa (n := n) P xs0 (by exact J4 20 xs1) x.row (by exact J1 7 xc) (by exact J0 15 xs1 xt) ?_
 exists ⟨_, _, rfl, .cons (by kd_in) (.cons (by kd_in) .nil), ?_⟩
 intro al
 kd_p
 exists mZ (α := List Int) ?_
 let I1 : IT jt := fun i Z => Z [cc "lines" (j5 lines), cc "marks" (n6 tags), cc "word" (.lst (jp word)), cu "line", lc "whole" (zu lines tags), lc "plain" (rn (kU (ju lines false)) tags cnt (jV lines false)), lc "chained" (rn (kU (ju lines true)) tags cnt (jV lines true)), lc "live" (.ref al), lu "loose", cu "packed", cu "state", lu "back", lu "last", gb "Dfa", gb "list", gb "pack_dfa", gb "dict", gb "range", gb "len", gb "_law_first_fit", gb "_law_parents", gb "PackedDfa", gb "unpack_dfa", gb "_law_walked"] ((al, .lst (((ju lines false).take i).map jW)) :: H)
 refine ⟨lines, fun l => .lst (jp l), rfl, I1, Of.eqH (by rw [cb]; rfl) (fun Z zz => zz), ?_, ?_⟩
 ·rintro i l hl
  have hi := (aA.mp hl).1
  have hll := x.row l (aS hl)
  have hrow : (ju lines false)[i]? = some (n8 l) := by rw [wt, ax, hl]; rfl
  have hz := pO (L := l) (by exact J0 6 xc hll)
  have hlen : (((ju lines false).take i).map jW).length ≤ sizeLine := by rw [aa, bg, am]; exact J23 11 xs1 hi
  refine ⟨_, by kd_in, ?_⟩
  refine jn (lx rfl (lb ?_))
  kd_p1
  kd_p1
  kd_p1
  exists vT (td P (by kd_mem) (jA (lj (α := Nat) (fun t => !decide (l.getD t 0 = -1)) (fun (t : Nat) => kY ((t : Int), l.getD t 0)) (by wtm_at "hcap") (jO ?_))))
  rw [aa]
  refine ⟨l.length, rfl, by exact J23 12 xc hll, _, av l.length, fun c => .int (c : Nat), by wtm_at "crho", rfl, by rw [aq, am]; exact J1 3 xc hll, fun t ht => ⟨_, by kd_in, ?_⟩, ?_⟩
  ·have ht2 := aM.mp ht
   kd_p
   refine j9 Vw.refl (by exact J0 0) (by exact J0 1 ht2) (by exact J0 6 xc hll) ?_
   rw [ag]
   kd_p
   exists ⟨by simp, rfl, fun _ => ?_⟩
   refine j9 Vw.refl (by exact J0 0) (by exact J0 1 ht2) (by exact J0 6 xc hll) ?_
   rw [ag]
   kd_p
   exact rfl
  ·rw [show ((av l.length).filter fun t => !decide (l.getD t 0 = -1)).map (fun (t : Nat) => kY ((t : Int), l.getD t 0)) = (n8 l).map kY by unfold n8 kl; rw [aX]; rfl]
   exists ml (ux Vw.refl (mf).nodup (bj kL (by exact J0 6 xc hll)) fun a => ⟨a, _, _, rfl, rfl, ?_⟩)
   exact jx.nx (by kd_all) (Of.eqH (by rw [kd hrow, aJ]; rfl) (fun Z zz => zz))
 show lm _ _ _ _ _ _
 rw [show (ju lines false).take lines.length = ju lines false from br (by simp [ju])]
 refine mI (mG.frz (r' := [cc "lines" (j5 lines), cc "marks" (n6 tags), cc "word" (.lst (jp word)), cu "line", lc "whole" (zu lines tags), lc "plain" (rn (kU (ju lines false)) tags cnt (jV lines false)), lc "chained" (rn (kU (ju lines true)) tags cnt (jV lines true)), lc "live" (jY (ju lines false)), lu "loose", cu "packed", cu "state", lu "back", lu "last", gb "Dfa", gb "list", gb "pack_dfa", gb "dict", gb "range", gb "len", gb "_law_first_fit", gb "_law_parents", gb "PackedDfa", gb "unpack_dfa", gb "_law_walked"]) .one (.same (.same (.same (.same (.same (.same (.same (.rfy (.lst (.head _) .refl) (by kd_all))))))))) mV.refl) ?_
 exists jn (kI (jU ?_))
 exists lz P (x.rowsOk false) x.small ?_
 refine jT (t := GR (ju lines false)) 2 (by decide) (by rw [xk]; exact .refl) .refl (by wtm_at "dat") (fun es => by simp) ?_
 kd_p1
 kd_p1
 kd_p1
 exists jn (kI (rx (pf (jU ?_))))
 intro a1
 kd_p
 refine yZ (.lst (.head _)) (by exact J0 0) (by rw [aa]; exact J23 13 xs1) (by simp; exact J1 6 xs1) fun a2 => ?_
 rw [show (bd ((((lines.map fun l => PV.lst (jp l)).length : Nat) : Int)).toNat [PV.int (-1)]).flatten = jp (jV lines false) by rw [ag, aa, yC]; simp]
 wtm_at "w1"
 exists jT (t := .lst (jp (jV lines false))) 1 (by decide) .refl (.lst (.head _) .refl) (by wtm_at "dat") (fun es => by simp) ?_
 exists ⟨_, _, .two, ?_⟩
 exists Ac P x ?_
 exists jT (t := .lst (jp (jV lines true))) 1 (by decide) .refl .refl (by wtm_at "dat") (fun es => by simp) ?_
 have hbl : (kU (ju lines false)).B.length = lines.length := (x.stepOk false).arr.b
 kd_p
 refine zv P (by exact J0 15 xs1 hbl) ?_
 rw [hbl, ← yC]
 wtm_at "w1"
 exists qK (α := Bool) ?_
 let I2 : IT jt := fun i Z => Z [cc "lines" (j5 lines), cc "marks" (n6 tags), cc "word" (.lst (jp word)), cu "line", lc "whole" (zu lines tags), lc "plain" (rn (kU (ju lines false)) tags cnt (jV lines false)), lc "chained" (rn (kU (ju lines true)) tags cnt (jV lines true)), lc "live" (jY (ju lines false)), lc "loose" (rn (kU (ju lines false)) tags cnt (jV lines false)), cu "packed", cu "state", lu "back", lu "last", gb "Dfa", gb "list", gb "pack_dfa", gb "dict", gb "range", gb "len", gb "_law_first_fit", gb "_law_parents", gb "PackedDfa", gb "unpack_dfa", gb "_law_walked"] H
 refine ⟨[false, true, false], fun ch => (rn (kU (ju lines ch)) tags cnt (jV lines ch)), rfl, I2, fun Z zz => zz, ?_, ?_⟩
 ·rintro i ch _
  have hst := x.stepOk ch
  refine ⟨_, by kd_in, ?_⟩
  exists jn (jI ?_)
  rw [aa]
  let I3 : IT jt := fun i Z => Z [cc "lines" (j5 lines), cc "marks" (n6 tags), cc "word" (.lst (jp word)), cu "line", lc "whole" (zu lines tags), lc "plain" (rn (kU (ju lines false)) tags cnt (jV lines false)), lc "chained" (rn (kU (ju lines true)) tags cnt (jV lines true)), lc "live" (jY (ju lines false)), lc "loose" (rn (kU (ju lines false)) tags cnt (jV lines false)), cc "packed" (rn (kU (ju lines ch)) tags cnt (jV lines ch)), cu "state", lu "back", lu "last", gb "Dfa", gb "list", gb "pack_dfa", gb "dict", gb "range", gb "len", gb "_law_first_fit", gb "_law_parents", gb "PackedDfa", gb "unpack_dfa", gb "_law_walked"] H
  refine ⟨lines.length, rfl, by exact J3 5 xs1, I3, fun Z zz => zz, ?_, ?_⟩
  ·rintro s hs
   have hls := x.row _ (jr (L := lines) (d := ([] : List Int)) hs)
   have hl0 := x.row _ (jr (L := lines) (d := ([] : List Int)) xs0)
   refine ⟨_, by kd_in, ?_⟩
   exists jn (kI (jU (ku (α := Nat) (fun c => .int (fL lines s c)) (by wtm_at "hcap") (jO ?_))))
   refine kE Vw.refl (by exact J4 16) (by exact J8 21 xs0) (by exact J8 22) ?_
   have hl1 := pO (L := lines.getD (0 : Int).toNat []) (by rw [show (0 : Int).toNat = 0 from rfl]; exact J0 6 xc hl0)
   kd_p
   rw [aa, show (0 : Int).toNat = 0 from rfl, hl0]
   refine ⟨cnt, rfl, by exact J1 5 xc, _, av cnt, fun c => .int (c : Nat), by wtm_at "crho", rfl, by rw [aq, am]; exact J2 5 xc, fun c hc => ⟨_, by kd_in, ?_⟩, ?_⟩
   ·have hc2 := aM.mp hc
    kd_p
    refine n7 P hst.arr hst.pk (by exact J1 15) (by exact J0 23 hs) ?_
    rw [hst.eq _ _ (by exact J1 15) (by exact J0 23 hs) (by exact J0 0) (by exact J0 23 hc2)]
    exact ⟨rfl, rfl⟩
   ·kd_p
    refine kE Vw.refl (by exact J0 0) (by exact J0 1 hs) (by exact J4 18 xs1 hs) ?_
    rw [ag, show (av cnt).map (fun (c : Nat) => PV.int (fL lines s c)) = jp (lines.getD s []) by
     rw [← hls]; exact DB hs]
    exists jT 1 (by decide) .refl .refl (by wtm_at "dat") (fun es => by simp) ?_
    exact jx.nx (by kd_all) (fun Z zz => zz)
  show lm _ _ _ _ _ _
  kd_p1
  kd_p1
  exists ny P (by kd_mem) ?_
  refine u9 P hst (by exact J8 23 xc) (by exact J0 15 xs1 xt) ?_
  rw [B9 x.row]
  kd_p
  exists jT 2 (by decide) .refl .refl (by wtm_at "dat") (fun es => by simp) ?_
  exists jT 2 (by decide) .refl .refl (by wtm_at "dat") (fun es => by simp) ?_
  refine n7 P hst.arr hst.pk (by exact J8 18) (by exact J8 19) ?_
  rw [oE]
  kd_p
  refine jC.neg (by exact J23 14) ?_
  wtm_at "w1"
  kd_p1
  kd_p1
  exists jn (kI (rx (jU (ku (α := Nat) (fun lh => sf (fL lines) tags (word.drop lh) lh 0 .none) (by wtm_at "hcap") (tf ?_)))))
  refine ⟨_, rfl, _, [0, 2], fun (i : Nat) => .int (i : Nat), by wtm_at "crho", rfl, by rw [am]; decide, fun c hc => ⟨_, by kd_in, ?_⟩, ?_⟩
  ·kd_p
   refine u8 P hst xs0 xt hw (by exact J23 15 hwl) ?_
   exact ⟨rfl, rfl⟩
  exists ku (α := Nat) (fun lh => sf (fL lines) tags (word.drop lh) lh 0 .none) (by wtm_at "hcap") (tf ?_)
  refine ⟨_, rfl, _, [0, 2], fun (i : Nat) => .int (i : Nat), by wtm_at "crho", rfl, by rw [am]; decide, fun c hc => ⟨_, by kd_in, ?_⟩, ?_⟩
  ·have hc2 : c ≤ 2 := by simp at hc; exact J23 16 hc
   exists ny P (by kd_mem) ?_
   refine xj P x hw (by exact J23 17 hwl) (by exact J23 18 hc2 hwl) ?_
   exact ⟨rfl, rfl⟩
  exists jT 4 (by decide) .refl .refl (k4 fun _ => yD B6) (fun es => by simp) ?_
  exists tz P hst.arr ?_
  rw [aa]
  refine jC.neg (by exact J23 19) ?_
  kd_p1
  kd_p1
  kd_p1
  exists Di P 1 ?_
  refine B8 P x hw ?_
  have hrn := qL hst (word := word) (s := 0) hw (by exact J1 23) (by exact J0 14 xs0)
  wtm_at "w1"
  wtm_at "mo"
  exists wb P hst xs0 hw ?_
  refine jC.neg (by exact J9 0) ?_
  generalize hlast : se (fL lines) word 0 = last at *
  wtm_at "mo"
  refine u7 P hst xs0 xt hw ?_
  rw [hlast]
  refine Ev.mono (Q := fun v H' => v = .tup (jp (wc tags last)) ∧ H' = H) (qk (jU ?_)) ?_
  ·kd_p
   refine jC.dec (fun h2 => ?_) fun h2 => ?_
   ·kd_p
    refine rp Vw.refl (by exact J1 2 hrn h2) (by exact J1 13 hrn xt xs0) (by exact J4 17 xs1 hrn) ?_
    unfold wc
    rw [if_neg h2]
    exact ⟨rfl, rfl⟩
   ·kd_p
    unfold wc
    rw [if_pos (by exact J1 1 h2)]
    exact ⟨rfl, rfl⟩
  rintro _ _ ⟨rfl, rfl⟩
  refine jT 1 (by decide) .refl .refl (by wtm_at "dat") (fun es => by simp) ?_
  kd_p1
  kd_p1
  kd_p1
  kd_p1
  kd_p1
  exists jn (kI (jU (ku (α := Nat) (fun s => .lst (jp (mj (jV lines ch) s))) (by wtm_at "hcap") (jO ?_))))
  rw [aa]
  refine ⟨lines.length, rfl, by exact J3 5 xs1, _, av lines.length, fun c => .int (c : Nat), by wtm_at "crho", rfl, by rw [aq, am]; exact J1 6 xs1, fun s hs => ⟨_, by kd_in, ?_⟩, ?_⟩
  ·have hs2 := aM.mp hs
   kd_p
   refine w8 P hst.pk (by exact J23 20 xs1) (by exact J1 15) (by exact J0 23 hs2) ?_
   exact ⟨rfl, rfl⟩
  exists ku (α := Nat) (fun s => .lst (jp (mj (jV lines ch) s))) (by wtm_at "hcap") (jO ?_)
  rw [aa]
  refine ⟨lines.length, rfl, by exact J3 5 xs1, _, av lines.length, fun c => .int (c : Nat), by wtm_at "crho", rfl, by rw [aq, am]; exact J1 6 xs1, fun s hs => ⟨_, by kd_in, ?_⟩, ?_⟩
  ·have hs2 := aM.mp hs
   exists ny P (by kd_mem) ?_
   refine wq P hst.pk (by exact J23 21 xs1) hs2 ?_
   exact ⟨rfl, rfl⟩
  exists jT 2 (by decide) .refl .refl (by wtm_at "dat") (fun es => by simp) ?_
  exact jx.nx (by kd_all) (fun Z zz => zz)
 show lm _ _ _ _ _ _
 exists jn (jR (m7 ?_))
 refine qs 4 (by decide) .refl .refl (by wtm_at "dat") ?_
 exact h
structure Ca (B T C O : List Int) (many : Nat) (cols : Int) : Prop where
 b : B.length = many
 o : O.length = many
 t : T.length = C.length
 ow : ∀ r : Nat, r < many → 0 ≤ O.getD r 0 ∧ O.getD r 0 < many
 ck : ∀ c : Nat, c < C.length → 0 ≤ C.getD c 0 ∧ C.getD c 0 ≤ many
 m : many ≤ 10
 c : C.length ≤ 10
theorem Cb {B T C : List Int} {j : Int} : jy B T C j C.length = [] ↔ (C.any (· == j + 1)) = false := by
 rw [← iM, bN]
 unfold jy
 rw [List.filterMap_eq_nil_iff]
 constructor
 ·rintro q ⟨v, hv, e⟩
  obtain ⟨i, hi, rfl⟩ := List.mem_iff_getElem.mp hv
  have := q i (aM.mpr hi)
  rw [kF hi, if_pos (by simpa using e)] at this
  cases this
 ·intro q i hi
  have hi2 := aM.mp hi
  rw [kF hi2, if_neg fun z => q ⟨_, bJ hi2, by simpa using z⟩]
theorem tE {O : List Int} {row : Nat} {o : Int} : (((((av (row + 1)).filter fun r => decide (O.getD r 0 = (r : Int))).map fun (r : Nat) => (r : Int)).any (· == o)) = true) ↔ (0 ≤ o ∧ o ≤ row ∧ O.getD o.toNat 0 = o) := by
 rw [bN]
 constructor
 ·rintro ⟨v, hv, e⟩
  obtain ⟨r, hr, rfl⟩ := az.mp hv
  obtain ⟨h1, h2⟩ := bz.mp hr
  have h1 := aM.mp h1
  have h2 := of_decide_eq_true h2
  have e : (r : Int) = o := by simpa using e
  subst e
  exact ⟨by exact J0 0, by exact J23 22 h1, by rw [ag]; exact h2⟩
 ·rintro ⟨h0, h1, h2⟩
  obtain ⟨r, rfl⟩ : ∃ r : Nat, o = (r : Int) := ⟨o.toNat, by exact J2 2 h0⟩
  rw [ag] at h2
  exact ⟨_, az.mpr ⟨r, bz.mpr ⟨aM.mpr (by exact J23 23 h1), decide_eq_true h2⟩, rfl⟩, by simp⟩
theorem xn (P : PW W) {B T C O : List Int} {many : Nat} {cols : Int} (x : Ca B T C O many cols) (h : ∀ b : Bool, (b = true ↔ nl B T C O many cols) → Q (.bool b) H) : jZ W (n + 1) H (.ref 709) [.lst (jp B), .lst (jp T), .lst (jp C), .lst (jp O), .int cols] Q := by
 have xb := x.b
 have xo := x.o
 have xt := x.t
 have xm := x.m
 have xc := x.c
 wtm_at "def"
 exists jn (m9 (tt := true) (fun _ => rfl) (vG (by kd_mem) (qz P) (by decide +kernel) (by with_unfolding_all rfl) ?_ (by decide +kernel)))
 let I1 : IT jt := fun i Z => (∀ r : Nat, r < i → mM B O r ∧ (jy B T C (O.getD r 0) C.length = [] → B.getD r 0 = 0)) → Z [lc "bases" (.lst (jp B)), lc "table" (.lst (jp T)), lc "check" (.lst (jp C)), cc "owners" (.lst (jp O)), lc "columns" (.int cols), lu "row", lu "owner", lu "cell", lu "mark", gb "enumerate", gb "range"] H
 refine ⟨_, rfl, uK.T I1 (fun Z zz => zz (fun r hr => by lia)) ?_ ?_⟩
 ·rintro i p hp hs
  obtain ⟨v, hv, rfl⟩ := qX hp
  rw [ax] at hv
  obtain ⟨o, ho, rfl⟩ := bc.mp hv
  have hi := (aA.mp ho).1
  have hoe : O.getD i 0 = o := by rw [aL, ho]; rfl
  have how := x.ow i (by exact J0 12 xo hi)
  rw [hoe] at how
  have key : nl B T C O many cols → mM B O i ∧ (jy B T C (O.getD i 0) C.length = [] → B.getD i 0 = 0) := fun y => ⟨y.1.2.2 i (by exact J0 12 xo hi), y.2.2 i (by exact J0 12 xo hi)⟩
  unfold mM at key
  rw [hoe] at key
  refine mW (xs := ["row", "owner"]) (ps := [.int (i : Nat), .int o]) Vw.refl rfl (.cons (by kd_in) (.cons (by kd_in) .nil)) ?_
  refine jn (kI (Tv.mono (Q' := fun b H' => H' = H ∧ (b = true ↔ ¬ (0 ≤ o ∧ o ≤ i ∧ O.getD o.toNat 0 = o ∧ B.getD i 0 = B.getD o.toNat 0))) (rx (jU ?_)) ?_))
  ·kd_p
   exists lj (α := Nat) (fun r => decide (O.getD r 0 = (r : Int))) (fun r => .int (r : Nat)) (by wtm_at "hcap") (jO ?_)
   rw [show ((i : Nat) : Int) + 1 = ((i + 1 : Nat) : Int) by exact J2 0]
   refine ⟨i + 1, rfl, by exact J24 0 xm xo hi, _, av (i + 1), fun c => .int (c : Nat), by wtm_at "crho", rfl, by rw [aq, am]; exact J24 1 xm xo hi, fun r hr => ⟨_, by kd_in, ?_⟩, ?_⟩
   ·have hr2 := aM.mp hr
    kd_p
    refine j9 Vw.refl (by exact J0 0) (by exact J24 2 hi hr2) (by exact J0 15 xm xo) ?_
    rw [ag]
    kd_p
    intro _
    kd_p
    exact rfl
   refine A4 (ns := ((av (i + 1)).filter fun r => decide (O.getD r 0 = (r : Int))).map fun (r : Nat) => (r : Int)) (by rw [aX]; exact Vw.refl) ?_
   kd_p
   refine jC.by (fun h1 => ?_) fun h1 => ?_
   ·exact ⟨rfl, nP rfl fun z => by
     rw [tE.mpr ⟨z.1, z.2.1, z.2.2.1⟩] at h1; cases h1⟩
   ·have h1 := tE.mp (by simpa using h1)
    kd_p
    refine j9 Vw.refl (by exact J0 0) (by exact J9 1 xo xb hi) (by exact J0 15 xm xb) ?_
    rw [ag]
    kd_p
    exists j9 Vw.refl (by exact J24 3 how) (by exact J24 4 h1 xb xo hi) (by exact J0 15 xm xb) ?_
    refine jC.dec (fun h2 => ?_) fun h2 => ?_
    ·exact ⟨rfl, nP rfl fun z => h2 z.2.2.2⟩
    ·kd_p
     exact j4 rfl fun z => z ⟨h1.1, h1.2.1, h1.2.2, by simpa using h2⟩
  rintro b H' ⟨rfl, hb⟩
  refine jC.by (fun h1 => ?_) fun h1 => ?_
  ·kd_p
   exact h _ (j4 rfl fun y => hb.mp h1 (key y).1)
  have h1 : 0 ≤ o ∧ o ≤ i ∧ O.getD o.toNat 0 = o ∧ B.getD i 0 = B.getD o.toNat 0 := Decidable.of_not_not fun z => by rw [hb.mpr z] at h1; cases h1
  have nx : (jy B T C o C.length = [] → B.getD i 0 = 0) → ∀ r : Nat, r < i + 1 → mM B O r ∧ (jy B T C (O.getD r 0) C.length = [] → B.getD r 0 = 0) := fun z r hr => by
   by_cases e : r = i
   ·subst e
    unfold mM
    rw [hoe]
    exact ⟨h1, z⟩
   ·exact hs r (by exact J0 11 hr e)
  rw [Cb] at key nx
  kd_p
  exists A4 (ns := C) Vw.refl ?_
  by_cases h2 : C.any (· == o + 1) = true
  ·rw [h2]
   exists jC.ff ?_
   exact jx.nx (by kd_all) (fun Z zz => zz (nx fun z => by rw [h2] at z; cases z))
  ·have h2 : C.any (· == o + 1) = false := (iM _).mp h2
   rw [h2]
   exists jC.tt ?_
   refine j9 Vw.refl (by exact J0 0) (by exact J9 1 xo xb hi) (by exact J0 15 xm xb) ?_
   rw [ag]
   kd_p
   refine jC.dec (fun h3 => ?_) fun h3 => ?_
   ·kd_p
    exact h _ (j4 rfl fun y => h3 ((key y).2 h2))
   ·kd_p
    exact jx.nx (by kd_all) (fun Z zz => zz (nx fun _ => by simpa using h3))
 rintro hs
 have hs : ∀ r : Nat, r < many → mM B O r ∧ (jy B T C (O.getD r 0) C.length = [] → B.getD r 0 = 0) := fun r hr => hs r (by rw [mX, aa]; exact J0 4 xo hr)
 exists jn (m9 (tt := true) (fun _ => rfl) (vG (by kd_mem) (qz P) (by decide +kernel) (by with_unfolding_all rfl) ?_ (by decide +kernel)))
 let I2 : IT jt := fun i Z => (∀ c : Nat, c < i → kW B T C O cols c) → Z [lc "bases" (.lst (jp B)), lc "table" (.lst (jp T)), lc "check" (.lst (jp C)), cc "owners" (.lst (jp O)), lc "columns" (.int cols), lu "row", lu "owner", lu "cell", lu "mark", gb "enumerate", gb "range"] H
 refine ⟨_, rfl, uK.T I2 (fun Z zz => zz (fun r hr => by lia)) ?_ ?_⟩
 ·rintro i p hp hc
  obtain ⟨v, hv, rfl⟩ := qX hp
  rw [ax] at hv
  obtain ⟨o, ho, rfl⟩ := bc.mp hv
  have hi := (aA.mp ho).1
  have hoe : C.getD i 0 = o := by rw [aL, ho]; rfl
  have hck := x.ck i hi
  have key : nl B T C O many cols → kW B T C O cols i := fun y => y.2.1.2.2 i hi
  unfold kW at key
  rw [hoe] at hck key
  have nx : (o = 0 → T.getD i 0 = 0) → (o ≠ 0 → O.getD (o - 1).toNat 0 = o - 1 ∧ 0 ≤ (i : Int) - B.getD (o - 1).toNat 0 ∧ (i : Int) - B.getD (o - 1).toNat 0 < cols) → ∀ c : Nat, c < i + 1 → kW B T C O cols c := fun q1 q2 c hcc => by
   by_cases e : c = i
   ·subst e; unfold kW; rw [hoe]; exact ⟨hck.1, by exact J24 5 hck xo, q1, q2⟩
   ·exact hc c (by exact J0 11 hcc e)
  exists mW (xs := ["cell", "mark"]) (ps := [.int (i : Nat), .int o]) Vw.refl rfl (.cons (by kd_in) (.cons (by kd_in) .nil)) ?_
  refine jC.dec (fun h1 => ?_) fun h1 => ?_
  ·kd_p
   refine j9 Vw.refl (by exact J0 0) (by exact J0 2 xt hi) (by exact J0 15 xc xt) ?_
   rw [ag]
   kd_p
   refine jC.dec (fun h2 => ?_) fun h2 => ?_
   ·kd_p
    exact h _ (j4 rfl fun y => h2 ((key y).2.2.1 h1))
   ·kd_p
    exists jC.neg (by exact J24 6 h1) ?_
    exact jx.nx (by kd_all) (fun Z zz => zz (nx (fun _ => by simpa using h2) fun z => absurd h1 z))
  ·kd_p
   exists jC.pos h1 ?_
   exists j9 Vw.refl (by exact J9 2 hck h1) (by exact J9 3 hck xo h1) (by exact J0 15 xm xo) ?_
   refine jC.dec (fun h2 => ?_) fun h2 => ?_
   ·kd_p
    exact h _ (j4 rfl fun y => h2 ((key y).2.2.2 h1).1)
   kd_p
   exists j9 Vw.refl (by exact J9 2 hck h1) (by exact J9 3 hck xb h1) (by exact J0 15 xm xb) ?_
   exists EJ ?_
   by_cases h3 : 0 ≤ (i : Int) - B.getD (o - 1).toNat 0 ∧ (i : Int) - B.getD (o - 1).toNat 0 < cols
   ·rw [decide_eq_true h3.1, decide_eq_true h3.2]
    exists jC.ff ?_
    exact jx.nx (by kd_all) (fun Z zz => zz (nx (fun z => absurd z h1) fun z => ⟨by simpa using h2, h3⟩))
   ·rw [show (decide (0 ≤ (i : Int) - B.getD (o - 1).toNat 0) && decide ((i : Int) - B.getD (o - 1).toNat 0 < cols)) = false by rw [← iZ]; exact decide_eq_false h3]
    exists jC.tt ?_
    exact h _ (j4 rfl fun y => h3 ((key y).2.2.2 h1).2)
 rintro hc
 have hc : ∀ c : Nat, c < C.length → kW B T C O cols c := fun r hr => hc r (by rw [mX, aa]; exact J5 14 hr)
 have hsR : tq B O many := ⟨xb, xo, fun r hr => (hs r hr).1⟩
 exists jn (jR (kR (Br (m7 ?_))))
 intro ae
 kd_p
 refine CZ Vw.refl (.lst (.head _)) ?_
 rw [show (jp C).isEmpty = decide (C = []) by cases C <;> simp]
 refine ⟨_, rfl, jC.dec (fun h1 => ?_) fun h1 => ?_⟩
 ·refine ⟨_, _, .one, h _ (nP rfl ⟨hsR, ⟨xt, .inl h1, hc⟩, fun r hr => (hs r hr).2⟩)⟩
 ·have hpos := bI.mpr h1
  kd_p
  refine nY (x := .int (mS C)) Vw.refl (by decide) (by rw [aa]; exact J3 22 hpos) (by rw [show (jp C).length = C.length by simp]; exact pE (u3 h1)) (by decide) ?_
  kd_p
  refine ⟨_, _, .one, h _ ?_⟩
  rw [decide_eq_true_iff]
  exact ⟨fun z => ⟨hsR, ⟨xt, .inr z, hc⟩, fun r hr => (hs r hr).2⟩, fun y => y.2.1.2.1.resolve_left h1⟩
theorem wu {B T C : List Int} {j : Int} {n : Nat} {x : Int × Int} : x ∈ jy B T C j n ↔ ∃ c : Nat, c < n ∧ C.getD c 0 = j + 1 ∧ x = ((c : Int) - B.getD j.toNat 0, T.getD c 0) := by
 unfold jy
 rw [fy]
 constructor
 ·rintro ⟨c, hc, e⟩
  split at e
  ·rename_i h; exact ⟨c, aM.mp hc, h, (bD e).symm⟩
  ·cases e
 ·rintro ⟨c, hc, h, rfl⟩
  exact ⟨c, aM.mpr hc, by rw [if_pos h]⟩
theorem Cc {B T C : List Int} {j b : Int} (hb : b = B.getD j.toNat 0) (ht : T.length = C.length) {col : Int} : lI b T C j col = jB (jy B T C j C.length) col := by
 have key : ∀ v, jB (jy B T C j C.length) col = some v ↔ ∃ c : Nat, c < C.length ∧ C.getD c 0 = j + 1 ∧ (col, v) = ((c : Int) - B.getD j.toNat 0, T.getD c 0) := fun v => by
  rw [← wu]
  exact ⟨fun h => lw h, fun h => mL.get h⟩
 have hnone : (∀ v, ¬ ∃ c : Nat, c < C.length ∧ C.getD c 0 = j + 1 ∧ (col, v) = ((c : Int) - B.getD j.toNat 0, T.getD c 0)) → jB (jy B T C j C.length) col = none := fun h => by
  cases e : jB (jy B T C j C.length) col with
  | none => rfl
  | some v => exact absurd ((key v).mp e) (h v)
 rw [← hb] at key hnone
 unfold lI
 by_cases h1 : b + col < 0
 ·rw [if_pos h1, hnone]
  rintro v ⟨c, h2, h3, h4⟩
  have := (iS h4).1; lia
 rw [if_neg h1]
 have hbc : (((b + col).toNat : Nat) : Int) = b + col := bP (by exact J3 2 h1)
 by_cases h2 : (b + col).toNat < C.length
 ·rw [jM (d := (0 : Int)) h2, jM (L := T) (d := (0 : Int)) (by exact J24 7 ht h2)]
  simp only
  split
  ·rename_i h3
   exact ((key _).mpr ⟨_, h2, h3, by rw [hbc]; congr 1; exact J24 8⟩).symm
  ·rename_i h3
   rw [hnone]
   rintro v ⟨c, h4, h5, h6⟩
   have := (iS h6).1
   rw [show (b + col).toNat = c by lia] at h3
   exact h3 h5
 ·rw [a8 (by exact J8 3 h2), hnone]
  rintro v ⟨c, h4, h5, h6⟩
  have := (iS h6).1; lia
theorem Cd {B T C O : List Int} {r : Nat} (h : r < O.length) : (lX B T C O).getD r [] = jy B T C (O.getD r 0) C.length := by
 unfold lX
 rw [kF (by simpa using h), kF h, bk]
theorem rk.keys {B T C O : List Int} {cols : Int} (y : rk B T C O cols) {o : Int} (h0 : 0 ≤ o) : ∀ p ∈ jy B T C o C.length, 0 ≤ p.1 ∧ p.1 < cols := fun p hp => by
 obtain ⟨c, h1, h2, rfl⟩ := wu.mp hp
 have := ((y.2.2 c h1).2.2.2 (by exact J24 9 h0 h2)).2
 rw [h2, show o + 1 - 1 = o by exact J24 10] at this
 exact this
theorem nl.rows {B T C O : List Int} {many : Nat} {cols : Int} (y : nl B T C O many cols) (hm : many < 64) (hc : C.length < 64) (hcol : cols ≤ 64) : j3 (lX B T C O) where
 row := fun d hd => by
  obtain ⟨o, ho, rfl⟩ := az.mp hd
  have h0 : 0 ≤ o := ((nl.arr y.1 y.2.1 hm (by exact J0 13 hc)).own o ho).1
  have hk := y.2.1.keys h0
  exact ⟨mL, fun p hp => (hk p hp).1, fun p hp => by have := (hk p hp).2; exact J24 11 hcol this, bH nE hc⟩
 len := by unfold lX; rw [aa, y.1.2.1]; exact hm
theorem Ce (P : PW W) {K : HO → HH} {p : Addr} (U : ∀ o o', kQ p o o' (K o) (K o')) {ns : List Int} {sp gr : Int} (hz : ns.length ≤ 64) (h0 : 0 ≤ sp) (h1 : sp ≤ 500000) (hg : 0 ≤ gr)
  (hq : ∀ (sp' gr' : Int), 0 ≤ sp' → sp' ≤ sp + 1000 → 0 ≤ gr' → Q (.bool true) (K (kr ns sp' gr'))) : jZ W (n + 9) (K (kr ns sp gr)) (.ref 714) [.ref p] Q := by
 wtm_at "def"
 exists jn (k7 (xs := ["many", "columns"]) rfl (by decide) (.inr rfl) ?_)
 exists ke P U hz h0 (by exact J3 0 h1) hg (by decide) (by decide) fun d1 sp1 gr1 a0 a1 s0 s1 g1 => ?_
 exists ke P U hz s0 (by exact J4 14 s1 h1) g1 (by decide) (by decide) fun d2 sp2 gr2 b0 b1 s2 s3 g2 => ?_
 refine ⟨_, _, rfl, .cons (by kd_in) (.cons (by kd_in) .nil), ?_⟩
 obtain ⟨many, rfl⟩ : ∃ many : Nat, d1 = (many : Int) - 1 := ⟨(d1 + 1).toNat, by exact J24 12 a0⟩
 rw [show (1 : Int) + ((many : Int) - 1) = (many : Nat) by exact J24 13]
 generalize hcol : (1 : Int) + d2 = cols
 wtm_at "mo"
 refine ny P (by kd_mem) ?_
 wtm_at "mo"
 refine ke P U hz s2 (by exact J24 14 s3 s1 h1) g2 (by decide) (by decide) fun size sp3 gr3 c0 c1 s4 s5 g3 => ?_
 obtain ⟨size, rfl⟩ : ∃ s : Nat, size = (s : Int) := ⟨size.toNat, by exact J2 2 c0⟩
 kd_p1
 exists jn (qb (α := Nat) (by wtm_at "hcap") (jO ?_))
 let I1 : IT (List PV) := fun i Z => ∀ (l : List Int) (sp' gr' : Int), 0 ≤ sp' → sp' ≤ sp3 + i → 0 ≤ gr' → Z (jp l) (K (kr ns sp' gr'))
 refine ⟨many, rfl, by exact J4 23 a1, _, av many, fun c => .int (c : Nat), I1, by wtm_at "crho", rfl, by rw [aq, am]; exact J9 4 a1, fun Z zz => zz [] sp3 gr3 s4 (by exact J0 18) g3, ?_, ?_⟩
 ·rintro j c hc l sp5 gr5 s8 s9 g5 hyl
  refine ⟨_, by kd_in, kR (ny P (by kd_mem) ?_)⟩
  have hj := (aA.mp hc).1
  rw [aq] at hj
  kd_p
  intro a4
  kd_p
  refine oF (K := fun o => (a4, .lst (jp [0, 0, 1, 0 - 1])) :: K o) P (fun o o' => .tail (U o o')) (fun o => .lst (.head _)) (by decide) (by decide) hz s8 (by exact J24 15 s5 s3 s1 s9 h1 a1 hj) g5 fun x hx sp6 gr6 s10 s11 g6 => ?_
  obtain ⟨v, hv, rfl⟩ := az.mp hx
  refine ⟨_, _, .one, ?_⟩
  exact Of.eq (by simp) (fun Z zz => zz (l ++ [v]) sp6 gr6 s10 (by exact J0 19 s11 s9) g6)
 rintro B sp4 gr4 s6 s7 g4 hyl
 rw [aa, aq] at hyl
 rw [aq] at s7
 kd_p1
 exists jn (qb (α := Nat) (by wtm_at "hcap") (jO ?_))
 let I2 : IT (List PV) := fun i Z => ∀ (l : List Int) (sp' gr' : Int), (∀ v ∈ l, 0 ≤ v ∧ v < many) → 0 ≤ sp' → sp' ≤ sp4 + i → 0 ≤ gr' → Z (jp l) (K (kr ns sp' gr'))
 refine ⟨many, rfl, by exact J4 23 a1, _, av many, fun c => .int (c : Nat), I2, by wtm_at "crho", rfl, by rw [aq, am]; exact J9 4 a1, fun Z zz => zz [] sp4 gr4 (by simp) s6 (by exact J0 18) g4, ?_, ?_⟩
 ·rintro j c hc l sp5 gr5 hl s8 s9 g5 hyl
  have hj2 := aM.mp (aS hc)
  have hj := (aA.mp hc).1
  rw [aq] at hj
  exists ⟨_, by kd_in, kR (ny P (by kd_mem) ?_)⟩
  intro a4
  kd_p
  refine oF (K := fun o => (a4, .lst (jp [(c : Int), (c : Int), 0, (many : Int) - 1])) :: K o) P (fun o o' => .tail (U o o')) (fun o => .lst (.head _)) (by simp) (by simp) hz s8 (by exact J24 16 s3 s5 s1 s7 s9 h1 a1 hj) g5 fun x hx sp6 gr6 s10 s11 g6 => ?_
  obtain ⟨v, hv, rfl⟩ := az.mp hx
  refine ⟨_, _, .one, ?_⟩
  refine Of.eq (by simp) (fun Z zz => zz (l ++ [v]) sp6 gr6 (fun z hzz => ?_) s10 (by exact J0 19 s11 s9) g6)
  rcases aQ.mp hzz with hzz | hzz
  ·exact hl z hzz
  ·simp only [au, bw, or_false] at hzz hv
   subst hzz
   rcases hv with rfl | rfl | rfl | rfl <;> lia
 rintro O sp5 gr5 hO s8 s9 g5 hyO
 rw [aa, aq] at hyO
 rw [aq] at s9
 kd_p1
 exists jn (qb (α := Nat) (by wtm_at "hcap") (jO ?_))
 let I3 : IT (List PV) := fun i Z => ∀ (l : List Int) (sp' gr' : Int), (∀ v ∈ l, 0 ≤ v ∧ v ≤ many) → 0 ≤ sp' → sp' ≤ sp5 + i → 0 ≤ gr' → Z (jp l) (K (kr ns sp' gr'))
 refine ⟨size, rfl, by exact J9 5 c1, _, av size, fun c => .int (c : Nat), I3, by wtm_at "crho", rfl, by rw [aq, am]; exact J9 6 c1, fun Z zz => zz [] sp5 gr5 (by simp) s8 (by exact J0 18) g5, ?_, ?_⟩
 ·rintro j c hc l sp6 gr6 hl s10 s11 g6 hyl
  have hj := (aA.mp hc).1
  rw [aq] at hj
  exists ⟨_, by kd_in, ny P (by kd_mem) ?_⟩
  refine ke P U hz s10 (by exact J24 17 s1 s5 s3 s7 s11 s9 h1 c1 a1 hj) g6 (by exact J4 15) (by exact J24 18 a1) fun d sp7 gr7 e0 e1 s12 s13 g7 => ?_
  refine Of.eq (by simp) (fun Z zz => zz (l ++ [d]) sp7 gr7 (fun z hzz => ?_) s12 (by exact J0 19 s13 s11) g7)
  rcases aQ.mp hzz with hzz | hzz
  ·exact hl z hzz
  ·simp only [au, bw, or_false] at hzz
   subst hzz; exact J24 19 e0 e1
 rintro C sp6 gr6 hC s10 s11 g6 hyC
 rw [aa, aq] at hyC
 rw [aq] at s11
 kd_p1
 exists jn (qb (α := Int) (by wtm_at "hcap") (jP ?_))
 let I4 : IT (List PV) := fun i Z => ∀ (l : List Int) (sp' gr' : Int), 0 ≤ sp' → sp' ≤ sp6 + 2 * i → 0 ≤ gr' → Z (jp l) (K (kr ns sp' gr'))
 refine ⟨_, rfl, _, C, PV.int, I4, by wtm_at "crho", rfl, by rw [am]; exact J24 20 hyC c1, fun Z zz => zz [] sp6 gr6 s10 (by exact J5 0) g6, ?_, ?_⟩
 ·rintro j c hc l sp7 gr7 s12 s13 g7 hyl
  have hj := (aA.mp hc).1
  refine ⟨_, by kd_in, qk (Tv.mono (Q' := fun b H' => ∃ sp' gr' : Int, H' = K (kr ns sp' gr') ∧ 0 ≤ sp' ∧ sp' ≤ sp7 + 1 ∧ 0 ≤ gr') (rx (jU ?_)) ?_)⟩
  ·kd_p
   refine jC.dec (fun h2 => ?_) fun h2 => ?_
   ·exact ⟨sp7, gr7, rfl, s12, by exact J2 23, g7⟩
   ·kd_p
    exists ke P U hz s12 (by exact J24 21 s1 s5 s3 s7 s11 s9 s13 h1 hyC c1 a1 hj) g7 (by decide) (by decide) fun d sp8 gr8 e0 e1 s14 s15 g8 => ?_
    refine jC.by (fun _ => ?_) fun _ => ?_
    ·exact ⟨sp8, gr8, rfl, s14, s15, g8⟩
    ·kd_p
     exact ⟨sp8, gr8, rfl, s14, s15, g8⟩
  rintro b _ ⟨sp8, gr8, rfl, s14, s15, g8⟩
  refine jC.by (fun _ => ?_) fun _ => ?_
  ·kd_p
   exists ke P U hz s14 (by exact J24 22 s3 s15 s1 s5 s7 s11 s9 s13 h1 hyC c1 a1 hj) g8 (by decide) (by decide) fun d sp9 gr9 e0 e1 s16 s17 g9 => ?_
   exact Of.eq (by simp) (fun Z zz => zz (l ++ [d]) sp9 gr9 s16 (by exact J2 6 s17 s15 s13) g9)
  ·kd_p
   exact Of.eq (by simp) (fun Z zz => zz (l ++ [0]) sp8 gr8 s14 (by exact J3 6 s15 s13) g8)
 rintro T sp7 gr7 s12 s13 g7 hyT
 rw [aa] at hyT
 have hq' : Q (.bool true) (K (kr ns sp7 gr7)) := hq sp7 gr7 s12 (by exact J24 23 s3 s1 s5 s7 s11 s9 s13 hyC c1 a1) g7
 clear s0 s1 g1 s2 s3 g2 s4 s5 g3 s6 s7 g4 s8 s9 g5 s10 s11 g6 hq
 have xD : Ca B T C O many cols := ⟨hyl, hyO, by exact J9 7 hyT, fun r hr => hO _ (jr (by exact J0 4 hyO hr)), fun c hc => hC _ (jr hc), by exact J25 0 a1, by exact J25 1 hyC c1⟩
 generalize K (kr ns sp7 gr7) = H at *
 have hTs := pO (L := T) (by exact J2 7 hyT hyC c1)
 kd_p
 exists nj P ?_
 exists u4 P (by exact J0 20 hyl a1) (by exact J0 20 hyO a1) (by exact J2 8 a1) (by exact J2 7 hyT hyC c1) (by exact J1 8 hyC c1) fun t1 ht1 => ?_
 exists xS ?_
 refine xn P xD fun b hb => ?_
 rw [show (t1 == "") = b by rw [eR, ht1, hb]]
 wtm_at "w1"
 refine jT (t := .bool b) 0 (by decide) .refl .refl trivial (fun es => by simp) ?_
 wtm_at "w1"
 wtm_at "mo"
 rw [show (many : Int) + 1 = ((many + 1 : Nat) : Int) by exact J2 0]
 exists u4 P (by exact J0 20 hyl a1) (by exact J0 20 hyO a1) (by exact J25 2 a1) (by exact J2 7 hyT hyC c1) (by exact J1 8 hyC c1) fun t2 ht2 => ?_
 refine xS ?_
 rw [show (t2 == "") = false from ec.mpr fun z => by have := (ht2.mp z).1.1; exact J25 3 hyl this]
 wtm_at "mo"
 refine uS P (by kd_mem) ?_
 kd_p1
 kd_p1
 exists jA (kR (li (kP ?_)))
 intro e1
 kd_p
 refine uP Vw.refl (.lst (.head _)) (by rw [aa, am]; simp; exact J25 4 hyT hyC c1) fun e2 => ⟨e2, _, _, rfl, rfl, _, _, .one, ?_⟩
 rw [show jp T ++ [PV.int 0] = jp (T ++ [0]) by simp]
 kd_p
 exists nj P ?_
 refine u4 P (by exact J0 20 hyl a1) (by exact J0 20 hyO a1) (by exact J2 8 a1) (by simp; exact J25 5 hyT hyC c1) (by exact J1 8 hyC c1) fun t3 ht3 => ?_
 kd_p
 refine xS ?_
 rw [show (t3 == "") = false from ec.mpr fun z => by have := (ht3.mp z).2.1.1; simp at this; exact J25 6 hyT this]
 kd_p
 exists u4 P (by exact J0 20 hyl a1) (by exact J0 20 hyO a1) (by exact J2 8 a1) (by exact J2 7 hyT hyC c1) (by exact J1 8 hyC c1) fun t4 ht4 => ?_
 exists A5 ?_
 by_cases hA : nl B T C O many cols
 rotate_left
 ·rw [show (t4 == "") = false from ec.mpr fun z => hA (ht4.mp z)]
  exists jC.tt ?_
  exact hq'
 rw [ht4.mpr hA]
 exists jC.ff ?_
 have hAr := nl.arr hA.1 hA.2.1 (by exact J2 8 a1) (by exact J1 8 hyC c1)
 have hRo := hA.rows (by exact J2 8 a1) (by exact J25 7 hyC c1) (by exact J25 8 b1 hcol)
 have hbk : (lX B T C O).length = many := by unfold lX; rw [aa, hyO]
 exists oA P hAr ?_
 exists jI ?_
 let I5 : IT jt := fun i Z => Z [cc "pen" (.ref p), cc "many" (.int (many : Nat)), cc "columns" (.int cols), lc "size" (.int (size : Nat)), cu "row", lc "bases" (.lst (jp B)), lc "owners" (.lst (jp O)), lc "check" (.lst (jp C)), lc "table" (.lst (jp T)), cc "held" (wB B T C O), cc "back" (jY (lX B T C O)), gb "_law_draw", gb "range", gb "PackedRows", gb "_law_is_sound", gb "packed_rows"] H
 refine ⟨many, rfl, by exact J4 23 a1, I5, fun Z zz => zz, ?_, ?_⟩
 ·rintro i hi
  have hsr := hA.1.2.2 i hi
  have hkeys := hA.2.1.keys hsr.1
  have hat := Cd (B := B) (T := T) (C := C) (r := i) (O := O) (by exact J0 4 hyO hi)
  have hrl := nE (B := B) (T := T) (C := C) (j := O.getD i 0) (c := C.length)
  refine ⟨_, by kd_in, ?_⟩
  exists jn (kI (pf (jU (lj (α := Int) (fun k => !(decide (0 ≤ k) && decide (k < cols))) PV.int (by wtm_at "hcap") (wQ (f := PV.int) ?_)))))
  refine pn Vw.refl (by exact J0 0) (by exact J0 2 hbk hi) (by exact J9 8 a1 hi) ?_
  rw [ag, hat]
  refine ⟨_, rfl, _, (jy B T C (O.getD i 0) C.length).map ai, PV.int, by wtm_at "crho", by rw [aX]; rfl, by rw [aa, am]; exact J25 9 hrl hyC c1, fun k hk => ⟨_, by kd_in, ?_⟩, ?_⟩
  ·kd_p
   obtain ⟨q, hq, rfl⟩ := az.mp hk
   have hk2 := hkeys q hq
   exists jC.pos hk2.1 ?_
   rw [decide_eq_true hk2.1, decide_eq_true hk2.2]
   exact ⟨rfl, rfl, fun z => by cases z⟩
  ·rw [show ((jy B T C (O.getD i 0) C.length).map ai).filter (fun k => !(decide (0 ≤ k) && decide (k < cols))) = [] by
    rw [cx]
    intro k hk
    obtain ⟨q, hq, rfl⟩ := az.mp hk
    have hk2 := hkeys q hq
    rw [decide_eq_true hk2.1, decide_eq_true hk2.2]; decide]
   kd_p
   intro e3
   kd_p
   exists nD (xs := []) Vw.refl (.lst (.head _)) ?_
   refine ⟨_, _, .one, ?_⟩
   show jC false _ _
   refine jC.ff ?_
   kd_p1
   exists jn (kI (jU (ku (α := Int) (fun col => vX (jB (jy B T C (O.getD i 0) C.length) col)) (by wtm_at "hcap") (te ?_))))
   refine ⟨-4, 8, rfl, by decide, _, tQ (-4) 8, PV.int, by wtm_at "crho", rfl, by rw [k8, am]; decide, fun col hcol2 => ⟨_, by kd_in, ?_⟩, ?_⟩
   ·exists x_meth ?_
    refine tn P (by exact J0 4 hyl hi) (by exact J0 20 hyl a1) (by exact J0 4 hyO hi) (by exact J0 20 hyO a1) (by exact J25 10 hyT) (by exact J2 7 hyT hyC c1) ?_
    rw [Cc hsr.2.2.2 (by exact J9 7 hyT)]
    exact ⟨rfl, rfl⟩
   exists ku (α := Int) (fun col => vX (jB (jy B T C (O.getD i 0) C.length) col)) (by wtm_at "hcap") (te ?_)
   refine ⟨-4, 8, rfl, by decide, _, tQ (-4) 8, PV.int, by wtm_at "crho", rfl, by rw [k8, am]; decide, fun col hcol2 => ⟨_, by kd_in, ?_⟩, ?_⟩
   ·exists x_get ?_
    refine pn Vw.refl (by exact J0 0) (by exact J0 2 hbk hi) (by exact J9 8 a1 hi) ?_
    rw [ag, hat]
    kd_p
    refine uo (f := PV.int) (v := vX (jB (jy B T C (O.getD i 0) C.length) col)) Vw.refl (by cases jB (jy B T C (O.getD i 0) C.length) col <;> rfl) ?_
    exact ⟨rfl, rfl⟩
   exists jT 1 (by decide) .refl .refl (k4 fun _ => B7) (fun es => by simp) ?_
   exact jx.nx (by kd_all) (fun Z zz => zz)
 ·show lm _ _ _ _ _ _
  refine jn (jR (m7 ?_))
  exists x_meth (ny P (by kd_mem) ?_)
  exists kz P hRo ?_
  refine oA P (B5 hRo) ?_
  rw [ve hRo]
  kd_p
  refine qs (t := jY (lX B T C O)) 1 (by decide) .refl .refl (k4 fun _ => qO) ?_
  exact hq'
noncomputable def Eo (low high : Int) : Prop := ¬ (-128 ≤ low ∧ high < 128) ∧ ¬ (low = 0 ∧ high < 256)
noncomputable def DC (low high : Int) : Prop := ¬ (-32768 ≤ low ∧ high < 32768) ∧ ¬ (low = 0 ∧ high < 65536)
theorem DD {low high : Int} (h1 : -128 ≤ low) (h2 : high < 128) : kindOf low high = (("int8" : Str), 1) := by
 unfold kindOf lS
 rw [cI (by simp [jQ]; exact J25 11 h1 h2)]
theorem DE {low high : Int} (h0 : ¬ (-128 ≤ low ∧ high < 128)) (h1 : low = 0) (h2 : high < 256) : kindOf low high = (("uint8" : Str), 1) := by
 unfold kindOf lS
 rw [ba (by simp [jQ]; exact J25 12 h0), cI (by simp [jQ]; exact J25 13 h2 h1)]
theorem Cf {low high : Int} (hl : low ≤ 0) (h : Eo low high) (h1 : -32768 ≤ low) (h2 : high < 32768) : kindOf low high = (("int16" : Str), 2) := by
 unfold Eo at h
 unfold kindOf lS
 rw [ba (by simp [jQ]; exact J9 9 h), ba (by simp [jQ]; exact J25 14 hl h), cI (by simp [jQ]; exact J25 15 h1 h2)]
theorem Cg {low high : Int} (h : Eo low high) (h0 : ¬ (-32768 ≤ low ∧ high < 32768)) (h1 : low = 0) (h2 : high < 65536) : kindOf low high = (("uint16" : Str), 2) := by
 unfold Eo at h
 unfold kindOf lS
 rw [ba (by simp [jQ]; exact J9 9 h), ba (by simp [jQ]; exact J25 16 h h1), ba (by simp [jQ]; exact J25 17 h0), cI (by simp [jQ]; exact J25 18 h2 h1)]
theorem DF {low high : Int} (hl : low ≤ 0) (h : Eo low high) (h0 : DC low high) : kindOf low high = (("int32" : Str), 4) := by
 unfold Eo at h
 unfold DC at h0
 unfold kindOf lS
 rw [ba (by simp [jQ]; exact J25 19 h0), ba (by simp [jQ]; exact J25 20 h0), ba (by simp [jQ]; exact J25 21 h0), ba (by simp [jQ]; exact J25 22 hl h0), List.find?_nil]
theorem Ad {L : List (Int × Int)} (h : L ≠ []) : (nB L)[0]? = some (oQ L) := by
 unfold oQ
 have hp := kk L
 cases e : nB L with
 | nil => rw [e] at hp; exact absurd hp.symm.eq_nil h
 | cons d M => rfl
theorem DG (P : PW W) {L : List Int} (hz : L.length < 64) (h : Q (.int (kj L)) H) : jZ W (n + 1) H (.ref 629) [.lst (jp L)] Q := by
 wtm_at "def"
 exists jn (jD rfl (li (lv P (by kd_mem) (jA (ku (α := Int) (fun g => kY (oB L g)) (by wtm_at "hcap") (jP ?_))))))
 refine ⟨_, rfl, _, L, PV.int, by wtm_at "crho", rfl, by rw [am]; exact J0 5 hz, fun g hg => ⟨_, by kd_in, ?_⟩, ?_⟩
 ·kd_p
  exists ue Vw.refl ?_
  rw [gt]
  exact rfl
 rw [show L.map (fun g => kY (oB L g)) = (L.map (oB L)).map kY by rw [aX]; rfl]
 refine ml (rc Vw.refl (by rw [aa]; exact hz) fun a => ⟨a, _, _, rfl, rfl, ?_⟩)
 kd_p1
 exists jn (jR (qk (pf (jU ?_))))
 intro ae
 kd_p
 exists nD Vw.refl (.lst (.head _)) ?_
 refine ⟨_, _, .one, ?_⟩
 have hlen : (nB (L.map (oB L))).length = L.length := by rw [(kk _).length_eq, aa]
 unfold kj at h
 by_cases hL : L = []
 ·rw [if_pos hL] at h
  rw [show (!((nB (L.map (oB L))).map kY).isEmpty) = false by subst hL; rw [cZ, (kk []).eq_nil]; rfl]
  exists jC.ff ?_
  exact h
 ·rw [if_neg hL] at h
  have hne : L.map (oB L) ≠ [] := fun z => hL (eT.mp z)
  have hat := Ad hne
  rw [show (!((nB (L.map (oB L))).map kY).isEmpty) = true by
   cases e : nB (L.map (oB L)) with
   | nil => rw [e] at hat; cases hat
   | cons => rfl]
  exists jC.tt ?_
  refine jz (x := kY (oQ (L.map (oB L)))) Vw.refl (by decide) (by rw [ax, show (0 : Int).toNat = 0 from rfl, hat]; rfl) (by decide) ?_
  kd_p
  exact kJ (x := .int (oQ (L.map (oB L))).2) Vw.refl (by decide) rfl (by decide) h
theorem yE (P : PW W) {L : List Int} (hz : L.length ≤ 5000) (hlo : sV (L ++ [0]) ≤ 0) (hhi : 0 ≤ ot (L ++ [0])) (h : Q (.tup [.str (kD L).1, .int (kD L).2]) H) : jZ W (n + 1) H (.ref 658) [.lst (jp L)] Q := by
 have hne : L ++ [0] ≠ [] := by simp
 wtm_at "def"
 refine jn (k7 (xs := ["low", "high"]) rfl (by decide) (.inr rfl) ?_)
 kd_p1
 exists jA (kR (vS P (by kd_mem) ?_))
 intro a
 wtm_at "w1"
 refine uP (.refl) (.lst (.head _)) (by rw [aa, am]; simp; exact J2 18 hz) fun b => ?_
 kd_p
 refine uN (ns := L ++ [0]) (.lst (by rw [aJ]; exact .head _)) hne ?_
 refine ⟨_, _, .two, ?_⟩
 exists jA (kR (vR P (by kd_mem) ?_))
 intro a'
 wtm_at "w1"
 refine uP (.refl) (.lst (.head _)) (by rw [aa, am]; simp; exact J2 18 hz) fun b' => ?_
 kd_p
 refine si (ns := L ++ [0]) (.lst (by rw [aJ]; exact .head _)) hne ?_
 refine ⟨_, _, .two, ?_⟩
 unfold kD at h
 generalize sV (L ++ [0]) = low at *
 generalize ot (L ++ [0]) = high at *
 kd_p
 refine ⟨_, _, rfl, .cons (by kd_in) (.cons (by kd_in) .nil), ?_⟩
 exists jn (qK (α := Int) ?_)
 let I1 : IT jt := fun i Z => (1 ≤ i → Eo low high) → (2 ≤ i → DC low high) → Z [lc "numbers" (.lst (jp L)), lc "low" (.int low), lc "high" (.int high), lu "size", lu "half", gb "min", gb "max", gb "str"] H
 refine ⟨[1, 2], PV.int, rfl, I1, fun Z zz => zz (by lia) (by lia), ?_, ?_⟩
 ·rintro i a ha i1 i2
  obtain ⟨hf, n1, n2, e0, e1, e2, e3, k1, k2, nx⟩ : ∃ (hf : Int) (n1 n2 : Str), (0 ≤ a ∧ a ≤ 2 ∧ 0 ≤ hf ∧ hf ≤ 40000 ∧ (eW (toString (8 * a))).length ≤ 5) ∧ ((256 : Int) ^ a.toNat).fdiv 2 = hf ∧ ("int" : Str) ++ eW (toString (8 * a)) = n1 ∧ ("uint" : Str) ++ eW (toString (8 * a)) = n2 ∧
    (-hf ≤ low → high < hf → kindOf low high = (n1, a)) ∧ (¬ (-hf ≤ low ∧ high < hf) → low = 0 → high < 2 * hf → kindOf low high = (n2, a)) ∧ (¬ (-hf ≤ low ∧ high < hf) → ¬ (low = 0 ∧ high < 2 * hf) → (1 ≤ i + 1 → Eo low high) ∧ (2 ≤ i + 1 → DC low high)) := by
   match i, ha with
   | 0, ha =>
    obtain rfl : (1 : Int) = a := by simpa using ha
    exact ⟨128, "int8", "uint8", by decide +kernel, by decide, by decide +kernel, by decide +kernel, fun h1 h2 => DD (by exact J25 23 h1) (by exact J26 0 h2), fun h1 h2 h3 => DE (by exact J9 10 h1) h2 (by exact J26 1 h3), fun h1 h2 => ⟨fun _ => ⟨by exact J9 10 h1, by exact J26 2 h2⟩, by lia⟩⟩
   | 1, ha =>
    obtain rfl : (2 : Int) = a := by simpa using ha
    have := i1 (by exact J26 3)
    exact ⟨32768, "int16", "uint16", by decide +kernel, by decide, by decide +kernel, by decide +kernel, fun h1 h2 => Cf hlo this (by exact J26 4 h1) (by exact J26 5 h2), fun h1 h2 h3 => Cg this (by exact J9 11 h1) h2 (by exact J26 6 h3), fun h1 h2 => ⟨fun _ => this, fun _ => ⟨by exact J9 11 h1, by exact J26 7 h2⟩⟩⟩
   | n + 2, ha => simp at ha
  refine ⟨_, by kd_in, ?_⟩
  wtm_at "mo"
  refine qS e0.1 (by exact J26 8 e0) (by decide) ?_
  wtm_at "mo"
  refine uD (by decide) (by decide) ?_
  rw [e1]
  kd_p1
  refine jn (kI (Tv.mono (Q' := fun b H' => H' = H ∧ (b = true ↔ -hf ≤ low ∧ high < hf)) (nJ (jU ?_)) ?_))
  ·kd_p
   rw [gt]
   refine jC.dec (fun h1 => ?_) fun h1 => ?_
   ·kd_p
    refine jC.dec (fun h2 => ?_) fun h2 => ?_
    ·kd_p
     exact nP rfl ⟨h1, h2⟩
    ·exact ⟨rfl, j4 rfl fun z => h2 z.2⟩
   ·exact ⟨rfl, j4 rfl fun z => h1 z.1⟩
  rintro b H ⟨rfl, hb⟩
  refine jC.by (fun h1 => ?_) fun h1 => ?_
  ·have h1 := hb.mp h1
   kd_p
   exists lA (nq (by decide)) ?_
   refine xN (bH (iN _) (by exact J9 12 e0)) ?_
   wtm_at "w1"
   refine A9 (by rw [am]; have : ("int" : Str).length = 3 := rfl; exact J26 9 e0 this) ?_
   rw [e2]
   kd_p
   rw [k1 h1.1 h1.2] at h
   exact h
  have h1 : ¬ (-hf ≤ low ∧ high < hf) := fun z => by rw [hb.mpr z] at h1; cases h1
  have nx2 := nx h1
  kd_p1
  refine jn (kI (Tv.mono (Q' := fun b H' => H' = H ∧ (b = true ↔ low = 0 ∧ high < 2 * hf)) (nJ (jU ?_)) ?_))
  ·kd_p
   refine jC.dec (fun h1 => ?_) fun h1 => ?_
   ·kd_p
    exists lA (nq (by decide)) ?_
    refine jC.dec (fun h2 => ?_) fun h2 => ?_
    ·kd_p
     exact nP rfl ⟨h1, h2⟩
    ·exact ⟨rfl, j4 rfl fun z => h2 z.2⟩
   ·exact ⟨rfl, j4 rfl fun z => h1 z.1⟩
  rintro b H ⟨rfl, hb2⟩
  refine jC.by (fun h2 => ?_) fun h2 => ?_
  ·have h2 := hb2.mp h2
   kd_p
   exists lA (nq (by decide)) ?_
   refine xN (bH (iN _) (by exact J9 12 e0)) ?_
   wtm_at "w1"
   refine A9 (by rw [am]; have : ("uint" : Str).length = 4 := rfl; exact J26 10 e0 this) ?_
   rw [e3]
   kd_p
   rw [k2 h1 h2.1 h2.2] at h
   exact h
  have h2 : ¬ (low = 0 ∧ high < 2 * hf) := fun z => by rw [hb2.mpr z] at h2; cases h2
  kd_p1
  kd_p1
  exact jx.nx (by kd_all) fun Z zz => zz (nx2 h2).1 (nx2 h2).2
 ·rintro i1 i2
  kd_p
  rw [DF hlo (i1 (by decide)) (i2 (by decide))] at h
  exact h
structure mU (d : jN) (j : Nat) : Prop where
 b : nR d j
 v : ∀ p ∈ d, p.2 ≠ 0
theorem mU.nil {j} : mU [] j := ⟨.nil, by simp⟩
theorem mU.up {d j} (x : mU d j) : mU d (j + 1) := ⟨x.b.up (by exact J3 13), x.v⟩
theorem mU.snoc {d j} (x : mU d j) {v : Int} (h : v ≠ 0) : mU (d ++ [((j : Int), v)]) (j + 1) := ⟨x.b.snoc, fun p hp => by
 rcases aQ.mp hp with hp | hp
 ·exact x.v p hp
 ·simp at hp; subst hp; exact h⟩
theorem DH (P : PW W) {K : HO → HH} {p : Addr} (U : ∀ o o', kQ p o o' (K o) (K o')) {ns : List Int} {sp gr : Int} (hz : ns.length ≤ 64) (h0 : 0 ≤ sp) (h1 : sp ≤ 500000) (hg : 0 ≤ gr) {size count many : Nat} (hs0 : 0 < size) (hs : size ≤ 4) (hc : count ≤ 5) (hm0 : 2 ≤ many) (hm : many ≤ 4)
  (hq : ∀ (L : List jN) (sp' gr' : Int), L.length = size → (∀ d ∈ L, mU d count) → 0 ≤ sp' → sp' ≤ sp + 100 → 0 ≤ gr' → Q (jY L) (K (kr ns sp' gr'))) : jZ W (n + 3) (K (kr ns sp gr)) (.ref 636) [.ref p, .int (size : Nat), .int (count : Nat), .int (many : Nat)] Q := by
 wtm_at "def"
 kd_p
 intro af
 kd_p
 exists jI ?_
 let I1 : IT jt := fun i Z => ∀ (R : List jN) (sp' gr' : Int), R.length = i → (∀ d ∈ R, mU d count) → 0 ≤ sp' → sp' ≤ sp + 10 * i → 0 ≤ gr' → Z [lc "pen" (.ref p), lc "size" (.int (size : Nat)), lc "count" (.int (count : Nat)), lc "many" (.int (many : Nat)), lc "lines" (.ref af), lu "state", lu "line", lu "terminal", lu "way", gb "range", gb "_law_draw", gb "_law_pick", gb "ACCEPT", gb "BARRED"] ((af, .lst (R.map jW)) :: K (kr ns sp' gr'))
 refine ⟨size, rfl, by exact J1 18 hs, I1, fun Z zz => zz [] sp gr rfl (by simp) h0 (by exact J3 1) hg, ?_, ?_⟩
 ·rintro i hi R sp2 gr2 hRl hR s2 s3 g2
  have hRs : (R.map jW).length ≤ sizeLine := by rw [aa, am]; exact J26 11 hs hRl hi
  exists ⟨_, by kd_in, ?_⟩
  intro ao
  kd_p
  exists jI ?_
  let I2 : IT jt := fun j Z => ∀ (d : jN) (sp3 gr3 : Int), mU d j → 0 ≤ sp3 → sp3 ≤ sp2 + 2 * j → 0 ≤ gr3 → Z [lc "pen" (.ref p), lc "size" (.int (size : Nat)), lc "count" (.int (count : Nat)), lc "many" (.int (many : Nat)), lc "lines" (.ref af), lc "state" (.int (i : Nat)), lc "line" (.ref ao), lu "terminal", lu "way", gb "range", gb "_law_draw", gb "_law_pick", gb "ACCEPT", gb "BARRED"] ((ao, .dct (Dk .int d)) :: (af, .lst (R.map jW)) :: K (kr ns sp3 gr3))
  refine ⟨count, rfl, by exact J2 4 hc, I2, fun Z zz => zz [] sp2 gr2 mU.nil s2 (by exact J5 0) g2, ?_, ?_⟩
  ·rintro j hj d sp3 gr3 hd s4 s5 g3
   have hU : ∀ o o', kQ p o o' ((ao, .dct (Dk .int d)) :: (af, .lst (R.map jW)) :: K o) ((ao, .dct (Dk .int d)) :: (af, .lst (R.map jW)) :: K o') := fun o o' => .tail (.tail (U o o'))
   have hdz : d.length ≤ sizeLine := mh (by have := hd.b.len; exact J26 12 this hc hj)
   exists ⟨_, by kd_in, ?_⟩
   exists ke (K := fun o => (ao, .dct (Dk .int d)) :: (af, .lst (R.map jW)) :: K o) P hU hz s4 (by exact J26 13 s3 s5 h1 hs hc hi hj) g3 (by decide) (by decide) fun w sp4 gr4 w0 w1 s6 s7 g4 => ?_
   refine jC.dec (fun h2 => ?_) fun h2 => ?_
   ·exists jn (oi rfl (kR (ny P (by kd_mem) ?_)))
    intro al
    kd_p
    refine oF (K := fun o => (al, .lst (jp [1048576, -1048576])) :: (ao, .dct (Dk .int d)) :: (af, .lst (R.map jW)) :: K o) P (fun o o' => .tail (hU o o')) (fun o => .lst (.head _)) (by decide) (by decide) hz s6 (by exact J5 1 s7 s3 s5 h1 hs hc hi hj) g4 fun x hx sp5 gr5 s8 s9 g5 => ?_
    obtain ⟨v, hv, rfl⟩ := az.mp hx
    have hv0 : v ≠ 0 := by simp at hv; exact J26 14 hv
    exists ⟨_, _, .one, ?_⟩
    exists kK (f := PV.int) rfl (by wtm_at "updh") hdz ?_
    rw [hd.b.new]
    exact jx.nx (by kd_all) (fun Z zz => zz _ sp5 gr5 (hd.snoc hv0) s8 (by exact J2 6 s9 s7 s5) g5)
   kd_p
   refine jC.dec (fun h3 => ?_) fun h3 => ?_
   ·kd_p
    exists ke (K := fun o => (ao, .dct (Dk .int d)) :: (af, .lst (R.map jW)) :: K o) P hU hz s6 (by exact J5 1 s7 s3 s5 h1 hs hc hi hj) g4 (by exact J26 15 hm0) (by exact J9 13 hm) fun v sp5 gr5 v0 v1 s8 s9 g5 => ?_
    exists kK (f := PV.int) rfl (by wtm_at "updh") hdz ?_
    rw [hd.b.new]
    exact jx.nx (by kd_all) (fun Z zz => zz _ sp5 gr5 (hd.snoc (by exact J26 16 v0)) s8 (by exact J2 6 s9 s7 s5) g5)
   kd_p
   refine jC.dec (fun h4 => ?_) fun h4 => ?_
   rotate_left
   ·kd_p
    exact jx.nx (by kd_all) (fun Z zz => zz _ sp4 gr4 hd.up s6 (by exact J3 6 s7 s5) g4)
   kd_p
   refine jC.dec (fun h5 => ?_) fun h5 => ?_
   rotate_left
   ·kd_p
    exact jx.nx (by kd_all) (fun Z zz => zz _ sp4 gr4 hd.up s6 (by exact J3 6 s7 s5) g4)
   wtm_at "w1"
   exists jC.tt ?_
   exists ke (K := fun o => (ao, .dct (Dk .int d)) :: (af, .lst (R.map jW)) :: K o) P hU hz s6 (by exact J5 1 s7 s3 s5 h1 hs hc hi hj) g4 (by exact J26 17 h5) (by exact J9 13 hs) fun v sp5 gr5 v0 v1 s8 s9 g5 => ?_
   exists kK (f := PV.int) rfl (by wtm_at "updh") hdz ?_
   rw [hd.b.new]
   exact jx.nx (by kd_all) (fun Z zz => zz _ sp5 gr5 (hd.snoc (by exact J26 18 v0)) s8 (by exact J2 6 s9 s7 s5) g5)
  ·rintro d sp3 gr3 hd s4 s5 g3
   kd_p
   refine jx.fz .one (by kd_all) (.lst (nA.snoc (.dct (.head _) .refl)) mV.refl) (Of.eqH (by rw [aJ]; rfl) (fun Z zz => zz (R ++ [d]) sp3 gr3 (by simp [hRl]) (fun d' hd' => ?_) s4 (by exact J26 19 s3 s5 hc) g3))
   rcases aQ.mp hd' with hd' | hd'
   ·exact hR d' hd'
   ·simp at hd'; subst hd'; exact hd
 ·rintro R sp' gr' hRl hR q0 q1 q2
  exists jn (jR (li ?_))
  exact ⟨af, _, _, rfl, rfl, hq R _ _ hRl hR q0 (by exact J26 20 q1 hs) q2⟩
noncomputable def xq (g : Int) : Int := if g > 0 then g else -1
structure nH (G : List (List Int)) (others size : Nat) : Prop where
 len : G.length = others
 row : ∀ g ∈ G, g.length = size
 ent : ∀ g ∈ G, ∀ v ∈ g, v = -1 ∨ (0 < v ∧ v < size)
noncomputable def qQ (g : List Int) (u : Int) : jN := kl (fun s => !([-1, u].any (· == g.getD s 0))) (fun s => g.getD s 0) g.length
noncomputable def j8 (G : List (List Int)) (U : List Int) : List jN := (av G.length).map fun k => qQ (G.getD k []) (U.getD k 0)
theorem DI (P : PW W) {K : HO → HH} {p : Addr} (U : ∀ o o', kQ p o o' (K o) (K o')) {ns : List Int} {sp gr : Int} (hz : ns.length ≤ 64) (h0 : 0 ≤ sp) (h1 : sp ≤ 500000) (hg : 0 ≤ gr) {size others : Nat} (hs0 : 0 < size) (hs : size ≤ 4) (ho : others ≤ 3)
  (hq : ∀ (G : List (List Int)) (sp' gr' : Int), nH G others size → 0 ≤ sp' → sp' ≤ sp + 100 → 0 ≤ gr' → Q (j5 G) (K (kr ns sp' gr'))) : jZ W (n + 3) (K (kr ns sp gr)) (.ref 641) [.ref p, .int (size : Nat), .int (others : Nat)] Q := by
 wtm_at "def"
 kd_p
 intro af
 kd_p
 exists jI ?_
 let I1 : IT jt := fun i Z => ∀ (R : List (List Int)) (sp' gr' : Int), R.length = i → (∀ d ∈ R, d.length = size ∧ ∀ v ∈ d, 0 ≤ v ∧ v < size) → 0 ≤ sp' → sp' ≤ sp + 10 * i → 0 ≤ gr' → Z [cc "pen" (.ref p), cc "size" (.int (size : Nat)), lc "others" (.int (others : Nat)), lc "found" (.ref af), lu "symbol", gb "range"] ((af, .lst (R.map fun l => .lst (jp l))) :: K (kr ns sp' gr'))
 refine ⟨others, rfl, by exact J1 5 ho, I1, fun Z zz => zz [] sp gr rfl (by simp) h0 (by exact J3 1) hg, ?_, ?_⟩
 ·rintro i hi R sp2 gr2 hRl hR s2 s3 g2
  have hRs : (R.map fun l => PV.lst (jp l)).length ≤ sizeLine := by rw [aa, am]; exact J26 21 ho hRl hi
  refine ⟨_, by kd_in, ?_⟩
  refine jn (lx rfl (lb ?_))
  kd_p1
  kd_p1
  exists jA (xg (α := Nat) (by wtm_at "hcap") (jO ?_))
  let I2 : IT (List PV) := fun j Z => ∀ (l : List Int) (sp' gr' : Int), (∀ v ∈ l, 0 ≤ v ∧ v < (size : Int)) → 0 ≤ sp' → sp' ≤ sp2 + 2 * j → 0 ≤ gr' → Z (jp l) ((af, HO.lst (R.map fun l => PV.lst (jp l))) :: K (kr ns sp' gr'))
  refine ⟨size, rfl, by exact J1 18 hs, _, av size, fun c => .int (c : Nat), I2, by wtm_at "crho", rfl, by rw [aq, am]; exact J1 9 hs, fun Z zz => zz [] sp2 gr2 (by simp) s2 (by exact J5 0) g2, ?_, ?_⟩
  ·rintro j c hc l sp5 gr5 hl s8 s9 g5 hyl
   have hj := (aA.mp hc).1
   rw [aq] at hj
   exists ⟨_, by kd_in, qk (jU (ny P (by kd_mem) ?_))⟩
   exists ke (K := fun o => (af, HO.lst (R.map fun l => PV.lst (jp l))) :: K o) P (fun o o' => .tail (U o o')) hz s8 (by exact J26 22 s3 s9 h1 ho hs hj hi) g5 (by decide) (by decide) fun d sp6 gr6 hd0 hd1 s10 s11 g6 => ?_
   refine jC.dec (fun h2 => ?_) fun h2 => ?_
   ·kd_p
    exists ke (K := fun o => (af, HO.lst (R.map fun l => PV.lst (jp l))) :: K o) P (fun o o' => .tail (U o o')) hz s10 (by exact J26 23 s11 s3 s9 h1 ho hs hi hj) g6 (by exact J0 14 hs0) (by exact J9 14 hs) fun d2 sp7 gr7 hd2 hd3 s12 s13 g7 => ?_
    refine Of.eq (by simp) (fun Z zz => zz (l ++ [d2]) sp7 gr7 (fun v hv => ?_) s12 (by exact J2 6 s13 s11 s9) g7)
    rcases aQ.mp hv with hv | hv
    ·exact hl v hv
    ·simp at hv; exact J27 0 hd2 hd3 hv
   ·kd_p
    refine Of.eq (by simp) (fun Z zz => zz (l ++ [0]) sp6 gr6 (fun v hv => ?_) s10 (by exact J3 6 s11 s9) g6)
    rcases aQ.mp hv with hv | hv
    ·exact hl v hv
    ·simp at hv; exact J27 1 hs0 hv
  ·rintro l sp5 gr5 hl s8 s9 g5 hyl
   rw [aa, aq] at hyl
   rw [aq] at s9
   kd_p
   refine jx.nx (by kd_all) (Of.eqH (by rw [aJ]; rfl) (fun Z zz => zz (R ++ [l]) sp5 gr5 (by simp [hRl]) (fun d hd => ?_) s8 (by exact J27 2 s3 s9 hs) g5))
   rcases aQ.mp hd with hd | hd
   ·exact hR d hd
   ·simp at hd; subst hd; exact ⟨hyl, hl⟩
 ·rintro R sp3 gr3 hRl hR s4 s5 g3
  refine mI (mG.frz (r' := [cc "pen" (.ref p), cc "size" (.int (size : Nat)), lc "others" (.int (others : Nat)), lc "found" (j5 R), lu "symbol", gb "range"]) .one (.same (.same (.same (.rfy (.lst (.head _) .refl) (by kd_all))))) mV.refl) ?_
  refine jn (jR ?_)
  exists ku (α := List Int) (fun l => .lst (jp (l.map xq))) (by wtm_at "hcap") (jP ?_)
  refine ⟨_, rfl, _, R, fun l => .lst (jp l), by wtm_at "crho", rfl, by rw [am]; exact J1 3 ho hRl, fun l hl => ⟨_, by kd_in, ku (α := Int) (fun v => .int (xq v)) (by wtm_at "hcap") (jP ?_)⟩, ?_⟩
  ·have hll := (hR l hl).1
   kd_p
   refine ⟨_, rfl, _, l, PV.int, by wtm_at "crho", rfl, by rw [am]; exact J2 9 hs hll, fun v hv => ⟨_, by kd_in, ?_⟩, ?_⟩
   ·kd_p
    unfold xq
    refine jC.dec (fun h2 => ?_) fun h2 => ?_
    ·kd_p
     rw [if_pos h2]
    ·kd_p
     rw [if_neg h2]
   ·exact ⟨rfl, by show PV.lst _ = PV.lst ((l.map xq).map PV.int); rw [aX]; rfl⟩
  rw [show R.map (fun l => PV.lst (jp (l.map xq))) = (R.map fun l => l.map xq).map fun l => PV.lst (jp l) by rw [aX]; rfl]
  refine hq _ sp3 gr3 ⟨by rw [aa]; exact hRl, fun g hg => ?_, fun g hg v hv => ?_⟩ s4 (by exact J27 3 s5 ho) g3
  ·obtain ⟨l, hl, rfl⟩ := az.mp hg
   rw [aa]; exact (hR l hl).1
  ·obtain ⟨l, hl, rfl⟩ := az.mp hg
   obtain ⟨z, hz2, rfl⟩ := az.mp hv
   have := (hR l hl).2 z hz2
   unfold xq
   split <;> lia
theorem yF (P : PW W) {G : List (List Int)} {us : List Int} {others size : Nat} (x : nH G others size) (hu : us.length = others) (hs : size ≤ 4) (ho : others ≤ 3) (h : Q (jY (j8 G us)) H) : jZ W (n + 1) H (.ref 646) [j5 G, .lst (jp us)] Q := by
 have xl := x.len
 have hGs : (G.map fun l => PV.lst (jp l)).length ≤ sizeLine := by rw [aa, am]; exact J1 3 ho xl
 wtm_at "def"
 kd_p
 intro af
 kd_p
 exists jI ?_
 rw [aa, xl]
 let I3 : IT jt := fun i Z => Z [cc "goals" (j5 G), cc "usuals" (.lst (jp us)), lc "found" (.ref af), cu "at", lu "pairs", gb "range", gb "len", gb "dict"] ((af, .lst (((j8 G us).take i).map jW)) :: H)
 refine ⟨others, rfl, by exact J1 5 ho, I3, Of.eqH (by rw [cb]; rfl) (fun Z zz => zz), ?_, ?_⟩
 ·rintro i hi
  have hRs : (((j8 G us).take i).map jW).length ≤ sizeLine := by rw [aa, bg, am]; exact J27 4 ho hi
  have hgl := x.row _ (jr (d := ([] : List Int)) (show i < G.length by exact J0 4 xl hi))
  have hat : (j8 G us)[i]? = some (qQ (G.getD i []) (us.getD i 0)) := by unfold j8; rw [ax, b8 (by exact J0 4 xl hi)]; rfl
  show lL _ _ _ _
  generalize hg : G.getD i [] = g at *
  have hgz := pO (L := g) (by exact J0 16 hs hgl)
  have gg : ∀ {H : HH} {n : Nat} {Q : CV}, Q (.lst (jp g)) H → oP W n H (j5 G) (.int (i : Nat)) Q := fun hq => kE Vw.refl (by exact J0 0) (by exact J0 2 xl hi) (by exact J27 5 ho hi) (by rw [ag, hg]; exact hq)
  refine ⟨_, by kd_in, ?_⟩
  exists jn (lB (α := Nat) (fun (s : Nat) => kY ((s : Int), g.getD s 0)) (by wtm_at "hcap") (jO ?_))
  exists gg ?_
  rw [aa]
  refine ⟨g.length, rfl, by exact J27 6 hs hgl, _, av g.length, fun c => .int (c : Nat), by wtm_at "crho", rfl, by rw [aq, am]; exact J2 9 hs hgl, fun t ht => ⟨_, by kd_in, ?_⟩, ?_⟩
  ·have ht2 := aM.mp ht
   kd_p
   exists gg ?_
   refine j9 Vw.refl (by exact J0 0) (by exact J0 1 ht2) (by exact J0 16 hs hgl) ?_
   rw [ag]
   kd_p
   exact rfl
  rw [show (av g.length).map (fun (s : Nat) => kY ((s : Int), g.getD s 0)) = ((av g.length).map fun (s : Nat) => ((s : Int), g.getD s 0)).map kY by rw [aX]; rfl]
  refine ⟨_, by kd_in, ?_⟩
  refine jn (lx rfl (lb ?_))
  kd_p1
  kd_p1
  exists jA (vT (td P (by kd_mem) (jA (lj (α := Int × Int) (fun pr => !([-1, us.getD i 0].any (· == pr.2))) kY (by wtm_at "hcap") (jP ?_)))))
  refine ⟨_, rfl, _, (av g.length).map fun (s : Nat) => ((s : Int), g.getD s 0), kY, by wtm_at "crho", rfl, by rw [aa, aq, am]; exact J2 9 hs hgl, fun pr hpr => ⟨_, by kd_in, ?_⟩, ?_⟩
  ·kd_p
   exists kJ (x := .int pr.2) Vw.refl (by decide) rfl (by decide) ?_
   refine j9 Vw.refl (by exact J0 0) (by exact J0 2 hu hi) (by exact J0 6 ho hu) ?_
   rw [ag]
   kd_p
   exists wL (ns := [-1, us.getD i 0]) Vw.refl ?_
   intro _
   kd_p
   exact rfl
  ·have e : ((av g.length).map fun (s : Nat) => ((s : Int), g.getD s 0)).filter (fun pr => !([-1, us.getD i 0].any (· == pr.2))) = qQ g (us.getD i 0) := by
    rw [eQ]; rfl
   rw [e]
   exists ml (ux Vw.refl (mf).nodup (bj kL (by exact J0 16 hs hgl)) fun a => ⟨a, _, _, rfl, rfl, ?_⟩)
   exact jx.nx (by kd_all) (Of.eqH (by rw [kd hat, aJ]; rfl) (fun Z zz => zz))
 ·show lm _ _ _ _ _ _
  rw [show (j8 G us).take others = j8 G us from br (by simp [j8]; exact J4 19 xl)]
  exists jn (jR (li ?_))
  exact ⟨af, _, _, rfl, rfl, h⟩
structure pJ (a g : AR) (ms : List (List Nat)) (gds defs : List Int) (tc : Nat) (L : List jN) (G : List (List Int)) (others size : Nat) : Prop where
 aok : p8 a size
 gok : p8 g others
 lms : ms.length = others
 lgds : gds.length = others
 ldefs : defs.length = size
 inc : ∀ M ∈ ms, M.Pairwise (· < ·)
 exp : ∀ s t : Nat, s < size → t < tc → lZ a s (t : Int) = (jB (L.getD s []) (t : Int)).getD 0
 goto : ∀ s k : Nat, s < size → k < others → n4 tc ms g gds s ((tc + k : Nat) : Int) = (G.getD k []).getD s 0
theorem Ch {tc : Nat} {ms : List (List Nat)} {g : AR} {gd : List Int} {s : Nat} {nt : Int} (h : nt < tc ∨ (tc : Int) + ms.length ≤ nt) : n4 tc ms g gd s nt = -1 := by
 unfold n4
 rw [if_pos (by exact J27 8 h)]
theorem GU {t : Nat} : ([1, 2] : List Int).any (· == (t : Int)) = (t == 1 || t == 2) := by
 rw [eR, bN]
 simp only [au, bw, or_false, beq_iff_eq, cQ, exists_eq_or_imp, exists_eq_left]
 lia
theorem GV {v : Int} : ([0, -1048576] : List Int).any (· == v) = (decide (v = 0) || decide (v = nQ)) := by
 rw [eR, bN]
 simp only [au, bw, or_false, beq_iff_eq, cQ, exists_eq_or_imp, exists_eq_left, decide_eq_true_eq]
 exact or_congr eq_comm eq_comm
theorem Ci {G : List (List Int)} {others size s : Nat} (hG : nH G others size) : (av others).map (fun k => PV.int ((G.getD k []).getD s 0)) = G.map fun l => PV.int (l.getD s 0) := by
 refine bO (by simp [hG.len]) fun j h1 h2 => ?_
 have h3 : j < G.length := by simpa using h2
 rw [bk, bk, bL, kF h3]
section
variable {nm lf ln bf nu : PV}
theorem yG (P : PW W) {a g : AR} {ms : List (List Nat)} {gds defs : List Int} {tc : Nat} {L : List jN} {G : List (List Int)} {others size : Nat} (x : pJ a g ms gds defs tc L G others size) (hL : L.length = size) (hLb : ∀ d ∈ L, nR d tc) (hG : nH G others size) (hs : size ≤ 4) (ht0 : 0 < tc) (ht : tc ≤ 5) (ho : others ≤ 3) (h : Q (.bool true) H) :
  jZ W (n + 6) H (.ref 651) [p9 nm tc lf ln bf (.lst (jp defs)) nu a g (.lst (jp gds)) (wC ms), jY L, j5 G, .lst (jp defs)] Q := by
 have xaok := x.aok
 have xgok := x.gok
 have xms := x.lms
 have xgds := x.lgds
 have xdefs := x.ldefs
 have xG := hG.len
 have hLs : (L.map jW).length ≤ sizeLine := by rw [aa, am]; exact J2 9 hs hL
 have hGs : (G.map fun l => PV.lst (jp l)).length ≤ sizeLine := by rw [aa, am]; exact J1 3 ho xG
 wtm_at "def"
 kd_p
 exists jI ?_
 rw [aa, hL]
 let I1 : IT jt := fun i Z => Z [cc "packed" (p9 nm tc lf ln bf (.lst (jp defs)) nu a g (.lst (jp gds)) (wC ms)), cc "lines" (jY L), lc "goals" (j5 G), lc "rules" (.lst (jp defs)), cc "count" (.int (tc : Nat)), cu "state", lu "terminal", cu "row", lu "due", lu "beyond", lu "awaited", gb "range", gb "len", gb "BARRED"] H
 refine ⟨size, rfl, by exact J1 18 hs, I1, fun Z zz => zz, ?_, ?_⟩
 ·rintro s hsz
  have hdr : (defs.getD s 0) = defs.getD s 0 := rfl
  refine ⟨_, by kd_in, ?_⟩
  exists jn (lB (α := Nat) (fun t => .int (lZ a s (t : Int))) (by wtm_at "hcap") (jO ?_))
  refine ⟨tc, rfl, by exact J2 4 ht, _, av tc, fun c => .int (c : Nat), by wtm_at "crho", rfl, by rw [aq, am]; exact J4 13 ht, fun t ht2 => ⟨_, by kd_in, ?_⟩, ?_⟩
  ·have ht3 := aM.mp ht2
   exists x_get ?_
   refine pn Vw.refl (by exact J0 0) (by exact J0 2 hL hsz) (by exact J27 9 hs hsz) ?_
   rw [ag]
   kd_p
   refine oC (f := PV.int) (v := .int (lZ a s (t : Int))) Vw.refl (by rw [x.exp s t hsz ht3]; cases jB (L.getD s []) (t : Int) <;> rfl) ?_
   exact ⟨rfl, rfl⟩
  generalize hRW : (av tc).map (fun (t : Nat) => lZ a s (t : Int)) = RW
  have hRl : RW.length = tc := by rw [← hRW]; simp
  have hRe : ∀ t : Nat, t < tc → RW.getD t 0 = lZ a s (t : Int) := fun t ht2 => by rw [← hRW]; exact lT ht2
  rw [show (av tc).map (fun (t : Nat) => PV.int (lZ a s (t : Int))) = jp RW by rw [← hRW]; show _ = cV _ (cV _ _); rw [aX]; rfl]
  refine ⟨_, by kd_in, ?_⟩
  exists jn (jI ?_)
  let I2 : IT jt := fun i Z => Z [cc "packed" (p9 nm tc lf ln bf (.lst (jp defs)) nu a g (.lst (jp gds)) (wC ms)), cc "lines" (jY L), lc "goals" (j5 G), lc "rules" (.lst (jp defs)), cc "count" (.int (tc : Nat)), cc "state" (.int (s : Nat)), lu "terminal", cc "row" (.lst (jp RW)), lu "due", lu "beyond", lu "awaited", gb "range", gb "len", gb "BARRED"] H
  refine ⟨tc, rfl, by exact J2 4 ht, I2, fun Z zz => zz, ?_, ?_⟩
  ·rintro t ht2
   have hget : ∀ {H : HH} {n : Nat} {Q : CV}, Q (.int (lZ a s (t : Int))) H → oP W n H (.lst (jp RW)) (.int (t : Nat)) Q := fun hq => j9 Vw.refl (by exact J0 0) (by exact J0 2 hRl ht2) (by exact J3 3 ht hRl) (by rw [ag, hRe t ht2]; exact hq)
   refine ⟨_, by kd_in, ?_⟩
   refine jn (jD rfl (Ev.mono (Q := fun v H' => v = .int (Du a defs s (t : Int)) ∧ H' = H) (qk (jU ?_)) ?_))
   ·unfold Du
    kd_p
    exists hget ?_
    refine jC.dec (fun h1 => ?_) fun h1 => ?_
    ·kd_p
     rw [if_pos (show lZ a s (t : Int) = nQ from h1)]
     exact ⟨rfl, rfl⟩
    ·rw [if_neg (show ¬ lZ a s (t : Int) = nQ from h1)]
     kd_p
     exists hget ?_
     refine jC.dec (fun h2 => ?_) fun h2 => ?_
     ·rw [if_neg h2]
      kd_p
      refine hget ?_
      exact ⟨rfl, rfl⟩
     ·rw [if_pos (by exact J1 11 h2)]
      kd_p
      refine j9 Vw.refl (by exact J0 0) (by exact J0 2 xdefs hsz) (by exact J0 16 hs xdefs) ?_
      rw [ag]
      kd_p
      rw [gt]
      exact ⟨rfl, rfl⟩
   rintro v H ⟨rfl, rfl⟩
   kd_p
   exists mr P xaok hsz ?_
   exists v7 P xaok hsz xdefs ?_
   exists hget ?_
   exists jT 1 (by decide) .refl .refl (by wtm_at "dat") (fun es => by simp) ?_
   exact jx.nx (by kd_all) (fun Z zz => zz)
  show lm _ _ _ _ _ _
  exists jn (kI (jU (ku (α := Nat) (fun k => .int ((G.getD k []).getD s 0)) (by wtm_at "hcap") (jO ?_))))
  rw [aa, xG]
  refine ⟨others, rfl, by exact J1 5 ho, _, av others, fun c => .int (c : Nat), by wtm_at "crho", rfl, by rw [aq, am]; exact J2 5 ho, fun k hk => ⟨_, by kd_in, ?_⟩, ?_⟩
  ·have hk2 := aM.mp hk
   kd_p
   refine rl P xgok xms xgds x.inc ?_
   rw [show (tc : Int) + (k : Int) = ((tc + k : Nat) : Int) by exact J9 17, x.goto s k hsz hk2]
   exact ⟨rfl, rfl⟩
  rw [Ci hG]
  exists ku (α := List Int) (fun l => .int (l.getD s 0)) (by wtm_at "hcap") (jP ?_)
  refine ⟨_, rfl, _, G, fun l => .lst (jp l), by wtm_at "crho", rfl, by rw [am]; exact J1 3 ho xG, fun l hl => ⟨_, by kd_in, ?_⟩, ?_⟩
  ·have hll := hG.row l hl
   kd_p
   refine j9 Vw.refl (by exact J0 0) (by exact J0 2 hll hsz) (by exact J0 16 hs hll) ?_
   exact ⟨rfl, rfl⟩
  refine jT 1 (by decide) .refl .refl (k4 fun _ => pU) (fun es => by simp) ?_
  kd_p1
  kd_p1
  kd_p1
  exists jn (lB (α := Int) (fun _ => .int (-1)) (by wtm_at "hcap") (tf ?_))
  rw [aa, xG]
  refine ⟨_, rfl, _, [0, (tc : Int) - 1, (tc : Int) + (others : Nat), (tc : Int) + (others : Nat) + 2], PV.int, by wtm_at "crho", rfl, by rw [am]; simp, fun k hk => ⟨_, by kd_in, ?_⟩, ?_⟩
  ·kd_p
   refine rl P xgok xms xgds x.inc ?_
   rw [Ch (by simp at hk; exact J27 10 xms ht0 hk)]
   exact ⟨rfl, rfl⟩
  refine ⟨_, by kd_in, ?_⟩
  exists jn (kI (pf (jU ?_)))
  intro a1
  kd_p
  exists jT (t := .lst (jp [-1, -1, -1, -1])) 1 (by decide) .refl (.lst (.head _) .refl) (by wtm_at "dat") (fun es => by simp) ?_
  refine ⟨_, _, .one, ?_⟩
  kd_p1
  kd_p1
  exists jn (C7 (α := Nat) (oM a s) (fun t => .int (t : Nat)) (by wtm_at "hcap") (jO ?_))
  refine ⟨tc, rfl, by exact J2 4 ht, _, av tc, fun c => .int (c : Nat), by wtm_at "crho", rfl, by rw [aq, am]; exact J4 13 ht, fun t ht2 => ⟨_, by kd_in, ?_⟩, ?_⟩
  ·have ht3 := aM.mp ht2
   have e3 : oM a s t = (!(t == 1 || t == 2) && !(decide (lZ a s (t : Int) = 0) || decide (lZ a s (t : Int) = nQ))) := rfl
   kd_p
   refine wL (ns := [1, 2]) Vw.refl ?_
   rw [GU]
   kd_p
   refine jC.by (fun h1 => ?_) fun h1 => ?_
   ·rw [h1, hJ] at e3
    kd_p
    refine j9 Vw.refl (by exact J0 0) (by exact J0 2 hRl ht3) (by exact J3 3 ht hRl) ?_
    rw [ag, hRe t ht3]
    kd_p
    refine wL (ns := [0, -1048576]) Vw.refl ?_
    rw [GV, ← e3]
    kd_p
    refine jC.by (fun h2 => ?_) fun h2 => ?_
    ·kd_p
     exists ⟨h2.symm, rfl, fun _ => ?_⟩
     exact rfl
    ·kd_p
     exact ⟨h2.symm, rfl, fun z => by cases z⟩
   ·rw [h1, d5] at e3
    kd_p
    exact ⟨e3.symm, rfl, fun z => by cases z⟩
  exists ⟨_, by kd_in, ?_⟩
  exists oD P (by exact J0 4 xdefs hsz) (by exact J0 16 hs xdefs) ?_
  refine j9 Vw.refl (by exact J0 0) (by exact J0 2 xdefs hsz) (by exact J0 16 hs xdefs) ?_
  rw [ag]
  kd_p
  exists jC.neg (by exact J9 0) ?_
  exists tU P xaok hsz (by exact J27 11 ht) ?_
  exists jT 1 (by decide) .refl .refl (k4 fun _ => pU) (fun es => by simp) ?_
  exact jx.nx (by kd_all) (fun Z zz => zz)
 ·show lm _ _ _ _ _ _
  have hab := xaok.b
  exists jn (jR (m7 ?_))
  exists np P (by exact J0 16 hs hab) ?_
  rw [aa, hL, hab, decide_eq_true rfl]
  exact h
end
theorem Cj : ∀ {L : List Int}, L ≠ [] → ∃ x ∈ L, ∀ a ∈ L, x ≤ a
 | [], h => absurd rfl h
 | [a], _ => ⟨a, .head _, fun b hb => by simp at hb; exact J27 12 hb⟩
 | a :: b :: L, _ => by
  obtain ⟨x, hx, h⟩ := Cj (L := b :: L) (by simp)
  by_cases q : a ≤ x
  ·exact ⟨a, .head _, fun c hc => by
    rcases au.mp hc with rfl | hc
    ·exact J9 18
    ·have := h c hc; exact J5 21 this q⟩
  ·exact ⟨x, .tail _ hx, fun c hc => by
    rcases au.mp hc with rfl | hc
    ·exact J9 19 q
    ·exact h c hc⟩
theorem Ck : ∀ {L : List Int}, L ≠ [] → ∃ x ∈ L, ∀ a ∈ L, a ≤ x
 | [], h => absurd rfl h
 | [a], _ => ⟨a, .head _, fun b hb => by simp at hb; exact J8 14 hb⟩
 | a :: b :: L, _ => by
  obtain ⟨x, hx, h⟩ := Ck (L := b :: L) (by simp)
  by_cases q : x ≤ a
  ·exact ⟨a, .head _, fun c hc => by
    rcases au.mp hc with rfl | hc
    ·exact J9 18
    ·have := h c hc; exact J27 13 this q⟩
  ·exact ⟨x, .tail _ hx, fun c hc => by
    rcases au.mp hc with rfl | hc
    ·exact J9 19 q
    ·exact h c hc⟩
theorem Ep {L : List Int} : sV (L ++ [0]) ≤ 0 := by
 obtain ⟨x, hx, h⟩ := Cj (L := L ++ [0]) (by simp)
 rw [yu hx h]; exact h 0 (by simp)
theorem Er {L : List Int} : 0 ≤ ot (L ++ [0]) := by
 obtain ⟨x, hx, h⟩ := Ck (L := L ++ [0]) (by simp)
 rw [yt hx h]; exact h 0 (by simp)
section
variable {nm lf ln bf nu gm : PV} {tc : Nat}
theorem Cl (P : PW W) {a g : AR} {gds defs : List Int} (hA : ∀ L ∈ tK a, L.length ≤ 5000) (hG : ∀ L ∈ tK g, L.length ≤ 5000) (hd : defs.length ≤ 5000) (hg5 : gds.length ≤ 5000)
  {K : HO → HH} {p : Addr} (U : ∀ o o', kQ p o o' (K o) (K o')) {ns : List Int} {sp gr : Int} (hz : ns.length ≤ 64) (h0 : 0 ≤ sp) (h1 : sp ≤ 500000) (hg : 0 ≤ gr)
  (hq : ∀ (sp' gr' : Int), 0 ≤ sp' → sp' ≤ sp + 100 → 0 ≤ gr' → Q (.bool true) (K (kr ns sp' gr'))) :
  jZ W (n + 4) (K (kr ns sp gr)) (.ref 663) [.ref p, p9 nm tc lf ln bf (.lst (jp defs)) nu a g (.lst (jp gds)) gm] Q := by
 wtm_at "def"
 exists jn (jD rfl (li ?_))
 intro a1
 refine ⟨a1, _, _, rfl, rfl, ?_⟩
 kd_p1
 exists jn (qb (α := Nat) (by wtm_at "hcap") (jO ?_))
 refine ke P U hz h0 (by exact J3 0 h1) hg (by decide) (by decide) fun d sp1 gr1 hd0 hd1 s0 s1 g1 => ?_
 obtain ⟨d, rfl⟩ : ∃ k : Nat, d = (k : Int) := ⟨d.toNat, by exact J2 2 hd0⟩
 kd_p
 let I1 : IT (List PV) := fun i Z => ∀ (l : List Int) (sp' gr' : Int), 0 ≤ sp' → sp' ≤ sp1 + i → 0 ≤ gr' → Z (jp l) (K (kr ns sp' gr'))
 refine ⟨d, rfl, by exact J9 5 hd1, _, av d, fun c => .int (c : Nat), I1, by wtm_at "crho", rfl, by rw [aq, am]; exact J9 6 hd1, fun Z zz => zz [] sp1 gr1 s0 (by exact J0 18) g1, ?_, ?_⟩
 ·rintro j c hc l sp5 gr5 s8 s9 g5 hyl
  have hj := (aA.mp hc).1
  rw [aq] at hj
  exists ⟨_, by kd_in, ny P (by kd_mem) ?_⟩
  refine oF (xs := jp [-32769, -32768, -129, -128, -1, 0, 127, 128, 255, 256, 32767, 32768, 65535, 65536]) P U (fun o => Vw.refl) (by decide) (by decide) hz s8 (by exact J27 14 s1 s9 h1 hd1 hj) g5 fun x hx sp6 gr6 s10 s11 g6 => ?_
  obtain ⟨v, hv, rfl⟩ := az.mp hx
  exact Of.eq (by simp) (fun Z zz => zz (l ++ [v]) sp6 gr6 s10 (by exact J0 19 s11 s9) g6)
 rintro some sp2 gr2 s2 s3 g2 hyl
 rw [aa, aq] at hyl
 rw [aq] at s3
 have hq' : Q (.bool true) (K (kr ns sp2 gr2)) := hq sp2 gr2 s2 (by exact J27 15 s1 s3 hd1) g2
 generalize K (kr ns sp2 gr2) = H at *
 exists ⟨_, by kd_in, ?_⟩
 exists ph P (by exact J1 8 hyl hd1) ?_
 refine yE P (by exact J1 8 hyl hd1) Ep Er ?_
 wtm_at "w1"
 refine jT 1 (by decide) .refl .refl (by wtm_at "dat") (fun es => by simp) ?_
 wtm_at "w1"
 kd_p1
 kd_p1
 exists jn (jD rfl (li ?_))
 intro a2
 refine ⟨a2, _, _, rfl, rfl, ?_⟩
 kd_p1
 exists jn (jD rfl (kR (li (kP ?_))))
 intro a3
 kd_p
 refine uP Vw.refl (.lst (.head _)) (by rw [am]; simp) fun a4 => ⟨a4, _, _, rfl, rfl, _, _, .one, ?_⟩
 kd_p1
 refine jn (jR (m7 ?_))
 exists ny P (by kd_mem) ?_
 refine BR P hA hG hd hg5 ?_
 exists Bo P (by kd_mem) (jA (ku (α := List Int) (fun l => .int (BQ l)) (by wtm_at "hcap") (jP ?_)))
 refine ⟨_, rfl, _, [a.B, a.T, a.C, a.O, defs, g.B, g.T, g.C, g.O, gds], fun l => .lst (jp l), by wtm_at "crho", rfl, by rw [am]; simp, fun l hl => ⟨_, by kd_in, ?_⟩, ?_⟩
 ·have hl5 : l.length ≤ 5000 := by
   simp only [au, bw, or_false] at hl
   rcases hl with rfl | rfl | rfl | rfl | rfl | rfl | rfl | rfl | rfl | rfl
   ·exact hA _ (by simp)
   ·exact hA _ (by simp)
   ·exact hA _ (by simp)
   ·exact hA _ (by simp)
   ·exact hd
   ·exact hG _ (by simp)
   ·exact hG _ (by simp)
   ·exact hG _ (by simp)
   ·exact hG _ (by simp)
   ·exact hg5
  have hl6 := pO hl5
  kd_p
  exists yE P hl5 Ep Er ?_
  exists kJ (x := .int (kD l).2) Vw.refl (by decide) rfl (by decide) ?_
  rw [aa]
  refine lA (nq (by exact J4 3 hl5)) ?_
  exact ⟨rfl, rfl⟩
 rw [show ([a.B, a.T, a.C, a.O, defs, g.B, g.T, g.C, g.O, gds] : List (List Int)).map (fun l => PV.int (BQ l)) = jp ([a.B, a.T, a.C, a.O, defs, g.B, g.T, g.C, g.O, gds].map BQ) by rfl]
 exists ml (uO Vw.refl ?_)
 rw [decide_eq_true (by simp only [sd, aJ, aC, cZ, eu, eM, jh, List.sum_nil]; exact J27 16)]
 exact hq'
end
noncomputable def lJ (g : List Int) : List Nat := (av g.length).filter fun s => !decide (g.getD s 0 = -1)
noncomputable def qd (g : List Int) : jN := kl (fun s => !decide (g.getD s 0 = -1)) (fun s => g.getD s 0) g.length
noncomputable def yH (G : List (List Int)) : List Int := G.map fun g => kj (g.filter fun v => !decide (v = -1))
theorem tF {α β : Type} {f : α → β} {L : List α} {i : Nat} {d : β} {e : α} (h : i < L.length) : (L.map f).getD i d = f (L.getD i e) := by
 rw [kF (by simpa using h), kF h, bk]
theorem tG {α : Type} {L : List α} {d : α} : (av L.length).map (fun i => L.getD i d) = L := by
 refine bO (by simp) fun i h1 h2 => ?_
 rw [bk, bL, kF h2]
theorem tH {α β : Type} {f : α → β} {L : List α} {d : α} : (av L.length).map (fun i => f (L.getD i d)) = L.map f := by
 have := congrArg (cV f) (tG (L := L) (d := d))
 rw [aX] at this
 exact this
theorem wv {g : List Int} : (lJ g).Pairwise (· < ·) := List.Pairwise.filter _ List.pairwise_lt_range
theorem ww {g : List Int} {s : Nat} : s ∈ lJ g ↔ s < g.length ∧ g.getD s 0 ≠ -1 := by
 unfold lJ
 rw [bz, aM]
 simp
theorem vk {L : List jN} {tc size : Nat} (h : ∀ d ∈ L, mU d tc) (hl : L.length = size) (ht : tc < 64) (hs : size < 64) : j3 L := ⟨fun d hd => (h d hd).b.ok ht, by exact J2 16 hl hs⟩
theorem Cm {g : List Int} {u : Int} (h : g.length < 64) : pc (qQ g u) := qI h
theorem nH.rests {G : List (List Int)} {others size : Nat} (x : nH G others size) (hs : size < 64) (ho : others < 64) (us : List Int) : j3 (j8 G us) := ⟨fun d hd => by
 obtain ⟨k, hk, rfl⟩ := az.mp hd
 have := x.row _ (jr (d := ([] : List Int)) (aM.mp hk))
 exact Cm (by exact J2 16 this hs), by unfold j8; rw [aa, aq, x.len]; exact ho⟩
theorem Ae {G : List (List Int)} {us : List Int} {k : Nat} (h : k < G.length) : (j8 G us).getD k [] = qQ (G.getD k []) (us.getD k 0) := lT h
theorem Af {g : List Int} {u : Int} {s : Nat} (h : s < g.length) (hn : g.getD s 0 ≠ -1) : (jB (qQ g u) (s : Int)).getD u = g.getD s 0 := by
 unfold qQ
 rw [rm h]
 show (if (!([-1, u].any (· == g.getD s 0))) = true then some (g.getD s 0) else none).getD u = _
 generalize g.getD s 0 = v at *
 by_cases q : v = u
 ·subst q; simp
 ·rw [if_pos (by simp; exact ⟨fun z => hn z.symm, fun z => q z.symm⟩)]; rfl
theorem yI {L : List jN} {G : List (List Int)} {us defs : List Int} {tc others size : Nat} (hL : ∀ d ∈ L, mU d tc) (hl : L.length = size) (hG : nH G others size) (hu : us.length = others) (hd : defs.length = size) (ht : tc < 64) (hs : size < 64) (ho : others < 64) :
  pJ (kU L) (kU (j8 G us)) (G.map lJ) us defs tc L G others size where
 aok := by have := u5 (vk hL hl ht hs); rwa [hl] at this
 gok := by
  have := u5 (hG.rests hs ho us)
  rwa [show (j8 G us).length = others by simp [j8, hG.len]] at this
 lms := by rw [aa, hG.len]
 lgds := hu
 ldefs := hd
 inc := fun M hM => by obtain ⟨g, hg, rfl⟩ := az.mp hM; exact wv
 exp := fun s t h1 h2 => by
  unfold lZ
  show (lI ((km L).getD s 0) (lR L) (jS L) ((oI (ko L)).getD s 0) t).getD 0 = _
  rw [sq (vk hL hl ht hs) (by exact J0 4 hl h1)]
 goto := fun s k h1 h2 => by
  have hk : k < G.length := by rw [hG.len]; exact h2
  have hgl := hG.row _ (jr (d := ([] : List Int)) hk)
  unfold n4
  rw [show ((tc + k : Nat) : Int) - tc = (k : Nat) by exact J6 20, if_neg (by rw [aa]; exact J27 17 hk), ag, tF (e := ([] : List Int)) hk]
  by_cases q : (G.getD k []).getD s 0 = -1
  ·rw [if_pos (fun z => (ww.mp z).2 q), q]
  ·rw [if_neg (fun z => z (ww.mpr ⟨by exact J0 4 hgl h1, q⟩))]
   show (lI ((km (j8 G us)).getD k 0) (lR (j8 G us)) (jS (j8 G us)) ((oI (ko (j8 G us))).getD k 0) s).getD _ = _
   rw [sq (hG.rests hs ho us) (by simp [j8]; exact hk), Ae hk]
   exact Af (by exact J0 4 hgl h1) q
theorem xu {d : jN} {n : Nat} (h : mU d n) : kl (fun t => !decide ((jB d (t : Int)).getD 0 = 0)) (fun t => (jB d (t : Int)).getD 0) n = d := by
 refine yy mf h.b.srt fun x => ⟨fun hx => ?_, fun hx => ?_⟩
 ·obtain ⟨t, h1, h2, rfl⟩ := mc hx
  cases e : jB d (t : Int) with
  | none => rw [e] at h2; simp at h2
  | some v => simp only [cM]; exact lw e
 ·obtain ⟨k, v⟩ := x
  have hr := h.b.rng _ hx
  have hv := h.v _ hx
  have hg := h.b.srt.get hx
  obtain ⟨t, rfl⟩ : ∃ t : Nat, k = (t : Int) := ⟨k.toNat, by simp at hr; exact J4 21 hr⟩
  simp only at hg hv hr
  unfold kl
  refine az.mpr ⟨t, bz.mpr ⟨aM.mpr (by exact J4 22 hr), ?_⟩, by show ((t : Int), (jB d (t : Int)).getD 0) = _; rw [hg]; rfl⟩
  rw [hg]; simpa using hv
theorem rU {p p' : Nat → Bool} {f f' : Nat → Int} {n : Nat} (h : ∀ t, t < n → p t = p' t ∧ f t = f' t) : kl p f n = kl p' f' n := by
 unfold kl
 rw [iB (q := p') fun t ht => (h t (aM.mp ht)).1]
 exact bQ fun t ht => by rw [(h t (aM.mp (bz.mp ht).1)).2]
theorem Cn {L : List jN} {g : AR} {ms : List (List Nat)} {gds defs : List Int} {G : List (List Int)} {tc others size : Nat} {a : AR} (x : pJ a g ms gds defs tc L G others size) (hL : ∀ d ∈ L, mU d tc) (hl : L.length = size) : rO a tc size = L := by
 unfold rO
 refine bO (by simp [hl]) fun s h1 h2 => ?_
 rw [bk, bL]
 have e := kF (d := ([] : jN)) h2
 rw [← xu (hL _ (bJ h2))]
 unfold sa
 refine rU fun t ht => ?_
 rw [x.exp s t (by exact J0 12 hl h2) ht, e]
 exact ⟨rfl, rfl⟩
theorem Co {L : List jN} {g : AR} {ms : List (List Nat)} {gds defs : List Int} {G : List (List Int)} {tc others size : Nat} {a : AR} (x : pJ a g ms gds defs tc L G others size) (hG : nH G others size) : qJ tc ms g gds others size = G.map qd := by
 unfold qJ
 refine bO (by simp [hG.len]) fun k h1 h2 => ?_
 have h3 : k < G.length := by simpa using h2
 have hgl := hG.row _ (bJ h3)
 rw [bk, bL, bk]
 unfold sb qd
 rw [hgl]
 refine rU fun s hs => ?_
 rw [x.goto s k hs (by rw [← hG.len]; exact h3), kF h3]
 exact ⟨rfl, rfl⟩
theorem wx {g : List Int} : (qd g).map bB = g.filter fun v => !decide (v = -1) := by
 unfold qd kl
 rw [aX]
 have := congrArg (List.filter fun v : Int => !decide (v = -1)) (tG (L := g) (d := (0 : Int)))
 rw [eQ] at this
 exact this
theorem Cp {g : List Int} : nr (qd g) = lJ g := by
 unfold nr qd kl lJ
 rw [aX]
 exact (bQ fun t _ => by simp).trans (List.map_id _)
theorem Cq {g : List Int} {u : Int} : kx u (qd g) = qQ g u := by
 unfold kx qd qQ kl
 rw [eQ, List.filter_filter]
 congr 1
 refine iB fun t _ => ?_
 simp only [cK, jd, List.any_nil, je]
 rw [eR]
 simp
 constructor
 ·rintro ⟨h1, h2⟩; exact ⟨fun z => h2 z.symm, fun z => h1 z.symm⟩
 ·rintro ⟨h1, h2⟩; exact ⟨fun z => h2 z.symm, fun z => h1 z.symm⟩
theorem Ag {G : List (List Int)} : usuals (G.map qd) = yH G := by
 unfold usuals yH
 rw [aX]
 exact bQ fun g _ => by show kj ((qd g).map bB) = _; rw [wx]
theorem Cr {G : List (List Int)} : rests (G.map qd) = j8 G (yH G) := by
 unfold rests j8
 rw [aX]
 refine bO (by simp) fun k h1 h2 => ?_
 have h3 : k < G.length := by simpa using h1
 rw [bk, bk, bL]
 show kx (kj ((qd G[k]).map bB)) (qd G[k]) = _
 rw [Cq, wx, kF h3]
 unfold yH
 rw [tF (e := ([] : List Int)) h3, kF h3]
theorem DJ {G : List (List Int)} : (G.map qd).map nr = G.map lJ := by
 rw [aX]
 exact bQ fun g _ => Cp
theorem Fr {M : List Nat} : (M.map fun t => (2 : Int) ^ t).sum = ((pw 0 M : Nat) : Int) := by
 induction M with
 | nil => rfl
 | cons x M ih =>
  rw [ox, aC, jh, ih, Nat.sub_zero]
  push_cast
  rfl
noncomputable def Ah (count others : Nat) : List Str := (["$end", "error", "$undefined", "a", "b"] : List Str).take count ++ (["$accept", "s", "t"] : List Str).take others
theorem DK {count others : Nat} (h : count ≤ 5) (h2 : others ≤ 3) : (Ah count others).length = count + others := by
 unfold Ah; rw [cf, bg, bg]; simp; exact J27 18 h2 h
theorem Ai {count others : Nat} : (Ah count others).Nodup := by
 have : ((["$end", "error", "$undefined", "a", "b"] : List Str) ++ (["$accept", "s", "t"] : List Str)).Nodup := by decide +kernel
 exact this.sublist (List.Sublist.append (ef _ _) (ef _ _))
theorem oH {a : AR} {rows : Nat} (x : p8 a rows) : ∀ X ∈ tK a, X.length ≤ 5000 := fun X hX => by
 have h1 := x.b
 have h2 := x.o
 have h3 := x.ct
 have h4 := x.t
 have h5 := x.r
 simp only [au, bw, or_false] at hX
 rcases hX with rfl | rfl | rfl | rfl <;> lia
theorem tY (P : PW W) {K : HO → HH} {p : Addr} (U : ∀ o o', kQ p o o' (K o) (K o')) {ns : List Int} {sp gr : Int} (hz : ns.length ≤ 64) (h0 : 0 ≤ sp) (h1 : sp ≤ 400000) (hg : 0 ≤ gr)
  (hq : ∀ (sp' gr' : Int), 0 ≤ sp' → sp' ≤ sp + 1000 → 0 ≤ gr' → Q (.bool true) (K (kr ns sp' gr'))) : jZ W (n + 10) (K (kr ns sp gr)) (.ref 668) [.ref p] Q := by
 wtm_at "def"
 exists jn (k7 (xs := ["size", "count", "others", "many"]) rfl (by decide) (.inr rfl) ?_)
 exists ke P U hz h0 (by exact J27 19 h1) hg (by decide) (by decide) fun d1 sp1 gr1 a0 a1 s0 s1 g1 => ?_
 exists ke P U hz s0 (by exact J27 20 s1 h1) g1 (by decide) (by decide) fun d2 sp2 gr2 b0 b1 s2 s3 g2 => ?_
 exists ke P U hz s2 (by exact J27 21 s3 s1 h1) g2 (by decide) (by decide) fun d3 sp3 gr3 c0 c1 s4 s5 g3 => ?_
 exists ke P U hz s4 (by exact J27 22 s5 s1 s3 h1) g3 (by decide) (by decide) fun d4 sp4 gr4 e0 e1 s6 s7 g4 => ?_
 refine ⟨_, _, rfl, .cons (by kd_in) (.cons (by kd_in) (.cons (by kd_in) (.cons (by kd_in) .nil))), ?_⟩
 obtain ⟨size, hsize⟩ : ∃ k : Nat, 1 + d1 = (k : Int) := ⟨(1 + d1).toNat, by exact J9 20 a0⟩
 obtain ⟨count, hcount⟩ : ∃ k : Nat, 4 + d2 = (k : Int) := ⟨(4 + d2).toNat, by exact J27 23 b0⟩
 obtain ⟨others, hothers⟩ : ∃ k : Nat, 1 + d3 = (k : Int) := ⟨(1 + d3).toNat, by exact J9 20 c0⟩
 obtain ⟨many, hmany⟩ : ∃ k : Nat, 2 + d4 = (k : Int) := ⟨(2 + d4).toNat, by exact J28 0 e0⟩
 rw [hsize, hcount, hothers, hmany]
 have z1 : 0 < size := by exact J28 1 a0 hsize
 have z2 : size ≤ 4 := by exact J28 2 a1 hsize
 have z3 : 4 ≤ count := by exact J28 3 b0 hcount
 have z4 : count ≤ 5 := by exact J28 4 b1 hcount
 have z5 : 1 ≤ others := by exact J28 5 c0 hothers
 have z6 : others ≤ 3 := by exact J28 6 c1 hothers
 have z7 : 2 ≤ many := by exact J28 7 e0 hmany
 have z8 : many ≤ 4 := by exact J28 8 e1 hmany
 have hsp : sp4 ≤ sp + 4 := by exact J28 9 s7 s1 s3 s5
 clear hsize hcount hothers hmany a0 a1 b0 b1 c0 c1 e0 e1 s0 s1 s2 s3 s4 s5 s7 g1 g2 g3
 refine jn (k7 (xs := ["lines", "goals"]) rfl (by decide) (.inr rfl) ?_)
 kd_p1
 exists jA (ny P (by kd_mem) ?_)
 refine DH P U hz s6 (by exact J28 10 hsp h1) g4 z1 z2 z4 z7 z8 fun L sp5 gr5 hLl hL s8 s9 g5 => ?_
 exists jA (ny P (by kd_mem) ?_)
 exists DI P U hz s8 (by exact J28 11 s9 hsp h1) g5 z1 z2 z6 fun G sp6 gr6 hG s10 s11 g6 => ?_
 refine ⟨_, _, rfl, .cons (by kd_in) (.cons (by kd_in) .nil), ?_⟩
 exists jn (qb (α := Nat) (by wtm_at "hcap") (jO ?_))
 let I1 : IT (List PV) := fun i Z => ∀ (l : List Int) (sp' gr' : Int), 0 ≤ sp' → sp' ≤ sp6 + i → 0 ≤ gr' → Z (jp l) (K (kr ns sp' gr'))
 refine ⟨size, rfl, by exact J1 18 z2, _, av size, fun c => .int (c : Nat), I1, by wtm_at "crho", rfl, by rw [aq, am]; exact J1 9 z2, fun Z zz => zz [] sp6 gr6 s10 (by exact J0 18) g6, ?_, ?_⟩
 ·rintro j c hc l sp7 gr7 s12 s13 g7 hyl
  have hj := (aA.mp hc).1
  rw [aq] at hj
  exists ⟨_, by kd_in, ny P (by kd_mem) ?_⟩
  refine ke P U hz s12 (by exact J28 12 s11 s9 hsp s13 h1 z2 hj) g7 (by exact J28 13 z7) (by exact J9 14 z8) fun d sp8 gr8 e0 e1 s14 s15 g8 => ?_
  exact Of.eq (by simp) (fun Z zz => zz (l ++ [d]) sp8 gr8 s14 (by exact J0 19 s15 s13) g8)
 rintro defs sp7 gr7 s12 s13 g7 hyl
 rw [aa, aq] at hyl
 rw [aq] at s13
 have xGl := hG.len
 have hGz : G.length ≤ sizeLine := by rw [am]; exact J1 3 z6 xGl
 refine ⟨_, by kd_in, ?_⟩
 exists jn (lB (α := List Int) (fun g => .int (ot g)) (by wtm_at "hcap") (jP ?_))
 refine ⟨_, rfl, _, G, fun l => .lst (jp l), by wtm_at "crho", rfl, hGz, fun g hg => ⟨_, by kd_in, ?_⟩, ?_⟩
 ·have hgl := hG.row g hg
  exists vR P (by kd_mem) ?_
  refine si (ns := g) Vw.refl (fun z => by rw [z] at hgl; simp at hgl; exact J28 14 hgl z1) ?_
  exact ⟨rfl, rfl⟩
 rw [show G.map (fun g => PV.int (ot g)) = jp (G.map ot) by show _ = cV _ (cV _ _); rw [aX]; rfl]
 refine ⟨_, by kd_in, ?_⟩
 exists jn (lB (α := List Int) (fun g => .int (pw 0 (lJ g) : Nat)) (by wtm_at "hcap") (jP ?_))
 refine ⟨_, rfl, _, G, fun l => .lst (jp l), by wtm_at "crho", rfl, hGz, fun g hg => ⟨_, by kd_in, ?_⟩, ?_⟩
 ·have hgl := hG.row g hg
  exists Bo P (by kd_mem) (jA (lj (α := Nat) (fun s => !decide (g.getD s 0 = -1)) (fun s => .int ((2 : Int) ^ s)) (by wtm_at "hcap") (jO ?_)))
  refine ⟨size, rfl, by exact J1 18 z2, _, av size, fun c => .int (c : Nat), by wtm_at "crho", rfl, by rw [aq, am]; exact J1 9 z2, fun s hs => ⟨_, by kd_in, ?_⟩, ?_⟩
  ·have hs2 := aM.mp hs
   kd_p
   refine j9 Vw.refl (by exact J0 0) (by exact J0 2 hgl hs2) (by exact J0 16 z2 hgl) ?_
   rw [ag]
   kd_p
   exists ⟨by simp, rfl, fun _ => ?_⟩
   refine qS (by exact J0 0) (by exact J28 15 z2 hs2) (by decide) ?_
   rw [ag]
   exact ⟨rfl, rfl⟩
  ·rw [show ((av size).filter fun s => !decide (g.getD s 0 = -1)).map (fun s => PV.int ((2 : Int) ^ s)) = jp ((lJ g).map fun s => (2 : Int) ^ s) by unfold lJ; rw [hgl]; show _ = cV _ (cV _ _); rw [aX]; rfl]
   refine ml (uO Vw.refl ?_)
   rw [Fr]
   exact ⟨rfl, rfl⟩
 rw [show G.map (fun g => PV.int (pw 0 (lJ g) : Nat)) = (G.map lJ).map fun M => PV.int (pw 0 M : Nat) by rw [aX]; rfl]
 refine ⟨_, by kd_in, ?_⟩
 exists jn (jD rfl (kR (li (kP (tB ?_)))))
 intro b1
 kd_p
 refine ⟨_, _, .lst (.head _), rfl, by rw [am]; decide, fun b2 => ?_⟩
 exists tB ?_
 intro b3
 kd_p
 refine ⟨_, _, .lst (.head _), rfl, by rw [am]; decide, fun b4 => ?_⟩
 refine uP (.lst (.tail _ (.tail _ (.head _)))) (.lst (.head _)) (by rw [bg, bg, am]; exact J28 16 z6 z4) fun b5 => ⟨b5, _, _, rfl, rfl, _, _, .four, ?_⟩
 rw [show iE count [PV.str "$end", PV.str "error", PV.str "$undefined", PV.str "a", PV.str "b"] ++ iE others [PV.str "$accept", PV.str "s", PV.str "t"] = uq (Ah count others) by unfold Ah; show _ = cV _ _; rw [aJ, eH, eH]; rfl]
 have hnl := DK z4 z6
 have hnd := Ai (count := count) (others := others)
 generalize Ah count others = names at *
 refine ⟨_, by kd_in, ?_⟩
 refine jn (jD rfl ?_)
 kd_p1
 kd_p1
 kd_p1
 kd_p1
 kd_p1
 exists jA (kR (li (kP ?_)))
 intro c1
 kd_p
 refine yZ (.lst (.head _)) (by exact J0 0) (by exact J5 2 z8) (by simp; exact J1 9 z8) fun c2 => ⟨c2, _, _, rfl, rfl, _, _, .one, ?_⟩
 rw [show (bd ((many : Int)).toNat [PV.int (count : Nat)]).flatten = jp (bd many (count : Nat)) by rw [ag]; simp]
 exists jA (kR (li (kP ?_)))
 intro c3
 kd_p
 intro c4
 kd_p
 refine yZ (.lst (.head _)) (by exact J28 17 z7) (by exact J28 18 z8) (by simp; exact J28 19 z8) fun c5 => ?_
 wtm_at "w1"
 refine uP (.lst (.tail _ (.tail _ (.head _)))) (.lst (.head _)) (by rw [am]; simp; exact J28 20 z8) fun c6 => ⟨c6, _, _, rfl, rfl, _, _, .three, ?_⟩
 generalize ([PV.int 2] ++ (bd ((many : Int) - 1).toNat [PV.int 1]).flatten : List PV) = lens
 exists jA (kR (li (kP ?_)))
 intro c7
 kd_p
 refine yZ (.lst (.head _)) (by exact J0 0) (by exact J5 2 z8) (by simp; exact J1 9 z8) fun c8 => ⟨c8, _, _, rfl, rfl, _, _, .one, ?_⟩
 generalize ((bd ((many : Int)).toNat [PV.int 0]).flatten : List PV) = befs
 kd_p
 have hRL := vk hL hLl (by exact J2 3 z4) (by exact J1 19 z2)
 have hC1 : pJ (kU L) (kU (j8 G (G.map ot))) (G.map lJ) (G.map ot) defs count L G others size := yI hL hLl hG (by rw [aa, xGl]) hyl (by exact J2 3 z4) (by exact J1 19 z2) (by exact J1 7 z6)
 have hC2 : pJ (kU L) (kU (j8 G (yH G))) (G.map lJ) (yH G) defs count L G others size := yI hL hLl hG (by unfold yH; rw [aa, xGl]) hyl (by exact J2 3 z4) (by exact J1 19 z2) (by exact J1 7 z6)
 have hR1 := hG.rests (by exact J1 19 z2) (by exact J1 7 z6) (G.map ot)
 have hR2 := hG.rests (by exact J1 19 z2) (by exact J1 7 z6) (yH G)
 have hgc := Co hC1 hG
 have har := Cn hC1 hL hLl
 exists kz P hRL ?_
 exists yF P hG (by rw [aa, xGl]) z2 z6 ?_
 exists kz P hR1 ?_
 exists BO P (a := kU L) (g := kU (j8 G (G.map ot))) hnd (by exact J9 21 hnl) (by exact J9 22 z6 z4 hnl) ?_
 refine Fn P hC1.gok hC1.aok hC1.lms hC1.lgds hC1.inc (by exact J1 19 z2) (by exact J9 21 hnl) (by exact J2 3 z4) (by exact J28 21 z6 z4 hnl) hnd hyl (G.map qd) (by rw [show names.length - count = others by exact J28 22 hnl]; exact hgc) ?_
 rw [har, Cr, Ag, DJ]
 kd_p
 exists yG P hC1 hLl (fun d hd => (hL d hd).b) hG z2 (by exact J9 23 z3) z4 z6 ?_
 show jC false _ _
 exists jC.ff ?_
 exists yG P hC2 hLl (fun d hd => (hL d hd).b) hG z2 (by exact J9 23 z3) z4 z6 ?_
 show jC false _ _
 refine jC.ff ?_
 wtm_at "w1"
 kd_p1
 kd_p1
 exists jn (lB (α := List Int) (fun g => .int (kj (g.filter fun v => !decide (v = -1)))) (by wtm_at "hcap") (jP ?_))
 refine ⟨_, rfl, _, G, fun l => .lst (jp l), by wtm_at "crho", rfl, hGz, fun g hg => ⟨_, by kd_in, ?_⟩, ?_⟩
 ·have hgl := hG.row g hg
  exists ny P (by kd_mem) (jA (lj (α := Int) (fun v => !decide (v = -1)) PV.int (by wtm_at "hcap") (jP ?_)))
  refine ⟨_, rfl, _, g, PV.int, by wtm_at "crho", rfl, by rw [am]; exact J2 9 z2 hgl, fun v hv => ⟨_, by kd_in, ?_⟩, ?_⟩
  ·kd_p
   exists ⟨by simp, rfl, fun _ => ?_⟩
   exact rfl
  ·refine ml (DG P (bH (bm _ _) (by exact J28 23 z2 hgl)) ?_)
   exact ⟨rfl, rfl⟩
 rw [show G.map (fun g => PV.int (kj (g.filter fun v => !decide (v = -1)))) = jp (yH G) by unfold yH; show _ = cV _ (cV _ _); rw [aX]; rfl]
 refine ⟨_, by kd_in, ?_⟩
 exists jn (kI (jU ?_))
 exists lz (w := count) P hRL ⟨fun d hd => (hL d hd).b.len, bH (fA (show L.length ≤ 4 by exact J29 0 z2 hLl) z4) (by decide)⟩ ?_
 refine jT (t := GR L) 2 (by decide) (by rw [xk]; exact .refl) .refl (by wtm_at "dat") (fun es => by simp) ?_
 kd_p1
 kd_p1
 kd_p1
 exists jn (jD rfl (ny P (by kd_mem) ?_))
 refine yF P hG (by unfold yH; rw [aa, xGl]) z2 z6 ?_
 refine ⟨_, by kd_in, ?_⟩
 exists jn (kI (jU ?_))
 exists lz (w := size) P hR2 ⟨fun d hd => by
   obtain ⟨k, hk, rfl⟩ := az.mp hd
   have := hG.row _ (jr (d := ([] : List Int)) (aM.mp hk))
   exact bj kL (by exact J4 19 this), bH (fA (show (j8 G (yH G)).length ≤ 3 by simp [j8]; exact J29 1 z6 xGl) z2) (by decide)⟩ ?_
 refine jT (t := GR (j8 G (yH G))) 2 (by decide) (by rw [xk]; exact .refl) .refl (by wtm_at "dat") (fun es => by simp) ?_
 kd_p1
 kd_p1
 kd_p1
 exists jn (lB (α := List Int) (fun g => .lst (o4 (lJ g))) (by wtm_at "hcap") (jP ?_))
 refine ⟨_, rfl, _, G, fun l => .lst (jp l), by wtm_at "crho", rfl, hGz, fun g hg => ⟨_, by kd_in, lj (α := Nat) (fun s => !decide (g.getD s 0 = -1)) (fun s => .int (s : Nat)) (by wtm_at "hcap") (jO ?_)⟩, ?_⟩
 ·have hgl := hG.row g hg
  kd_p
  refine ⟨size, rfl, by exact J1 18 z2, _, av size, fun c => .int (c : Nat), by wtm_at "crho", rfl, by rw [aq, am]; exact J1 9 z2, fun s hs => ⟨_, by kd_in, ?_⟩, ?_⟩
  ·have hs2 := aM.mp hs
   kd_p
   refine j9 Vw.refl (by exact J0 0) (by exact J0 2 hgl hs2) (by exact J0 16 z2 hgl) ?_
   rw [ag]
   kd_p
   exists ⟨by simp, rfl, fun _ => ?_⟩
   exact rfl
  ·unfold lJ
   rw [hgl]
   exact ⟨rfl, rfl⟩
 refine ⟨_, by kd_in, ?_⟩
 exists jn (kI (rx (jU (ku (α := Nat) (fun k => .lst (o4 (lJ (G.getD k [])))) (by wtm_at "hcap") (jO ?_)))))
 refine ⟨others, rfl, by exact J1 5 z6, _, av others, fun c => .int (c : Nat), by wtm_at "crho", rfl, by rw [aq, am]; exact J2 5 z6, fun k hk => ⟨_, by kd_in, ?_⟩, ?_⟩
 ·have hk2 := aM.mp hk
  exists ny P (by kd_mem) ?_
  rw [show (count : Int) + (k : Int) = ((count + k : Nat) : Int) by exact J9 17]
  refine tW P (fun M hM => ?_) (by rw [aa]; exact J0 6 z6 xGl) (by rw [aa]; exact J0 4 xGl hk2) ?_
  ·obtain ⟨g, hg, rfl⟩ := az.mp hM
   have hgl := hG.row g hg
   exact ⟨wv, bj (bm _ _) (by rw [aq]; exact J29 2 z2 hgl)⟩
  ·rw [tF (e := ([] : List Int)) (by exact J0 4 xGl hk2)]
   exact ⟨rfl, rfl⟩
 rw [show (av others).map (fun k => PV.lst (o4 (lJ (G.getD k [])))) = G.map fun g => PV.lst (o4 (lJ g)) by rw [← xGl]; exact tH (f := fun g => PV.lst (o4 (lJ g)))]
 kd_p
 exists jT 2 (by decide) .refl .refl (k4 fun _ => yA) (fun es => by simp) ?_
 refine Cl P (oH hC2.aok) (oH hC2.gok) (by exact J0 16 z2 hyl) (by rw [hC2.lgds]; exact J8 23 z6) U hz s12 (by exact J29 3 s11 s9 hsp s13 h1 z2) g7 fun sp8 gr8 s14 s15 g8 => ?_
 have hq' : Q (.bool true) (K (kr ns sp8 gr8)) := hq sp8 gr8 s14 (by exact J29 4 s15 s9 s11 hsp s13 z2) g8
 generalize K (kr ns sp8 gr8) = H at *
 kd_p
 show jC false _ _
 refine jC.ff ?_
 have hT1 := pO (L := (kU L).T) (oH hC2.aok _ (.tail _ (.head _)))
 have hT2 := pO (L := (kU (j8 G (yH G))).T) (oH hC2.gok _ (.tail _ (.head _)))
 kd_p
 exists jT 1 (by decide) .refl .refl vf (fun es => by simp) ?_
 exists jT 1 (by decide) .refl .refl (k4 fun _ => pU) (fun es => by simp) ?_
 exists tx P (oH hC2.aok _ (.tail _ (.head _))) (oH hC2.gok _ (.tail _ (.head _))) ?_
 rw [aa, aa]
 refine jC.neg (by exact J29 5) ?_
 wtm_at "w1"
 kd_p1
 kd_p1
 refine jn (jR (uW (m7 ?_)))
 exists ny P (by kd_mem) ?_
 have hsn : (uq names).length ≤ sizeLine := by rw [aa, am]; exact J29 6 z6 z4 hnl
 exists Dw P (names := names) (oH hC1.aok _ (.head _)) (by exact J9 22 z6 z4 hnl) (oH hC2.aok _ (.tail _ (.head _))) (oH hC2.gok _ (.tail _ (.head _))) ?_
 rw [aa]
 exists lA (nq (by exact J29 7 z2)) ?_
 rw [hC1.aok.b, decide_eq_true rfl]
 refine ⟨_, rfl, jC.tt ?_⟩
 refine Bt (m7 ?_)
 kd_p1
 kd_p1
 kd_p1
 kd_p1
 kd_p1
 kd_p1
 kd_p1
 kd_p1
 kd_p1
 kd_p1
 kd_p1
 kd_p1
 kd_p1
 kd_p1
 exists jA (kR (li (kP ?_)))
 intro c9
 kd_p
 refine yZ (.lst (.head _)) (by exact J0 0) (by exact J5 2 z8) (by simp; exact J1 9 z8) fun c10 => ⟨c10, _, _, rfl, rfl, _, _, .one, ?_⟩
 rw [show (bd ((many : Int)).toNat [PV.int (count : Nat)]).flatten = jp (bd many (count : Nat)) by rw [ag]; simp]
 kd_p
 refine qs 2 (by decide) .refl .refl (sr (pq (k4 fun _ => Em) (pq vf vg))) ?_
 exact hq'
theorem GW (P : PW W) {ns : List Int} (hz : ns.length ≤ 64) (hq : ∀ H', Q (.bool true) H') : jZ W (n + 11) H (.ref 719) [.lst (jp ns)] Q := by
 have hz' : (ns.take 40).length ≤ 64 := by rw [bg]; exact J29 8
 wtm_at "def"
 exists jn (jD rfl (ny P (by kd_mem) ?_))
 refine GQ P hz fun p => ?_
 have U : ∀ o o', kQ p o o' ((p, o) :: H) ((p, o') :: H) := fun _ _ => .head
 refine ⟨_, by kd_in, ?_⟩
 exists jn (kI (oT (oh (ny P (by kd_mem) (jA (ny P (by kd_mem) ?_))))))
 refine B2 (K := fun o => (p, o) :: H) P U hz' (by decide) (by decide) (by decide) fun R sp1 gr1 r0 r1 hR s0 s1 g1 => ?_
 exists ml (wm P (by exact J29 9 r0) r1 hR ?_)
 show jC false _ _
 refine jC.ff ?_
 kd_p1
 exists jn (om rfl rfl (ny P (by kd_mem) ?_))
 refine wp (K := fun o => (p, o) :: H) P U hz' s0 (by exact J29 10 s1) g1 fun lines tags cnt sp2 gr2 hA s2 s3 g2 => ?_
 refine mW (xs := ["lines", "marks"]) (ps := [j5 lines, n6 tags]) Vw.refl rfl (.cons (by kd_in) (.cons (by kd_in) .nil)) ?_
 exists jn (qb (α := Nat) (by wtm_at "hcap") (jO ?_))
 have xs0 := hA.s0
 have xs1 := hA.s1
 have xc0 := hA.c0
 have xc1 := hA.c1
 have hl0 : (lines.getD 0 []).length = cnt := hA.row _ (jr xs0)
 have hsl : ((jp (lines.getD 0 [])).length) ≤ sizeLine := by rw [aa, am]; exact J1 3 xc1 hl0
 let I1 : IT (List PV) := fun i Z => ∀ (l : List Int) (sp' gr' : Int), (∀ c ∈ l, 0 ≤ c ∧ c < cnt) → 0 ≤ sp' → sp' ≤ sp2 + i → 0 ≤ gr' → Z (jp l) ((p, kr (ns.take 40) sp' gr') :: H)
 refine ⟨5, rfl, by decide, _, av 5, fun c => .int (c : Nat), I1, by wtm_at "crho", rfl, by rw [aq, am]; decide, fun Z zz => zz [] sp2 gr2 (by simp) s2 (by exact J0 18) g2, ?_, ?_⟩
 ·rintro j c hc l sp3 gr3 hl s4 s5 g3 hyl
  have hj := (aA.mp hc).1
  rw [aq] at hj
  exists ⟨_, by kd_in, ny P (by kd_mem) ?_⟩
  refine kE Vw.refl (by decide) xs0 (by decide) ?_
  rw [show (0 : Int).toNat = 0 from rfl]
  kd_p
  rw [aa, hl0]
  refine ke (K := fun o => (p, o) :: H) P U hz' s4 (by exact J29 11 s3 s5 s1 hj) g3 (by exact J0 14 xc0) (by exact J8 11 xc1) fun d sp4 gr4 e0 e1 s6 s7 g4 => ?_
  refine Of.eq (by simp) (fun Z zz => zz (l ++ [d]) sp4 gr4 (fun c hc => ?_) s6 (by exact J0 19 s7 s5) g4)
  rcases aQ.mp hc with hc | hc
  ·exact hl c hc
  ·simp at hc; subst hc; exact ⟨e0, e1⟩
 rintro word sp3 gr3 hw s4 s5 g3 hyl
 rw [aa, aq] at hyl
 rw [aq] at s5
 refine ⟨_, by kd_in, ?_⟩
 exists jn (kI (rx (oT (oh (ny P (by kd_mem) ?_)))))
 exists qP P hA hw hyl ?_
 show jC false _ _
 exists jC.ff ?_
 exists tY (K := fun o => (p, o) :: H) P U hz' s4 (by exact J29 12 s3 s5 s1) g3 fun sp4 gr4 s6 s7 g4 => ?_
 show jC false _ _
 refine jC.ff ?_
 kd_p1
 refine jC.ff ?_
 kd_p1
 exists jn (jI ?_)
 let I2 : IT jt := fun i Z => ∀ (sp' gr' : Int), 0 ≤ sp' → sp' ≤ sp4 + 1000 * i → 0 ≤ gr' → Z [lc "script" (.lst (jp ns)), cc "pen" (.ref p), cc "lines" (j5 lines), lc "marks" (n6 tags), lu "turn", lc "word" (.lst (jp word)), gb "_law_pen", gb "_law_rows_hold", gb "_law_sparse", gb "_law_automaton", gb "range", gb "_law_automaton_holds", gb "_law_tables_hold", gb "_law_arrays_hold"] ((p, kr (ns.take 40) sp' gr') :: H)
 refine ⟨3, rfl, by decide, I2, fun Z zz => zz sp4 gr4 s6 (by exact J29 13) g4, ?_, ?_⟩
 ·rintro i hi sp5 gr5 s8 s9 g5
  refine ⟨_, by kd_in, ?_⟩
  exists jn (kI (oT (oh (ny P (by kd_mem) ?_))))
  exists Ce (K := fun o => (p, o) :: H) P U hz' s8 (by exact J29 14 s7 s3 s5 s9 s1 hi) g5 fun sp6 gr6 s10 s11 g6 => ?_
  show jC false _ _
  exists jC.ff ?_
  exact jx.nx (by kd_all) (fun Z zz => zz sp6 gr6 s10 (by exact J29 15 s11 s9) g6)
 ·rintro sp5 gr5 s8 s9 g5
  kd_p
  exact hq _
theorem wy {P : Params} {h : Heap} : ∀ {vs : List Value} {ns : List Int}, WellAll P h vs (ofPys (ns.map PyData.int)) → IntsAre vs ns
 | _, [], w => by cases w; exact .nil
 | _, n :: ns, w => by
  cases w with
  | cons a b => cases a with | int i t => exact .cons _ _ (wy b)
theorem GX {h : Heap} {K : Frag} (hK : K.In h) {m : Str → Option Value} (hn : h.Ns mainGlobals m) (e : (K.lookup 3).any (fun o => match o with | ⟨_, _, .dict _ _, _⟩ => true | _ => false) = true) (x : Str) : m x = tS K x := by
 obtain ⟨o, es, ep, h1, h2, _, h4⟩ := hn
 unfold tS
 cases q : K.lookup 3 with
 | none => rw [q] at e; cases e
 | some o' =>
  have : o' = o := bD ((hK 3 o' q).symm.trans h1)
  subst this
  obtain ⟨c, dd, dt, sl⟩ := o'
  subst h2
  rw [← h4 x]
  unfold nsFind findBy
  obtain ⟨l⟩ := es
  show i7 _ (Array.find? _ l.toArray) = i7 _ (List.find? _ l)
  rw [List.find?_toArray]
noncomputable def GI (s : Shared) : Gh := ⟨fun b => s.heap.get? b, fun _ => none⟩
theorem xw {W : Wd} {s : Shared} (h0 : W.B0 = s.heap) (h1 : W.os0 = s.os) (hg : s.gens = #[]) : HR W (GI s) [] s where
 bas := fun b o e => by rw [h0] at e; exact e
 bown := fun b i e => by cases e
 imm := fun b o e => ⟨e, rfl⟩
 nodup := .nil
 slot := fun a o h => by cases h
 os := h1.symm
 gens := hg
theorem IF {W : Wd} (P : PW W) {s : Shared} (h0 : W.B0 = s.heap) (h1 : W.os0 = s.os) (hg : s.gens = #[]) {a : Addr} {ns : List Int} {Pm : Params} (hw : Well Pm s.heap (.ref a) (ofPy (.list (ns.map PyData.int)))) (hz : ns.length ≤ 63) :
  wpAny (model W.prog W.w) callerA (PySem.call (.ref 719) [.ref a]) (fun v s' => v = .bool true ∧ (∀ b o, s.heap.get? b = some o → s'.heap.get? b = some o) ∧ s'.os = s.os ∧ s'.gens = #[]) mO s := by
 have hr := xw h0 h1 hg
 have L := GW (n := 0) (H := []) (Q := fun p _ => p = .bool true) P (ns := ns) (by exact J13 22 hz) fun _ => rfl
 cases hw with
 | list e wa =>
  refine ay (L.toN callerA (GI s) s _ ⟨rfl, by decide, by decide⟩ hr ⟨.ref a, _, rfl, ⟨a, _, _, rfl, e, xO (wy wa)⟩, rfl⟩) (fun v s' h => ?_) fun _ _ x => x
  obtain ⟨G', p, H', e1, r1, v1, rfl⟩ := h
  exact ⟨by exact v1, fun b o hb => e1.keep b o hb rfl (by simp), r1.os.trans h1, r1.gens⟩
theorem J : PySem.Challenge.rw_nn0384_01.Holds := head (by
 intro w s₀ s₁ mg mb G Y fa o pm cd doc dV kV ho hd hcd hD hmg hg args vals as hpre hlay hrd hwl hlo
 have inK : (KF w.params).In s₁.heap := kIn_of Y
 have mgx := GX inK G.T.g (by kernel_rfl)
 have hfa : fa = 719 := by
  have h1 : mg "law" = some (.ref fa) := hmg
  rw [mgx, show tS (KF w.params) "law" = some (.ref 719) by kernel_rfl] at h1
  exact (Value.ref.inj (bD h1)).symm
 subst hfa
 let W : Wd := ⟨Challenge.rw_nn0384_01.row.prog, w, s₁.heap, s₁.os, mg, mb, G.T.g, G.T.b, G.T.nolimit, G.T.builtins, KF w.params, inK, by
  obtain ⟨mm, ⟨o, _, _, h, _⟩, _⟩ := (G.T.seer (by decide +kernel)).mods
  exact ⟨o, h⟩⟩
 have P : PW W := ⟨rfl, mgx⟩
 wrow_args hpre hlay hrd hwl hlo
 rename_i w1 _ _ _ hz _
 refine ay (IF P rfl rfl hg w1 (by exact J13 23 hz)) (fun v s' h => ?_) fun _ _ x => x.elim
 obtain ⟨rfl, h2, h3, h4⟩ := h
 refine GoodW.toG ⟨.inl ⟨.bool true, .bool true, [], rfl, fun _ => rfl, ReadsW.bool _, (by first | wrow_post | kernel_rfl), fun _ => ⟨.nil, fun _ h => by cases h⟩⟩, h2, h3, h4⟩)
end Mine.Internal
end
theorem PySem.Challenge.cw_nn0384_01_holds : PySem.Challenge.rw_nn0384_01.Holds := by
 exact Mine.Internal.J
