import PyProof.Rows.All
import PySem.Challenge.RW_untorn_k05_readers_made
import KE.OsRunLaw
import HandS.Head0
import HandS.Head1
import HandS.Head2
import KE.KDictKeyed
import Wide.All
import OpenK.AllK
import Wide.FinOn
import HandS.ForMost
import HandS.Zip
import HandS.Style
import HandS.Star
import KE.DataEq
import KE.GoesEnum
import KE.GoesMore
import HandS.WordsExc
import HandS.Defaults
import HandS.Conv
import HandS.Wide
import HandS.TupAny
import HandS.RaiseMore
import HandS.Strs
import KE.KIndexOf
import HandS.SortInts
import HandS.Dict
import HandS.TryOnly
import HandS.List
import PyProof.ReprRoads
import HandS.Sort
import HandS.WideMore
import KE.SortKeyHeap
import HandS.SortKw
import PyProof.TupleOfSeq
import HandS.DictEq
import KE.KDictPairs
import KE.KDictZip
import PyProof.StrLawsRepr
import HandS.Property
import HandS.ClsMeth
import HandS.ExcInit
import HandS.ExcInitHot
import KE.KExcSuper
import HandS.CallSlots
import HandS.ExcCtx
import HandS.CallLocal
import HandS.SuiteRaise
import HandS.RaiseFrom
import HandS.ExcField
import HandS.ExcIs
import HandS.IsInst
import HandS.Text
import HandS.FStr
import PyProof.Rows.SetFrom
import HandS.SetKeys
import HandS.DictComp
import PyProof.InstSpecial
import HandS.TupSets
import HandS.TupMul
import HandS.Codes
import KE.SortData
import HandS.SetFor
import HandS.SetBool
import HandS.More
import HandS.SetTxt0
import PyProof.Rows.SortShellAny
import KE.KDictDisplayH
import PyProof.DictTable
import KE.KCallOwn
import HandS.ListItems
import HandS.OwnEq
import PyProof.InstNe
import KE.LtData
set_option Elab.async false
set_option linter.all false
set_option maxRecDepth 100000
set_option maxHeartbeats 4000000
set_option autoImplicit false
set_option hygiene false
local macro_rules | `($x:ident) => do
 let .str .anonymous s := x.getId | Lean.Macro.throwUnsupported
 if s.front != 'Y' then Lean.Macro.throwUnsupported
 match s with
 | "Ya" => `((mSeq (mSet 12 (mApp oTup (zab (zba zaq (mSq (mVar 5)) (gT 2 (gsC (gN 13) (gsC (gN 14) gsN))) f_law_c1 f_law_c2 [13, 14]) (mNil)))) (mSeq (mIf (zai asB (mBin (eqW true) (mApp oRepr (zab (mProp "Reader" za4 (mVar 11)) (mNil))) (mApp oRepr (zab (mVar 12) (mNil))))) (mRet (mC (.bl false))) (zbm)) (mSeq (mIf (mOr (zai asB (mBin (eqW true) (mLenOwn "Reader" zbu (mVar 11)) (mApp oLen (zab (mVar 8) (mNil))))) (zai asB (mBin (eqW true) (mApp (zcg [("Reader", zaf)]) (zab (mVar 11) (mNil))) (zaz za1 [] (zab (mApp zbj (zab (mVar 7) (zab (mVar 5) (zab (mVar 6) (mNil))))) (mNil)))))) (mRet (mC (.bl false))) (zbm)) (mSeq (mIf (zai asB (mBin (oEqO true [("Reader", zaj)]) (mVar 11) (zcc (za7 "Reader" zah [] (zab (mVar 7) (zab (mApp oTup (zab (mVar 8) (mNil))) (zab (mApp oTup (zab (mVar 9) (mNil))) (mNil)))))))) (mRet (mC (.bl false))) (zbm)) (mSeq (mIf (mOr (mAnd (zai asB (mBin (eqW false) (mVar 9) (mApp zaq (mNil)))) (zai asB (mBin (oEqO true [("Reader", zaj)]) (mVar 11) (zcc (za7 "Reader" zah [.tup []] (zab (mVar 7) (zab (mVar 8) (mNil)))))))) (zai asB (mBin (oInO [("Reader", zaj), ("Kind", zdh)]) (mVar 11) (mApp zbj (zab (mApp (zcg [("Reader", zaf)]) (zab (mVar 11) (mNil))) (zab (mC .non) (zab (zcc (za7 "Kind" zbt [] (zab (mVar 7) (zab (mApp zaq (zab (mC (.str "write a")) (mNil))) (mNil))))) (mNil)))))))) (mRet (mC (.bl false))) (zbm)) (mSeq (mIf (mAnd (zai asB (mBin (isN true) (mVar 3) (mC .non))) (zai asB (mBin (eqW true) (mBin (oEqO false [("Reader", zaj)]) (mVar 11) (mVar 3)) (mBin (eqW false) (mApp (zcg [("Reader", zaf)]) (zab (mVar 11) (mNil))) (mApp (zcg [("Reader", zaf)]) (zab (mVar 3) (mNil))))))) (mRet (mC (.bl false))) (zbm)) (mSet 3 (mVar 11)))))))))
 | "Yb" => `((hr.mono (by decide)))
 | "Yc" => `((by omega))
 | "Yd" => `((.Call (.Attribute (.Call (.Name "super" p0) [] [] p1) "__init__" p2) [.Constant (.str txt) j p3] [] p4))
 | "Ye" => `((zab (mVar 7) (zab (mApp oTup (zab (mVar 8) (mNil))) (zab (mApp oTup (zab (mVar 9) (mNil))) (mNil)))))
 | "Yf" => `((ds.map dTr))
 | "Yg" => `((by simp [Rw, Rf]))
 | "Yh" => `((Aft.refl s))
 | "Yi" => `((by simp_all_arith!))
 | "Yj" => `((L2.CX P w))
 | "Yk" => `((mC (.int 0)))
 | "Yl" => `((zab (mApp zbj (zab (mFld ["Kind", "Reader"] "name" (mVar 11)) (zab (mFld ["Kind", "Reader"] "steps" (mVar 11)) (zab (mFld ["Reader"] "checks" (mVar 11)) (mNil))))) (mNil)))
 | "Ym" => `((ds.map fun d => .str (dTx d)))
 | "Yn" => `((mC (.int 1)))
 | "Yo" => `((ts.map W.t))
 | "Yp" => `((fun s => rfl))
 | "Yq" => `((zab (mVar 1) (mNil)))
 | "Yr" => `((PySem.W.ksFn "__init__" "InvalidReader.__init__" (defArgs (inClass (topS 3) 0)) (defBody (inClass (topS 3) 0)) (defScope (inClass (topS 3) 0)) .none ych yci ycj ycl (.ref yaa) yck ybh))
 | "Ys" => `((PySem.W.ksFn "__init__" "InvalidKind.__init__" (defArgs (inClass (topS 2) 0)) (defBody (inClass (topS 2) 0)) (defScope (inClass (topS 2) 0)) .none ydp ydq ydr ydt (.ref yav) yds yb0))
 | "Yt" => `(("Reader", zaf))
 | "Yu" => `((za7 "Reader" zah [] (zab (mC (.str "r")) (zab (mApp zaq (zab (mC (.str "look c")) (zab (mC (.str "read a")) (mNil)))) (zab (mApp zaq (zab (mC (.str "even 0")) (mNil))) (mNil))))))
 | "Yv" => `((PySem.W.fnOf "__init__" "Reader.__init__" (defArgs yh) (defBody yh) (defScope yh) (.ref y8) ya0 ya1 ya2 ya4 yab ya3))
 | "Yw" => `((by first | exact blkOk_by (N := yfs) (sc := defScope ycy) (by decide +kernel) | exact blkOk_by (by with_unfolding_all rfl) | exact blkOk_by (by decide +kernel +revert)))
 | "Yx" => `((.bl false))
 | _ => Lean.Macro.throwUnsupported
local macro_rules | `($x:ident) => do
 let .str .anonymous s := x.getId | Lean.Macro.throwUnsupported
 if s.front != 'Y' then Lean.Macro.throwUnsupported
 match s with
 | "Yy" => `((za7 "Reader" zah [.tup []] (zab (mC (.str "r")) (zab (mApp zaq (zab (mC (.str "read a")) (mNil))) (mNil)))))
 | "Yz" => `((getMethod ov "__init__" (do return (← importBound (.Call (.Name "super" p0) [] [] p1) env).getD true)))
 | "Y0" => `((eqW false))
 | "Y1" => `((fun _ _ _ _ _ => zbq))
 | "Y2" => `((List.mem_cons_self ..))
 | "Y3" => `((by decide +kernel))
 | "Y4" => `((zab (mVar 3) (mNil)))
 | "Y5" => `((zaa (zac 1) (zad)))
 | "Y6" => `((by simp; omega))
 | "Y7" => `((some (.lst (([] : List Int).map wI))))
 | "Y8" => `((.t (.lst ts)))
 | "Y9" => `((model prog w))
 | "Yaa" => `((NestedKey × Addr × V))
 | "Yab" => `((hp.set j (some (.lst (ys.map wI)))))
 | "Yac" => `((eqW true))
 | "Yad" => `((.lst (cs.map chkT)))
 | "Yae" => `((by simp))
 | "Yaf" => `((some (.lst [.r j, .t (.int ((st * 48271 + 43) % 2147483647))])))
 | "Yag" => `((.t (.tup ts)))
 | "Yah" => `((.t (.int i)))
 | "Yai" => `((fun _ _ => rfl))
 | "Yaj" => `((.scr (ns.map T.int)))
 | "Yak" => `((zab (mVar 5) (mNil)))
 | "Yal" => `((mBin wAdd (mC (.str " if ")) (mSM oJoin (mC (.str ", ")) (zaz zaw [] (zab (mBin ixW (mVar 0) (mC (.int 2))) (mNil))))))
 | _ => Lean.Macro.throwUnsupported
local macro_rules | `($x:ident) => do
 let .str .anonymous s := x.getId | Lean.Macro.throwUnsupported
 if s.front != 'Y' then Lean.Macro.throwUnsupported
 match s with
 | "Yam" => `((.Call (.Name x p) (e :: es) [] pos))
 | "Yan" => `((PySem.W.fnOf x q (defArgs s) (defBody s) (defScope s) .none kV dc pm an cd ct))
 | "Yao" => `((X.blk s H scope (compEnvC scope cl C X.env) fp))
 | "Yap" => `((.t (rdT r)))
 | "Yaq" => `((.ins c ns xs))
 | "Yar" => `((it_not (it_tru (zbn zdv (ok_isi hT) (zaa (zac 0) (zaa (ie_ty y2 (by with_unfolding_all rfl)) (zad))) yi))))
 | "Yas" => `((hK P w k))
 | "Yat" => `((hp.set j (some (.lst (g2.map wI)))))
 | "Yau" => `((zaa (zal) (zad)))
 | "Yav" => `((.t (.int wide)))
 | "Yaw" => `((mC .non))
 | "Yax" => `((.tup [.str r.1, .tup st, .tup ct]))
 | "Yay" => `((zam (zac 0) (zak)))
 | "Yaz" => `((s.heap.objs.size + 1))
 | "Ya0" => `((Str × OpN))
 | "Ya1" => `((.Call (.Name "len" p) [.Call (.Name "set" p2) [a] [] q] [] pos))
 | "Ya2" => `((fun v s' => ∃ b, v = .bool b ∧ EP X pins σ Q (.bool b) s'))
 | "Ya3" => `((e :: es))
 | "Ya4" => `((.ref ya))
 | "Ya5" => `((r.2.1.map fun d => .str (dTx d)))
 | "Ya6" => `((r.2.2.map fun c => .str (zay c)))
 | "Ya7" => `((NestedKey × Addr × Value))
 | "Ya8" => `((fun σ => L2N.passAt (takesN zdw) σ))
 | "Ya9" => `((A.deeper (envOfC qual (defScope st) s.heap.objs.size f cdv)))
 | _ => Lean.Macro.throwUnsupported
local macro_rules | `($x:ident) => do
 let .str .anonymous s := x.getId | Lean.Macro.throwUnsupported
 if s.front != 'Y' then Lean.Macro.throwUnsupported
 match s with
 | "Yba" => `((mApp zaq (mNil)))
 | "Ybb" => `((by first | exact blkOk_by (N := yfl) (sc := defScope ybu) (by decide +kernel) | exact blkOk_by (by with_unfolding_all rfl) | exact blkOk_by (by decide +kernel +revert)))
 | "Ybc" => `((model X.prog X.w))
 | "Ybd" => `((hp.objs.size + 1))
 | "Ybe" => `((zab (mVar 2) (mNil)))
 | "Ybf" => `((.t (.int (i : Nat))))
 | "Ybg" => `((.builtin "object.__ne__"))
 | "Ybh" => `((defScope st))
 | "Ybi" => `((.builtin "object.__class__"))
 | "Ybj" => `((.str (numS i)))
 | "Ybk" => `((Option Value))
 | "Ybl" => `((zd2 (alts := [Yt]) ⟨.mk' yg.cn yu yt Yb y0 zas, True.intro⟩ hgd))
 | "Ybm" => `((.t (.lst Yf)))
 | "Ybn" => `((mBin ixW (mVar 0) Yk))
 | "Ybo" => `((.Call (.Name "super" p0) [] [] p1))
 | "Ybp" => `((zao (st_raise rfl (L2N.takes_of rfl rfl rfl rfl) (xc_cold yc.T yc.iC yc.tI yc.cn yc.ok Yb yc.bd rfl yc.mg Yau))))
 | "Ybq" => `((.tup Yf))
 | "Ybr" => `((by decide))
 | "Ybs" => `((mNot (zai truW (mApp (oIsi zd1) (zab (mVar 0) (zab (mC (.ty "str")) (mNil)))))))
 | "Ybt" => `((zaz za6 [] (zab (mVar 0) (zab (mC (.int 3)) (mNil)))))
 | "Ybu" => `((zbn call_len zcf (zaa (zac 3) (zad)) yf))
 | "Ybv" => `((fun _ _ _ _ _ => zdd (zaa (zal) (zaa (zar (dts := []) (dvs := []) yho Yb hgd (by rfl) yjk yjl yhp .nil Yp zbf (zaa (zac 0) (zaa (zac 2) (zad)))) (zad)))))
 | "Ybw" => `((.t (.int j)))
 | "Ybx" => `((.type "NoneType"))
 | _ => Lean.Macro.throwUnsupported
local macro_rules | `($x:ident) => do
 let .str .anonymous s := x.getId | Lean.Macro.throwUnsupported
 if s.front != 'Y' then Lean.Macro.throwUnsupported
 match s with
 | "Yby" => `((.ref ye))
 | "Ybz" => `((mApp (zcg [Yt]) (zab (mVar 11) (mNil))))
 | "Yb0" => `((.type "tuple"))
 | "Yb1" => `((fun v s' => ∃ r, v = .bool r ∧ Q (.bool r) s'))
 | "Yb2" => `((zab (mVar 0) (mNil)))
 | "Yb3" => `((zaa (zac 2) (zad)))
 | "Yb4" => `((zab (mC (.int 2)) (zab (mBin iSub (mC (.int 8)) (mApp oLen Yak)) (mNil))))
 | "Yb5" => `((.bl true))
 | "Yb6" => `((zc1 (it_not (it_tru (zar (dts := []) (dvs := []) ya6 Yb hgd (by rfl) ybj ybk ya7 .nil Yp zas (zaa (zac 0) (zad))))) (zao (zau (zbi))) (zbe)))
 | "Yb7" => `((L2.CX X.prog X.w))
 | "Yb8" => `((SetTable.insertAt es j (hK P w k, Value.ref x)))
 | "Yb9" => `((mBin Yac (mBin ixW (mVar 0) (mC (.int 2))) Yba))
 | "Yca" => `((mBin ixW (mVar 3) Yk))
 | "Ycb" => `((fun xs H Q => (∃ a, xs = [.str a] ∧ Q (.str a) H) ∨ (∃ i, xs = [.int i] ∧ i.natAbs.log2 < 1920 ∧ Q (.str (toString i)) H)))
 | "Ycc" => `((mSq (mVar 2)))
 | "Ycd" => `((cs.map T.str))
 | "Yce" => `(("Reader", zaj))
 | "Ycf" => `((.type "str"))
 | "Ycg" => `((r.2.2.map chkT))
 | "Ych" => `((fun xs H Q => ∃ p ys, xs = [.ref p] ∧ (SqL K H p ys ∨ SqT K H p ys) ∧ ∀ l, H l = none → Q (.ref l) (upd H l (.lst ys))))
 | "Yci" => `((starEach es X.env))
 | "Ycj" => `((PySem.HandSPX.excO C hp.objs.size))
 | "Yck" => `((zab (mVar 4) (mNil)))
 | "Ycl" => `((zab (mVar 8) (mNil)))
 | _ => Lean.Macro.throwUnsupported
local macro_rules | `($x:ident) => do
 let .str .anonymous s := x.getId | Lean.Macro.throwUnsupported
 if s.front != 'Y' then Lean.Macro.throwUnsupported
 match s with
 | "Ycm" => `((mBin Yac (mApp oRepr Yl) (mApp oRepr (zab (mApp zbj Ye) (mNil)))))
 | "Ycn" => `((.r hp.length))
 | "Yco" => `((.t .non))
 | "Ycp" => `((Nat.lt_of_sub_eq_succ rfl))
 | "Ycq" => `((by rw [oLen_l, List.length_map]))
 | "Ycr" => `((.t (.str (Txt.join ", " (r.2.2.map zay)))))
 | "Ycs" => `((r.2.1.map dTr))
 | "Yct" => `((fun _ _ _ _ _ => its_one ((iw_and (it_notN (zac 5) (zbi)) (zd4 (it_eq hu (zam (zac 5) (zak)) (zam (zac 1) (zak))))).it)))
 | "Ycu" => `((starEach [.Constant (.str txt) j p3] env))
 | "Ycv" => `((zar (dts := []) (dvs := []) yn Yb hgd (by rfl) yx yy yo .nil Yp zbf (zaa (zac 0) (zaa (zbn call_len zcf Y5 yf) (zad)))))
 | "Ycw" => `((by rw [List.length_map]; omega))
 | "Ycx" => `((fun acc k => if memT k acc = true then acc else acc ++ [k]))
 | "Ycy" => `((PySem.W.instObj C dx))
 | "Ycz" => `((mBin ixW (mVar 2) Yk))
 | "Yc0" => `((mFld ["Kind", "Reader"] "name" (mVar 0)))
 | "Yc1" => `((some (.lst ((ys ++ [y / wide]).map wI))))
 | "Yc2" => `((Str × V))
 | "Yc3" => `((spM X.K X.w m n))
 | "Yc4" => `((((zdp ks).length : Nat) : Int))
 | "Yc5" => `((zao (zau (ie_bl))))
 | "Yc6" => `((by simp only [List.length_cons]; omega))
 | "Yc7" => `((fun v H2 => v = .non ∧ Q (.ref x) H2))
 | "Yc8" => `((mBin (inW true) (mC (.str "read")) (zba zaq (mSq (mVar 4)) (gT 2 (gsC (gN 6) (gsC (gN 7) gsN))) mYes zbg [6, 7])))
 | "Yc9" => `((by rw [List.length_map, cm_len]; omega))
 | _ => Lean.Macro.throwUnsupported
local macro_rules | `($x:ident) => do
 let .str .anonymous s := x.getId | Lean.Macro.throwUnsupported
 if s.front != 'Y' then Lean.Macro.throwUnsupported
 match s with
 | "Yda" => `((ns.map V.int))
 | "Ydb" => `((.str (lnR r)))
 | "Ydc" => `((zao (st_raise rfl (L2N.takes_of rfl rfl rfl rfl) (xc_cold yj.T yj.iC yj.tI yj.cn yj.ok Yb yj.bd rfl yj.mg Yau))))
 | "Ydd" => `((some (.builtin "ValueError.__init__")))
 | "Yde" => `((.t (.int (k : Nat))))
 | "Ydf" => `((.t (.str r.1)))
 | "Ydg" => `((some (.t (.int (at_ : Nat)))))
 | "Ydh" => `((zao (zau (ie_joined (zcd (zal) (zcd (ie_fmt (zdy yp (zac 0))) (zcd (zal) (zcd (ie_fmt (zac 1)) (ij_nil)))))))))
 | "Ydi" => `((zaa (zac 7) (zaa (zb5 zbs ok_tup (zaa (zac 8) (zad)) yk) (zaa (zb5 zbs ok_tup (zaa (zac 9) (zad)) yk) (zad)))))
 | "Ydj" => `((zcc (za7 "Reader" zah [] (zab (mVar 7) (zab (mBin ixW (mVar 10) Yk) (zab (mBin ixW (mVar 10) Yn) (mNil)))))))
 | "Ydk" => `((some (.builtin "object.__setattr__")))
 | "Ydl" => `((model P w))
 | "Ydm" => `((("self" : Str), Value.ref e))
 | "Ydn" => `((q.mono fun _ _ q => Wp.ok q))
 | "Ydo" => `((zaz za6 [] (zab (mVar 0) (zab (mApp oLen Yq) (mNil)))))
 | "Ydp" => `((gsC (gN 1) (gsC (gN 2) gsN)))
 | "Ydq" => `((mC (.str ", ")))
 | "Ydr" => `((fun _ _ _ _ _ => zar (dts := []) (dvs := []) yf3 Yb hgd (by rfl) yhs yht yf4 .nil Yp zas (zaa (zac 4) Y5)))
 | "Yds" => `((fun _ _ _ _ _ => zar (dts := []) (dvs := []) yf5 Yb hgd (by rfl) yhu yhv yf6 .nil Yp zas (zaa (zac 4) Y5)))
 | "Ydt" => `((fun _ _ _ _ _ => zar (dts := []) (dvs := []) yf7 Yb hgd (by rfl) yhw yhx yf8 .nil Yp zas (zaa (zac 3) Y5)))
 | "Ydu" => `((.nx eta))
 | "Ydv" => `((cxOf CX P w K mg base N qual Ybh f cdv A outer s H E))
 | "Ydw" => `((mBin wAdd (mBin wAdd (mBin wAdd (mC (.str "reader ")) Ybn) (mC (.str ": "))) (mSM oJoin Ydq (zaz za0 [] (zab (mBin ixW (mVar 0) Yn) (mNil))))))
 | "Ydx" => `((passL (X := X.nox)))
 | _ => Lean.Macro.throwUnsupported
local macro_rules | `($x:ident) => do
 let .str .anonymous s := x.getId | Lean.Macro.throwUnsupported
 if s.front != 'Y' then Lean.Macro.throwUnsupported
 match s with
 | "Ydy" => `((.pr [.int ((0 + n : Nat)), (ds.map dTr).getD n .non]))
 | "Ydz" => `((fun r s' => r = .ok (.ret (.bool true)) ∧ OldK s1.heap s'.heap ∧ s'.os = s1.os ∧ AllBare s'.gens))
 | "Yd0" => `((mApp oInt (zab (mBin wAdd (mBin wMul (mBin ixW (mVar 0) Yn) (mC (.int 48271))) (mC (.int 43))) (mNil))))
 | "Yd1" => `((mBin Y0 (mBin ixW (mBin ixW (mVar 1) Yca) Yn) (mBin ixW (mBin ixW (mVar 1) (mBin ixW (mVar 3) Yn)) Yn)))
 | "Yd2" => `((pg_name (i := 4) hN rfl Yi))
 | "Yd3" => `((.ins C dx fs))
 | "Yd4" => `((fun _ _ _ _ _ => zbn call_abs ok_abs (zaa (zb5 call_int1 ok_int (zaa (zac 4) (zad)) ydd) (zad)) ynx))
 | "Yd5" => `((zar (dts := []) (dvs := []) yn Yb hgd (by rfl) yx yy yo .nil Yp zbf (zaa (zac 0) (zaa (zak) (zad)))))
 | "Yd6" => `((zai asB (mBin Yac (mBin (oEqO false [Yce]) (mVar 11) (mVar 3)) (mBin Y0 Ybz (mApp (zcg [Yt]) Y4)))))
 | "Yd7" => `((RwL.of_trees.mp l))
 | "Yd8" => `((t_const fun s => by simp [Rw, Rf]))
 | "Yd9" => `((List Key × T))
 | "Yea" => `((List.mem_cons_of_mem _ hu))
 | "Yeb" => `((mFld ["Reader"] "checks" (mVar 0)))
 | "Yec" => `((.lst (xs.map dTr)))
 | "Yed" => `((zam (zac 3) (zak)))
 | "Yee" => `((.ListComp elt [⟨tg, iter, ifs, 0⟩] scope pos))
 | "Yef" => `((op_neO (alts := [Yce]) ⟨.mk' yg.cn yb6 yb5 Yb yc4 zas nn_Reader no_Reader, True.intro⟩ hgd))
 | "Yeg" => `((by simpa [noLst] using n))
 | "Yeh" => `((fun z H' => ∃ t : Bool, z = .bl t ∧ if t = true then Q Yb5 H' else InP X alts a C vs H' Q))
 | "Yei" => `((Str × W))
 | "Yej" => `((EP X pins σ Q))
 | "Yek" => `((.type "object"))
 | "Yel" => `((it_not (it_tru (zar (dts := []) (dvs := []) yat Yb hgd (by rfl) ybo ybp yau .nil Yp zas Y5))))
 | _ => Lean.Macro.throwUnsupported
local macro_rules | `($x:ident) => do
 let .str .anonymous s := x.getId | Lean.Macro.throwUnsupported
 if s.front != 'Y' then Lean.Macro.throwUnsupported
 match s with
 | "Yem" => `((.t (.str x)))
 | "Yen" => `((Addr × List Key))
 | "Yeo" => `((mC (.str "even")))
 | "Yep" => `((zab (mVar 1) (zab (mC (.cls "Reader")) (mNil))))
 | "Yeq" => `((za7 "Kind" zbt [] (zab (mVar 7) (zab (mApp zaq (zab (mC (.str "write a")) (mNil))) (mNil)))))
 | "Yer" => `((vc_ifE t5 (fun h => by simp at h) fun _ => zc2 (zbp (fin ⟨r, _, rfl, rfl, K, d3, rfl⟩))))
 | "Yes" => `((eval o X.env))
 | "Yet" => `((mApp oLen Y4))
 | "Yeu" => `((.str (dTx d)))
 | "Yev" => `((fin s0.heap _ _ fun _ _ e => e))
 | "Yew" => `((.t (.int (r.2.1.length : Nat))))
 | "Yex" => `((pgs_cons (pg_name (i := 1) hN rfl Yi) (pgs_cons (pg_name (i := 2) hN rfl Yi) (pgs_nil))))
 | "Yey" => `((fun _ _ _ => False))
 | "Yez" => `((mApp zaq (zab (mApp zbj (zab (mC (.str "look")) (zab (mC (.str "c")) (mNil)))) (mNil))))
 | "Ye0" => `((List Key × V))
 | "Ye1" => `((Key × W))
 | "Ye2" => `((Nat.le_refl _))
 | "Ye3" => `((ws.map some ++ List.replicate (nn - n) none))
 | "Ye4" => `((by rw [List.map_map]; exact q))
 | "Ye5" => `((zba zaq (mSq (mSl (mVar 0) (zc8 (mVar 1)) (zc8 (mC (.int 62))))) (gN 4) mYes zd5 [4]))
 | "Ye6" => `((ha.run pos pins s σ H _ I h))
 | "Ye7" => `((.t (.bl b)))
 | "Ye8" => `(((wrs "read" r.2.1).map T.str))
 | "Ye9" => `((zd2 (alts := [("Kind", zc9)]) ⟨.mk' ycx.cn yfu yft Yb yf9 zas, True.intro⟩ hgd))
 | _ => Lean.Macro.throwUnsupported
local macro_rules | `($x:ident) => do
 let .str .anonymous s := x.getId | Lean.Macro.throwUnsupported
 if s.front != 'Y' then Lean.Macro.throwUnsupported
 match s with
 | "Yfa" => `((.cons (show L2.RelV (V.ref e_Reader_init) (Value.ref e_Reader_init) from rfl) .nil))
 | "Yfb" => `((Addr × Obj))
 | "Yfc" => `((.t (.str n)))
 | "Yfd" => `((zaa (zac 0) (zad)))
 | "Yfe" => `((zam (zac 2) (zak)))
 | "Yff" => `((fun _ (a b : Bool) => a = b))
 | "Yfg" => `((fun _ _ _ _ e => by cases e))
 | "Yfh" => `((mFld ["Kind", "Reader"] "deeds" (mVar 0)))
 | "Yfi" => `((mFld ["Kind", "Reader"] "steps" (mVar 0)))
 | "Yfj" => `((.ref cda))
 | "Yfk" => `(("self" : Str))
 | "Yfl" => `((PySem.W.fnOf x x (defArgs s) (defBody s) (defScope s) .none kV dc pm an cd ct))
 | "Yfm" => `(((["if", "bump", "even", "kind", "look", "read", "same"] : List Str).map V.str))
 | "Yfn" => `((.type "function"))
 | "Yfo" => `((mC (.str "same")))
 | "Yfp" => `((ev_eqs.trans Yae))
 | "Yfq" => `((PySem.W.kxs_mw "ValueError.__init__" e))
 | "Yfr" => `((zcy (mUn oFmt Yc0) (zcy (mC (.str ": ")) (zcy (mUn oFmt (mVar 1)) (mJNil)))))
 | "Yfs" => `((i _ _ _ hw))
 | "Yft" => `((cutL ts lo hi))
 | "Yfu" => `((fun z H' => ∃ i : Int, z = .int i ∧ 0 ≤ i ∧ i < 2 ^ 63 ∧ Q z H'))
 | "Yfv" => `((.lst (cs.map T.int)))
 | "Yfw" => `((.tup (ws.map T.str)))
 | "Yfx" => `((zab (mApp zbj (zab (mVar 7) (zab (mVar 5) (zab (mVar 6) (mNil))))) (mNil)))
 | _ => Lean.Macro.throwUnsupported
local macro_rules | `($x:ident) => do
 let .str .anonymous s := x.getId | Lean.Macro.throwUnsupported
 if s.front != 'Y' then Lean.Macro.throwUnsupported
 match s with
 | "Yfy" => `((mMeth isL zbl (mBin ixW (mVar 10) Yn) (zab (mC (.str "even 99")) (mNil))))
 | "Yfz" => `((nomark _))
 | "Yf0" => `((.t (.str y)))
 | "Yf1" => `((l.map T.str))
 | "Yf2" => `((.t (.str a)))
 | "Yf3" => `((vs.drop (i + 1)))
 | "Yf4" => `((F eta hp))
 | "Yf5" => `((mMeth isL zbl (mBin ixW (mVar 10) Yk) (zab (mC (.str "read q")) (mNil))))
 | "Yf6" => `((zao (zau (zbi))))
 | "Yf7" => `((.tup [.int (i : Nat), x]))
 | "Yf8" => `((m (.r s.hp.length :: (ws ++ dts.map W.t)) (s.hp ++ [some (.ins c [])])))
 | "Yf9" => `((.t (.lst (ps.map T.str))))
 | "Yga" => `((eta.set i (some w)))
 | "Ygb" => `((by rw [wipe_length]; simpa using hl))
 | "Ygc" => `((eta.set i (some a)))
 | "Ygd" => `((Nat.lt_succ_self _))
 | "Yge" => `((mBin Y0 (mBin ixW (mBin ixW (mVar 1) (mVar 2)) Yk) (mC (.str "look"))))
 | "Ygf" => `((zb5 Ybl zd9 (zaa (zac 11) (zad)) y2))
 | "Ygg" => `((.ins C dx []))
 | "Ygh" => `((.ok (.ret (.bool true))))
 | "Ygi" => `((.ref yd))
 | "Ygj" => `((.ref yb))
 | "Ygk" => `((h1 ++ [none]))
 | "Ygl" => `((.str (zay c)))
 | _ => Lean.Macro.throwUnsupported
local macro_rules | `($x:ident) => do
 let .str .anonymous s := x.getId | Lean.Macro.throwUnsupported
 if s.front != 'Y' then Lean.Macro.throwUnsupported
 match s with
 | "Ygm" => `(((List.range (j - i).toNat).map fun k => W.t (.int (i + (k : Nat)))))
 | "Ygn" => `((.frz o (.lst Yda)))
 | "Ygo" => `((fun _ (a b : Option Int) => a = b))
 | "Ygp" => `((mBin Y0 (mBin ixW (mVar 1) (mVar 5)) (mBin ixW (mVar 1) (mVar 4))))
 | "Ygq" => `((.lst (ms.map dTr)))
 | "Ygr" => `((chksW acc))
 | "Ygs" => `((zaa (zac 5) (zad)))
 | "Ygt" => `((by simpa [fit] using h))
 | "Ygu" => `((hp ++ [some (.lst ws)]))
 | "Ygv" => `((defBody st))
 | "Ygw" => `((wpAny_of_eq (F.cmp_object.ne.bind _) (wpAny_pure (by exact fin))))
 | "Ygx" => `((sqT b Ym))
 | "Ygy" => `(((cs.map zay).map T.str))
 | "Ygz" => `((mBin Yac (mFld ["Reader"] "checks" (zcc Yy)) (mApp zbj (mNil))))
 | "Yg0" => `((.t (.bl (if neg then !decide (x ∈ l) else decide (x ∈ l)))))
 | "Yg1" => `((.Name x pos))
 | "Yg2" => `((fun e p => e.set p.1 (some p.2)))
 | "Yg3" => `((s3.addF p' (.lst (cutV xs l u))))
 | "Yg4" => `((by simpa using h))
 | "Yg5" => `((.ref x :: (vs ++ dvs)))
 | "Yg6" => `((.type "BaseException"))
 | "Yg7" => `((way t.mask Yas n))
 | "Yg8" => `((some (.ref f)))
 | "Yg9" => `((mC (.str " ")))
 | _ => Lean.Macro.throwUnsupported
local macro_rules | `($x:ident) => do
 let .str .anonymous s := x.getId | Lean.Macro.throwUnsupported
 if s.front != 'Y' then Lean.Macro.throwUnsupported
 match s with
 | "Yha" => `((mSq (mSl (mVar 2) (zc8 Yn) zbb)))
 | "Yhb" => `((.t (.str (zdc r.2.1))))
 | "Yhc" => `((.t (.lst Ycs)))
 | "Yhd" => `((.t (.lst Ycg)))
 | "Yhe" => `((spM K w za6 2))
 | "Yhf" => `((zb5 zbs ok_tup Yb3 yk))
 | "Yhg" => `((mMeth isL zbl Ybn (zab (mBin iDiv (mVar 2) (mVar 1)) (mNil))))
 | "Yhh" => `((.int (if i < 0 then -i else i)))
 | "Yhi" => `((q.mono fun _ _ q => Wp.bind (q.mono fun _ _ q => Wp.bind q)))
 | "Yhj" => `((.t (.bl (if neg then !decide (i = j) else decide (i = j)))))
 | "Yhk" => `((.t (.bl (if neg then !decide (b = c) else decide (b = c)))))
 | "Yhl" => `((.ins c (putA f v fs)))
 | "Yhm" => `((mBin wAdd (mSl (mVar 3) zbb (zc8 (mVar 5))) (mApp zaq Yck)))
 | "Yhn" => `((mBin ixW (mVar 3) Yn))
 | "Yho" => `(((w0 :: ws).map T.str))
 | _ => Lean.Macro.throwUnsupported
set_option hygiene true
namespace Mir
open PySem PySem.Spec L2
open PyProof.Rows hiding St
/-- a frozen value as a tree -/
inductive T where
 | non | bl (b : Bool) | int (i : Int) | str (s : Str) | ty (n : String)
 | tup (xs : List T) | lst (xs : List T) | scr (xs : List T) | pr (xs : List T)
 | dic (ks : List Key) (vs : List T) | ins (c : Str) (ns : List Str) (vs : List T)
 | cls (c : Str) | dit (ks : List (List Key)) (vs : List T) | exc (c : Str) (ns : List Str) (vs : List T)
/-- a value: a tree, or a live cell -/
inductive W where
 | t (x : T) | r (i : Nat)
inductive Cell where
 | lst (xs : List W)
 | dic (kvs : List (Key × W))
 | ins (c : Str) (fs : List (Str × W))
 | dit (kvs : List (T × W))
 | tpl (ws : List W)
abbrev IH := List (Option Cell)
structure Ex where
 cls : Str
 fs : List Yei
inductive Res (A : Type) where
 | ok (a : A) (h : IH) | er (e : Ex) (eta : List (Option W)) (h : IH) | bad
abbrev IS := List (Option W)
abbrev M (A : Type) := IS → IH → Res A
def Res.bind {A B : Type} (r : Res A) (k : A → IH → Res B) : Res B := match r with
 | .ok a h => k a h
 | .er e eta h => .er e eta h
 | .bad => .bad
/-- the state of the relation -/
structure S4 where
 rho : List Addr
 fz : Addr → Prop
 hp : IH
 H : Hp
def KTup (K : PySem.W.Frag) (a : Addr) (xs : List V) : Prop :=
 ∃ (o : Obj) (its : Array Value) (n : Nat), K.lookup a = some o ∧ o.cls = .type "tuple" ∧ o.dict = none ∧ o.data = .seq its n ∧ its.size ≤ sizeLine ∧ Vals xs its.toList
def KLst (K : PySem.W.Frag) (a : Addr) (xs : List V) : Prop :=
 ∃ (o : Obj) (its : Array Value) (n : Nat), K.lookup a = some o ∧ o.cls = .type "list" ∧ o.dict = none ∧ o.data = .seq its n ∧ its.size ≤ sizeLine ∧ Vals xs its.toList
def FTup (K : PySem.W.Frag) (fz : Addr → Prop) (H : Hp) (a : Addr) (xs : List V) : Prop := (fz a ∧ ∃ o : Obj, H a = some (.frz o (.tup xs)) ∧ o.dict = none) ∨ KTup K a xs
/-- a pair that a walk lays -/
def FPr (fz : Addr → Prop) (H : Hp) (a : Addr) (xs : List V) : Prop := fz a ∧ H a = some (.tup xs)
/-- a dict whose keys are tuples -/
def FDit (fz : Addr → Prop) (H : Hp) (a : Addr) (kvs : List Ye0) : Prop := fz a ∧ H a = some (.dT kvs)
def FLst (fz : Addr → Prop) (H : Hp) (a : Addr) (xs : List V) : Prop := fz a ∧ H a = some (.lst xs)
def FDic (fz : Addr → Prop) (H : Hp) (a : Addr) (kvs : List (Key × V)) : Prop := fz a ∧ ∃ o, H a = some (.frz o (.dK kvs))
def FScr (K : PySem.W.Frag) (fz : Addr → Prop) (H : Hp) (a : Addr) (xs : List V) : Prop := (fz a ∧ ∃ o, H a = some (.frz o (.lst xs))) ∨ KLst K a xs
/-- the class that the module's name c holds -/
def CN (K : PySem.W.Frag) (c : Str) (C : Addr) : Prop := PySem.W.nsIn K mainGlobals c = some (some (.ref C))
/-- a frozen instance -/
def FIns (fz : Addr → Prop) (H : Hp) (a C : Addr) (fs : List Yc2) : Prop := fz a ∧ ∃ dx, H a = some Yd3
mutual
def Rf (K : PySem.W.Frag) (fz : Addr → Prop) (H : Hp) : T → V → Prop
 | .non, v => v = .non
 | .bl b, v => v = .bl b
 | .int i, v => v = .int i
 | .str s, v => v = .str s
 | .ty n, v => v = .ty n
 | .tup xs, v => ∃ a vs, v = .ref a ∧ FTup K fz H a vs ∧ RfL K fz H xs vs
 | .lst xs, v => ∃ a vs, v = .ref a ∧ FLst fz H a vs ∧ RfL K fz H xs vs
 | .scr xs, v => ∃ a vs, v = .ref a ∧ FScr K fz H a vs ∧ RfL K fz H xs vs
 | .pr xs, v => ∃ a vs, v = .ref a ∧ FPr fz H a vs ∧ RfL K fz H xs vs
 | .dic ks xs, v => ∃ a vs, v = .ref a ∧ FDic fz H a (ks.zip vs) ∧ ks.length = xs.length ∧ RfL K fz H xs vs
 | .cls c, v => ∃ C, v = .ref C ∧ CN K c C
 | .dit ks xs, v => ∃ a vs, v = .ref a ∧ FDit fz H a (ks.zip vs) ∧ ks.length = xs.length ∧ RfL K fz H xs vs
 | .exc _ _ _, _ => False
 | .ins c ns xs, v => ∃ a C vs, v = .ref a ∧ CN K c C ∧ FIns fz H a C (ns.zip vs) ∧ ns.length = xs.length ∧ RfL K fz H xs vs
def RfL (K : PySem.W.Frag) (fz : Addr → Prop) (H : Hp) : List T → List V → Prop
 | [], vs => vs = []
 | x :: xs, vs => ∃ v r, vs = v :: r ∧ Rf K fz H x v ∧ RfL K fz H xs r
end
def Rw (K : PySem.W.Frag) (s : S4) : W → V → Prop
 | .t x, v => Rf K s.fz s.H x v
 | .r i, v => ∃ a, s.rho[i]? = some a ∧ v = .ref a
def RwL (K : PySem.W.Frag) (s : S4) : List W → List V → Prop
 | [], vs => vs = []
 | x :: xs, vs => ∃ v r, vs = v :: r ∧ Rw K s x v ∧ RwL K s xs r
def RwK (K : PySem.W.Frag) (s : S4) : List Ye1 → List (Key × V) → Prop
 | [], vs => vs = []
 | x :: xs, vs => ∃ v r, vs = (x.1, v) :: r ∧ Rw K s x.2 v ∧ RwK K s xs r
def RwF (K : PySem.W.Frag) (s : S4) : List Yei → List Yc2 → Prop
 | [], vs => vs = []
 | x :: xs, vs => ∃ v r, vs = (x.1, v) :: r ∧ Rw K s x.2 v ∧ RwF K s xs r
mutual
/-- a tree as a key -/
def nkT : T → Option NestedKey
 | .non => some .none
 | .bl b => some (.num (if b = true then 1 else 0))
 | .int i => some (.num i)
 | .str s => some (.text s)
 | .tup xs => (nkTL xs).map .tup
 | .ty _ => none | .lst _ => none | .scr _ => none | .pr _ => none | .dic _ _ => none | .ins _ _ _ => none | .cls _ => none | .dit _ _ => none | .exc _ _ _ => none
def nkTL : List T → Option (List NestedKey)
 | [] => some []
 | x :: xs => match nkT x, nkTL xs with | some k, some ks => some (k :: ks) | _, _ => none
end
/-- a dict whose keys are nested tuples: its entries, by the world's hash -/
def DitO (ω : World) (a : Addr) (xs : List Yaa) : HO := .ext fun h => xs.length ≤ sizeLine ∧ (a == sysModules) = false ∧
 ∃ ys : List Ya7, Paired (fun (p : NestedKey × Addr × V) (q : NestedKey × Addr × Value) => p.1 = q.1 ∧ p.2.1 = q.2.1 ∧ RelV p.2.2 q.2.2) xs ys ∧ (ys.map (·.1)).Nodup ∧
 ∃ o es ep, h.get? a = some o ∧ o.ExactDict ∧ o.data = .dict es ep ∧ es.toList = ys.map fun y => (⟨y.1.hash ω, .ref y.2.1, y.2.2⟩ : DictEntry)
def RwD (K : PySem.W.Frag) (s : S4) : List (T × W) → List Yaa → Prop
 | [], vs => vs = []
 | x :: xs, vs => ∃ k b v r, vs = (k, b, v) :: r ∧ nkT x.1 = some k ∧ k.depth ≤ 8 ∧ Rf K s.fz s.H x.1 (.ref b) ∧ Rw K s x.2 v ∧ RwD K s xs r
def CellOk (K : PySem.W.Frag) (ω : World) (s : S4) (a : Addr) : Cell → Option HO → Prop
 | .lst ws, o => ∃ vs, o = some (.lst vs) ∧ RwL K s ws vs
 | .dic kvs, o => ∃ vs, o = some (.dK vs) ∧ RwK K s kvs vs
 | .ins c fs, o => ∃ C dx vs, o = some (.ins C dx vs) ∧ CN K c C ∧ RwF K s fs vs
 | .dit kvs, o => ∃ xs, o = some (DitO ω a xs) ∧ RwD K s kvs xs
 | .tpl ws, o => ∃ ob vs, o = some (.frz ob (.tup vs)) ∧ ob.dict = none ∧ RwL K s ws vs
def Live (s : S4) (a : Addr) : Prop := ∃ (i : Nat) (c : Cell), s.hp[i]? = some (some c) ∧ s.rho[i]? = some a
structure Rel (K : PySem.W.Frag) (ω : World) (s : S4) : Prop where
 len : s.rho.length = s.hp.length
 nd : s.rho.Nodup
 trk : ∀ a ∈ s.rho, s.H a ≠ none
 ftrk : ∀ a, s.fz a → s.H a ≠ none
 fz : ∀ a, Live s a → ¬ s.fz a
 cell : ∀ (i : Nat) (c : Cell) (a : Addr), s.hp[i]? = some (some c) → s.rho[i]? = some a → CellOk K ω s a c (s.H a)
structure Aft (s s' : S4) : Prop where
 pre : ∃ ex, s'.rho = s.rho ++ ex ∧ ∀ a ∈ ex, s.H a = none
 fz : ∀ a, s.fz a → s'.fz a
 keep : ∀ a o, s.H a = some o → ¬ Live s a → s'.H a = some o
 fnew : ∀ a, s'.fz a → s.fz a ∨ s.H a = none ∨ Live s a
 live : ∀ a, Live s' a → Live s a ∨ s.H a = none
 trk : ∀ a, s.H a ≠ none → s'.H a ≠ none
theorem Aft.refl (s : S4) : Aft s s := ⟨⟨[], by simp, by simp⟩, fun _ h => h, fun _ _ h _ => h, fun _ h => .inl h, fun _ h => .inl h, fun _ h => h⟩
theorem Aft.trans {s s1 s2 : S4} (a : Aft s s1) (b : Aft s1 s2) : Aft s s2 := by
 have none_of : ∀ x, s1.H x = none → s.H x = none := fun x h => by
  cases q : s.H x with
  | none => rfl
  | some o => exact absurd h (a.trk x (by rw [q]; intro z; cases z))
 refine ⟨?_, fun x h => b.fz x (a.fz x h), fun x o h nl => ?_, fun x h => ?_, fun x h => ?_, fun x h => b.trk x (a.trk x h)⟩
 ·obtain ⟨e1, p1, q1⟩ := a.pre
  obtain ⟨e2, p2, q2⟩ := b.pre
  refine ⟨e1 ++ e2, by rw [p2, p1, List.append_assoc], fun x hx => ?_⟩
  rcases List.mem_append.mp hx with hx | hx
  ·exact q1 x hx
  ·exact none_of x (q2 x hx)
 ·refine b.keep x o (a.keep x o h nl) fun l => ?_
  rcases a.live x l with l | l
  ·exact nl l
  ·rw [l] at h; cases h
 ·rcases b.fnew x h with h | h | h
  ·exact a.fnew x h
  ·exact .inr (.inl (none_of x h))
  ·rcases a.live x h with h | h
   ·exact .inr (.inr h)
   ·exact .inr (.inl h)
 ·rcases b.live x h with h | h
  ·exact a.live x h
  ·exact .inr (none_of x h)
section
variable {K : PySem.W.Frag} {ω : World} {s s' : S4}
theorem FTup.aft {a : Addr} {xs : List V} (h : FTup K s.fz s.H a xs) (A : Aft s s') (R : Rel K ω s) : FTup K s'.fz s'.H a xs := by
 rcases h with ⟨f, o, h, d⟩ | h
 ·exact .inl ⟨A.fz a f, o, A.keep a _ h fun l => R.fz a l f, d⟩
 ·exact .inr h
theorem FPr.aft {a : Addr} {xs : List V} (h : FPr s.fz s.H a xs) (A : Aft s s') (R : Rel K ω s) : FPr s'.fz s'.H a xs := by
 obtain ⟨f, h⟩ := h
 exact ⟨A.fz a f, A.keep a _ h fun l => R.fz a l f⟩
theorem FDit.aft {a : Addr} {xs : List Ye0} (h : FDit s.fz s.H a xs) (A : Aft s s') (R : Rel K ω s) : FDit s'.fz s'.H a xs := by
 obtain ⟨f, h⟩ := h
 exact ⟨A.fz a f, A.keep a _ h fun l => R.fz a l f⟩
theorem FLst.aft {a : Addr} {xs : List V} (h : FLst s.fz s.H a xs) (A : Aft s s') (R : Rel K ω s) : FLst s'.fz s'.H a xs :=
 ⟨A.fz a h.1, A.keep a _ h.2 fun l => R.fz a l h.1⟩
theorem FDic.aft {a : Addr} {xs : List (Key × V)} (h : FDic s.fz s.H a xs) (A : Aft s s') (R : Rel K ω s) : FDic s'.fz s'.H a xs :=
 let ⟨o, e⟩ := h.2; ⟨A.fz a h.1, o, A.keep a _ e fun l => R.fz a l h.1⟩
theorem FIns.aft {a C : Addr} {fs : List Yc2} (h : FIns s.fz s.H a C fs) (A : Aft s s') (R : Rel K ω s) : FIns s'.fz s'.H a C fs :=
 let ⟨dx, e⟩ := h.2; ⟨A.fz a h.1, dx, A.keep a _ e fun l => R.fz a l h.1⟩
theorem FScr.aft {a : Addr} {xs : List V} (h : FScr K s.fz s.H a xs) (A : Aft s s') (R : Rel K ω s) : FScr K s'.fz s'.H a xs :=
 h.imp (fun h => let ⟨o, e⟩ := h.2; ⟨A.fz a h.1, o, A.keep a _ e fun l => R.fz a l h.1⟩) id
mutual
theorem Rf.aft (A : Aft s s') (R : Rel K ω s) : ∀ (x : T) (v : V), Rf K s.fz s.H x v → Rf K s'.fz s'.H x v
 | .non, _, h => by simpa [Rf] using h
 | .bl _, _, h => by simpa [Rf] using h
 | .int _, _, h => by simpa [Rf] using h
 | .str _, _, h => by simpa [Rf] using h
 | .ty _, _, h => by simpa [Rf] using h
 | .cls _, _, h => by simpa [Rf] using h
 | .exc _ _ _, _, h => by simp [Rf] at h
 | .tup xs, v, h => by
  simp only [Rf] at h ⊢
  obtain ⟨a, vs, e, t, l⟩ := h
  exact ⟨a, vs, e, t.aft A R, RfL.aft A R xs vs l⟩
 | .lst xs, v, h => by
  simp only [Rf] at h ⊢
  obtain ⟨a, vs, e, t, l⟩ := h
  exact ⟨a, vs, e, t.aft A R, RfL.aft A R xs vs l⟩
 | .scr xs, v, h => by
  simp only [Rf] at h ⊢
  obtain ⟨a, vs, e, t, l⟩ := h
  exact ⟨a, vs, e, t.aft A R, RfL.aft A R xs vs l⟩
 | .pr xs, v, h => by
  simp only [Rf] at h ⊢
  obtain ⟨a, vs, e, t, l⟩ := h
  exact ⟨a, vs, e, t.aft A R, RfL.aft A R xs vs l⟩
 | .dic ks xs, v, h => by
  simp only [Rf] at h ⊢
  obtain ⟨a, vs, e, t, n, l⟩ := h
  exact ⟨a, vs, e, t.aft A R, n, RfL.aft A R xs vs l⟩
 | .dit ks xs, v, h => by
  simp only [Rf] at h ⊢
  obtain ⟨a, vs, e, t, n, l⟩ := h
  exact ⟨a, vs, e, t.aft A R, n, RfL.aft A R xs vs l⟩
 | .ins c ns xs, v, h => by
  simp only [Rf] at h ⊢
  obtain ⟨a, C, vs, e, cn, t, n, l⟩ := h
  exact ⟨a, C, vs, e, cn, t.aft A R, n, RfL.aft A R xs vs l⟩
theorem RfL.aft (A : Aft s s') (R : Rel K ω s) : ∀ (xs : List T) (vs : List V), RfL K s.fz s.H xs vs → RfL K s'.fz s'.H xs vs
 | [], _, h => by simpa [RfL] using h
 | x :: xs, vs, h => by
  simp only [RfL] at h ⊢
  obtain ⟨v, r, e, a, b⟩ := h
  exact ⟨v, r, e, Rf.aft A R x v a, RfL.aft A R xs r b⟩
end
theorem Rw.aft {w : W} {v : V} (h : Rw K s w v) (A : Aft s s') (R : Rel K ω s) : Rw K s' w v := by
 cases w with
 | t x => exact Rf.aft A R x v h
 | r i =>
  obtain ⟨a, e1, e2⟩ := h
  obtain ⟨ex, p, _⟩ := A.pre
  exact ⟨a, by rw [p, List.getElem?_append_left (List.getElem?_eq_some_iff.mp e1).1]; exact e1, e2⟩
theorem RwL.aft (A : Aft s s') (R : Rel K ω s) : ∀ (ws : List W) (vs : List V), RwL K s ws vs → RwL K s' ws vs
 | [], _, h => h
 | x :: xs, vs, h => by
  obtain ⟨v, r, e, a, b⟩ := h
  exact ⟨v, r, e, a.aft A R, RwL.aft A R xs r b⟩
theorem RwK.aft (A : Aft s s') (R : Rel K ω s) : ∀ (ws : List (Key × W)) (vs : List (Key × V)), RwK K s ws vs → RwK K s' ws vs
 | [], _, h => h
 | x :: xs, vs, h => by
  obtain ⟨v, r, e, a, b⟩ := h
  exact ⟨v, r, e, a.aft A R, RwK.aft A R xs r b⟩
theorem RwF.aft (A : Aft s s') (R : Rel K ω s) : ∀ (ws : List (Str × W)) (vs : List (Str × V)), RwF K s ws vs → RwF K s' ws vs
 | [], _, h => h
 | x :: xs, vs, h => by
  obtain ⟨v, r, e, a, b⟩ := h
  exact ⟨v, r, e, a.aft A R, RwF.aft A R xs r b⟩
theorem RwD.aft (A : Aft s s') (R : Rel K ω s) : ∀ (ws : List (T × W)) (vs : List (NestedKey × Addr × V)), RwD K s ws vs → RwD K s' ws vs
 | [], _, h => h
 | x :: xs, vs, h => by
  obtain ⟨k, b, v, r, e, h1, h2, h3, h4, h5⟩ := h
  exact ⟨k, b, v, r, e, h1, h2, Rf.aft A R _ _ h3, h4.aft A R, RwD.aft A R xs r h5⟩
theorem CellOk.aft {a : Addr} {c : Cell} {o : Option HO} (h : CellOk K ω s a c o) (A : Aft s s') (R : Rel K ω s) : CellOk K ω s' a c o := by
 cases c with
 | lst ws => obtain ⟨vs, e, l⟩ := h; exact ⟨vs, e, RwL.aft A R ws vs l⟩
 | dic kvs => obtain ⟨vs, e, l⟩ := h; exact ⟨vs, e, RwK.aft A R kvs vs l⟩
 | ins c fs => obtain ⟨C, dx, vs, e, cn, l⟩ := h; exact ⟨C, dx, vs, e, cn, RwF.aft A R fs vs l⟩
 | dit kvs => obtain ⟨vs, e, l⟩ := h; exact ⟨vs, e, RwD.aft A R kvs vs l⟩
 | tpl ws => obtain ⟨ob, vs, e, d, l⟩ := h; exact ⟨ob, vs, e, d, RwL.aft A R ws vs l⟩
theorem RwL.length : ∀ {ws : List W} {vs : List V}, RwL K s ws vs → ws.length = vs.length
 | [], _, h => by rw [show _ = [] from h]; rfl
 | x :: xs, vs, h => by
  obtain ⟨v, r, e, a, b⟩ := h
  rw [e, List.length_cons, List.length_cons, RwL.length b]
theorem RfL.length : ∀ {ws : List T} {vs : List V}, RfL K s.fz s.H ws vs → ws.length = vs.length
 | [], _, h => by simp only [RfL] at h; rw [h]; rfl
 | x :: xs, vs, h => by
  simp only [RfL] at h
  obtain ⟨v, r, e, a, b⟩ := h
  rw [e, List.length_cons, List.length_cons, RfL.length b]
theorem RwL.get : ∀ {ws : List W} {vs : List V} {i : Nat} {w : W}, RwL K s ws vs → ws[i]? = some w → ∃ v, vs[i]? = some v ∧ Rw K s w v
 | [], _, _, _, _, h => by simp at h
 | x :: xs, vs, 0, w, h, e => by
  obtain ⟨v, r, e', a, b⟩ := h
  simp at e
  subst e
  exact ⟨v, by rw [e']; rfl, a⟩
 | x :: xs, vs, i + 1, w, h, e => by
  obtain ⟨v, r, e', a, b⟩ := h
  obtain ⟨v', h1, h2⟩ := RwL.get (i := i) (w := w) b (by simpa using e)
  exact ⟨v', by rw [e']; simpa using h1, h2⟩
theorem RfL.get : ∀ {ws : List T} {vs : List V} {i : Nat} {w : T}, RfL K s.fz s.H ws vs → ws[i]? = some w → ∃ v, vs[i]? = some v ∧ Rf K s.fz s.H w v
 | [], _, _, _, _, h => by simp at h
 | x :: xs, vs, 0, w, h, e => by
  simp only [RfL] at h
  obtain ⟨v, r, e', a, b⟩ := h
  simp at e
  subst e
  exact ⟨v, by rw [e']; rfl, a⟩
 | x :: xs, vs, i + 1, w, h, e => by
  simp only [RfL] at h
  obtain ⟨v, r, e', a, b⟩ := h
  obtain ⟨v', h1, h2⟩ := RfL.get (i := i) (w := w) b (by simpa using e)
  exact ⟨v', by rw [e']; simpa using h1, h2⟩
/-- trees among values -/
theorem RwL.of_trees : ∀ {ts : List T} {vs : List V}, RwL K s Yo vs ↔ RfL K s.fz s.H ts vs
 | [], vs => by simp [RwL, RfL]
 | x :: xs, vs => by
  simp only [List.map_cons, RwL, RfL, Rw]
  constructor
  ·rintro ⟨v, r, e, a, b⟩; exact ⟨v, r, e, a, RwL.of_trees.mp b⟩
  ·rintro ⟨v, r, e, a, b⟩; exact ⟨v, r, e, a, RwL.of_trees.mpr b⟩
theorem RwL.append : ∀ {ws ws' : List W} {vs vs' : List V}, RwL K s ws vs → RwL K s ws' vs' → RwL K s (ws ++ ws') (vs ++ vs')
 | [], _, _, _, h, h' => by rw [show _ = [] from h]; exact h'
 | x :: xs, _, vs, _, h, h' => by
  obtain ⟨v, r, e, a, b⟩ := h
  rw [e]
  exact ⟨v, _, rfl, a, RwL.append b h'⟩
theorem FTup.sq {fz : Addr → Prop} {H : Hp} {a : Addr} {xs : List V} (h : FTup K fz H a xs) : SqT K H a xs := by
 rcases h with ⟨_, o, h, _⟩ | ⟨o, its, n, h1, h2, _, h3⟩
 ·exact .inl (.inr ⟨o, h⟩)
 ·exact .inr ⟨o, its, n, h1, h2, h3⟩
theorem FPr.sq {K : PySem.W.Frag} {fz : Addr → Prop} {H : Hp} {a : Addr} {xs : List V} (h : FPr fz H a xs) : SqT K H a xs := .inl (.inl h.2)
theorem FLst.sq {K : PySem.W.Frag} {fz : Addr → Prop} {H : Hp} {a : Addr} {xs : List V} (h : FLst fz H a xs) : SqL K H a xs := .inl (.inl h.2)
theorem FScr.sq {K : PySem.W.Frag} {fz : Addr → Prop} {H : Hp} {a : Addr} {xs : List V} (h : FScr K fz H a xs) : SqL K H a xs := h.elim (fun h => let ⟨o, e⟩ := h.2; .inl (.inr ⟨o, e⟩)) .inr
end
def Sl (K : PySem.W.Frag) (s : S4) (eta : IS) (σ : St) : Prop :=
 eta.length = σ.length ∧ ∀ (i : Nat) (w : W), eta[i]? = some (some w) → ∃ v, σ[i]? = some (some v) ∧ Rw K s w v
theorem Sl.aft {K : PySem.W.Frag} {ω : World} {s s' : S4} {eta : IS} {σ : St} (h : Sl K s eta σ) (A : Aft s s') (R : Rel K ω s) : Sl K s' eta σ :=
 ⟨h.1, fun i w e => let ⟨v, a, b⟩ := h.2 i w e; ⟨v, a, b.aft A R⟩⟩
theorem Sl.set {K : PySem.W.Frag} {s : S4} {eta : IS} {σ : St} {w : W} {v : V} (h : Sl K s eta σ) (i : Nat) (r : Rw K s w v) : Sl K s Yga (σ.set i (some v)) := by
 refine ⟨by simp [h.1], fun j u e => ?_⟩
 by_cases hj : i = j
 ·subst hj
  by_cases hl : i < eta.length
  ·rw [List.getElem?_set_self hl] at e
   cases e
   exact ⟨v, by rw [List.getElem?_set_self (by rw [← h.1]; exact hl)], r⟩
  ·rw [List.getElem?_eq_none (by simpa using hl)] at e
   cases e
 ·rw [List.getElem?_set_ne hj] at e
  obtain ⟨x, a, b⟩ := h.2 j u e
  exact ⟨x, by rw [List.getElem?_set_ne hj]; exact a, b⟩
theorem Sl.wipe {K : PySem.W.Frag} {s : S4} {eta : IS} {σ : St} (h : Sl K s eta σ) : ∀ (vs : List Nat), Sl K s (vs.foldr (fun v e => e.set v none) eta) (wipe σ vs)
 | [] => h
 | v :: vs => by
  have ih := Sl.wipe h vs
  refine ⟨by simp only [List.foldr_cons, L2.wipe, List.length_set]; exact ih.1, fun j u e => ?_⟩
  simp only [List.foldr_cons] at e
  by_cases hj : v = j
  ·subst hj
   by_cases hl : v < (vs.foldr (fun v e => e.set v none) eta).length
   ·rw [List.getElem?_set_self hl] at e; cases e
   ·rw [List.getElem?_eq_none (by simpa using hl)] at e; cases e
  ·rw [List.getElem?_set_ne hj] at e
   obtain ⟨x, a, b⟩ := ih.2 j u e
   exact ⟨x, by simp only [L2.wipe]; rw [List.getElem?_set_ne hj]; exact a, b⟩
/-- how a raised error lies: its class by name, its fields in its own dict -/
def ExR (K : PySem.W.Frag) (s : S4) (e : Ex) (cls : Value) (d : Option Addr) : Prop :=
 ∃ C, cls = .ref C ∧ CN K e.cls C ∧ ((e.fs = [] ∧ d = none) ∨ ∃ dd vs, d = some dd ∧ s.H dd = some (.xd vs) ∧ RwF K s e.fs vs)
abbrev WX := Value → Option Addr → St → Hp → Prop
def Go {A B : Type} (K : PySem.W.Frag) (ω : World) (Wx : WX) (Fam : S4 → A → B → Prop) (s : S4) (r : Res A) (Q : B → Hp → Prop) : Prop := match r with
 | .ok a hp' => ∀ (b : B) (s' : S4), s'.hp = hp' → Aft s s' → Rel K ω s' → Fam s' a b → Q b s'.H
 | .er e eta' hp' => ∀ (s' : S4) (σ' : St) (cls : Value) (d : Option Addr), s'.hp = hp' → Aft s s' → Rel K ω s' → Sl K s' eta' σ' → ExR K s' e cls d → Wx cls d σ' s'.H
 | .bad => False
section
variable {K : PySem.W.Frag} {ω : World} {Wx : WX} {s s' : S4} {A B C D : Type} {Fam : S4 → A → B → Prop} {Gam : S4 → C → D → Prop}
theorem Go.aft {r : Res A} {Q : B → Hp → Prop} (g : Go K ω Wx Fam s r Q) (a : Aft s s') : Go K ω Wx Fam s' r Q := by
 cases r with
 | ok x hp => exact fun b s2 h1 h2 h3 h4 => g b s2 h1 (a.trans h2) h3 h4
 | er e eta hp => exact fun s2 σ' cls d h1 h2 h3 h4 h5 => g s2 σ' cls d h1 (a.trans h2) h3 h4 h5
 | bad => exact g
theorem Go.mono {r : Res A} {Q Q' : B → Hp → Prop} (g : Go K ω Wx Fam s r Q) (h : ∀ b H, Q b H → Q' b H) : Go K ω Wx Fam s r Q' := by
 cases r with
 | ok x hp => exact fun b s2 h1 h2 h3 h4 => h _ _ (g b s2 h1 h2 h3 h4)
 | er e eta hp => exact g
 | bad => exact g
/-- a run, then more -/
theorem Go.bind {r : Res A} {k : A → IH → Res C} {Q : D → Hp → Prop} {R : B → Hp → Prop} (g : Go K ω Wx Gam s (r.bind k) Q)
  (h : ∀ a b s', Aft s s' → Rel K ω s' → Fam s' a b → r = .ok a s'.hp → Go K ω Wx Gam s' (k a s'.hp) Q → R b s'.H) : Go K ω Wx Fam s r R := by
 cases r with
 | ok x hp =>
  intro b s2 h1 h2 h3 h4
  subst h1
  exact h x b s2 h2 h3 h4 rfl (Go.aft (show Go K ω Wx Gam s (k x s2.hp) Q from g) h2)
 | er e eta hp => exact g
 | bad => exact g
theorem Go.ret {a : A} {b : B} {hp : IH} {Q : B → Hp → Prop} (g : Go K ω Wx Fam s (.ok a hp) Q) (s' : S4) (h1 : s'.hp = hp) (h2 : Aft s s') (h3 : Rel K ω s') (h4 : Fam s' a b) : Q b s'.H := g b s' h1 h2 h3 h4
end
/-- the reading made of a plain function -/
def tM {A B : Type} (K : PySem.W.Frag) (ω : World) (Wx : WX) (Fam : S4 → A → B → Prop) (F : M A) : St → Hp → (B → Hp → Prop) → Prop := fun σ H Q =>
 ∃ (s : S4) (eta : IS), s.H = H ∧ Rel K ω s ∧ Sl K s eta σ ∧ Go K ω Wx Fam s (F eta s.hp) Q
abbrev tE (K : PySem.W.Frag) (ω : World) (Wx : WX) (F : M W) : TE := tM K ω Wx (Rw K) F
abbrev tA (K : PySem.W.Frag) (ω : World) (Wx : WX) (F : M (List W)) : TA := tM K ω Wx (RwL K) F
abbrev tT (K : PySem.W.Frag) (ω : World) (Wx : WX) (F : M Bool) : TT := tM K ω Wx Yff F
/-- judgements -/
def IE (X : Cx) (Wx : WX) (e : Expr) (F : M W) : Prop := PE X e (tE X.K X.w Wx F)
def IA (X : Cx) (Wx : WX) (es : List Expr) (F : M (List W)) : Prop := PA X es (tA X.K X.w Wx F)
def IT (X : Cx) (Wx : WX) (e : Expr) (F : M Bool) : Prop := PT X e (tT X.K X.w Wx F)
theorem PE.imp {X : Cx} {e : Expr} {t t' : TE} (h : PE X e t) (i : ∀ σ H Q, t' σ H Q → t σ H Q) : PE X e t' := ⟨fun pins s σ H Q I hw => h.run pins s σ H Q I Yfs⟩
theorem PT.imp {X : Cx} {e : Expr} {t t' : TT} (h : PT X e t) (i : ∀ σ H Q, t' σ H Q → t σ H Q) : PT X e t' := ⟨fun pins s σ H Q I hw => h.run pins s σ H Q I Yfs⟩
theorem PW.imp {X : Cx} {e : Expr} {t t' : TT} (h : PW X e t) (i : ∀ σ H Q, t' σ H Q → t σ H Q) : PW X e t' := ⟨fun wh pins s σ H Q I hw => h.run wh pins s σ H Q I Yfs⟩
theorem PA.imp {X : Cx} {e : List Expr} {t t' : TA} (h : PA X e t) (i : ∀ σ H Q, t' σ H Q → t σ H Q) : PA X e t' := ⟨fun pos pins s σ H Q I hw => h.run pos pins s σ H Q I Yfs⟩
theorem PS.imp {X : Cx} {e : Stmt} {t t' : TS} (h : PS X e t) (i : ∀ D σ H, t' D σ H → t D σ H) : PS X e t' := ⟨fun pins s σ H D I hw => h.run pins s σ H D I Yfs⟩
theorem PSs.imp {X : Cx} {e : List Stmt} {t t' : TS} (h : PSs X e t) (i : ∀ D σ H, t' D σ H → t D σ H) : PSs X e t' := ⟨fun pins s σ H D I hw => h.run pins s σ H D I Yfs⟩
theorem PG.imp {X : Cx} {e : Expr} {t t' : TG} (h : PG X e t) (i : ∀ v σ H Q, t' v σ H Q → t v σ H Q) : PG X e t' := ⟨fun pins s σ H v u Q I r hw => h.run pins s σ H v u Q I r (i _ _ _ _ hw)⟩
theorem PI.imp {X : Cx} {tg e : Expr} {t t' : TI} (h : PI X tg e t) (i : ∀ σ H Q, t' σ H Q → t σ H Q) : PI X tg e t' := ⟨fun pins s σ H Q I hw => h.run pins s σ H Q I Yfs⟩
end Mir
namespace Mir
open PySem PySem.Spec L2
open PyProof.Rows hiding St
mutual
def dat : T → PyData
 | .non => .none | .bl b => .bool b | .int i => .int i | .str s => .str s
 | .tup xs => .tuple (datL xs) | .lst xs => .list (datL xs) | .scr _ => .none | .pr _ => .none
 | .ty _ => .none | .dic _ _ => .none | .ins _ _ _ => .none | .cls _ => .none | .dit _ _ => .none | .exc _ _ _ => .none
def datL : List T → List PyData
 | [] => [] | x :: xs => dat x :: datL xs
end
mutual
/-- no dict, no instance; nested at most n deep -/
def fit : T → Nat → Bool
 | .non, _ => true | .bl _, _ => true | .int _, _ => true | .str _, _ => true
 | .tup xs, n => match n with | 0 => false | n + 1 => fitL xs n
 | .lst xs, n => match n with | 0 => false | n + 1 => fitL xs n
 | .scr _, _ => false | .pr _, _ => false | .ty _, _ => false | .dic _ _, _ => false | .ins _ _ _, _ => false | .cls _, _ => false | .dit _ _, _ => false | .exc _ _ _, _ => false
def fitL : List T → Nat → Bool
 | [], _ => true | x :: xs, n => fit x n && fitL xs n
end
mutual
def eqT : T → T → Bool
 | .non, y => match y with | .non => true | _ => false
 | .bl a, y => match y with | .bl b => a == b | .int j => (if a then 1 else 0) == j | _ => false
 | .int i, y => match y with | .bl b => i == (if b then 1 else 0) | .int j => i == j | _ => false
 | .str x, y => match y with | .str z => x == z | _ => false
 | .tup xs, y => match y with | .tup ys => eqTL xs ys | _ => false
 | .lst xs, y => match y with | .lst ys => eqTL xs ys | _ => false
 | .scr _, _ => false | .pr _, _ => false | .ty _, _ => false | .dic _ _, _ => false | .ins _ _ _, _ => false | .cls _, _ => false | .dit _ _, _ => false | .exc _ _ _, _ => false
def eqTL : List T → List T → Bool
 | [], ys => match ys with | [] => true | _ :: _ => false
 | x :: xs, ys => match ys with | [] => false | y :: ys => eqT x y && eqTL xs ys
end
mutual
theorem zdi : ∀ (x : T) (n : Nat), fit x n = true → (dat x).plain = true ∧ (dat x).depth ≤ n
 | .non, n, _ => by simp [dat, PyData.plain, PyData.depth]
 | .bl _, n, _ => by simp [dat, PyData.plain, PyData.depth]
 | .int _, n, _ => by simp [dat, PyData.plain, PyData.depth]
 | .str _, n, _ => by simp [dat, PyData.plain, PyData.depth]
 | .tup xs, 0, h => by simp [fit] at h
 | .tup xs, n + 1, h => by
  have := fit_plainL xs n Ygt
  simp only [dat, PyData.plain, PyData.depth]
  exact ⟨this.1, by omega⟩
 | .lst xs, 0, h => by simp [fit] at h
 | .lst xs, n + 1, h => by
  have := fit_plainL xs n Ygt
  simp only [dat, PyData.plain, PyData.depth]
  exact ⟨this.1, by omega⟩
 | .ty _, n, h => by simp [fit] at h
 | .scr _, n, h => by simp [fit] at h
 | .pr _, n, h => by simp [fit] at h
 | .dic _ _, n, h => by simp [fit] at h
 | .ins _ _ _, n, h => by simp [fit] at h
 | .cls _, n, h => by simp [fit] at h
 | .dit _ _, n, h => by simp [fit] at h
 | .exc _ _ _, n, h => by simp [fit] at h
theorem fit_plainL : ∀ (xs : List T) (n : Nat), fitL xs n = true → PyData.plainAll (datL xs) = true ∧ PyData.depthAll (datL xs) ≤ n
 | [], n, _ => by simp [datL, PyData.plainAll, PyData.depthAll]
 | x :: xs, n, h => by
  simp only [fitL, Bool.and_eq_true] at h
  have h1 := zdi x n h.1
  have h2 := fit_plainL xs n h.2
  simp only [datL, PyData.plainAll, PyData.depthAll, h1.1, h2.1, Bool.and_self, true_and]
  omega
end
mutual
theorem eqT_dat : ∀ (x y : T) (n m : Nat), fit x n = true → fit y m = true → PyData.eqv (dat x) (dat y) = eqT x y
 | .non, y, n, m, _, hy => by cases y <;> simp_all [dat, PyData.eqv, eqT, fit]
 | .bl a, y, n, m, _, hy => by cases y <;> simp_all [dat, PyData.eqv, eqT, fit]
 | .int i, y, n, m, _, hy => by cases y <;> simp_all [dat, PyData.eqv, eqT, fit]
 | .str x, y, n, m, _, hy => by cases y <;> simp_all [dat, PyData.eqv, eqT, fit]
 | .tup xs, .tup ys, 0, _, h, _ => by simp [fit] at h
 | .tup xs, .tup ys, n + 1, 0, _, h => by simp [fit] at h
 | .tup xs, .tup ys, n + 1, m + 1, hx, hy => by
  simp only [dat, PyData.eqv, eqT]
  exact eqTL_dat xs ys n m (by simpa [fit] using hx) (by simpa [fit] using hy)
 | .lst xs, .lst ys, 0, _, h, _ => by simp [fit] at h
 | .lst xs, .lst ys, n + 1, 0, _, h => by simp [fit] at h
 | .lst xs, .lst ys, n + 1, m + 1, hx, hy => by
  simp only [dat, PyData.eqv, eqT]
  exact eqTL_dat xs ys n m (by simpa [fit] using hx) (by simpa [fit] using hy)
 | .tup xs, .non, _, _, _, _ => by simp [dat, PyData.eqv, eqT]
 | .tup xs, .bl _, _, _, _, _ => by simp [dat, PyData.eqv, eqT]
 | .tup xs, .int _, _, _, _, _ => by simp [dat, PyData.eqv, eqT]
 | .tup xs, .str _, _, _, _, _ => by simp [dat, PyData.eqv, eqT]
 | .tup xs, .lst _, _, _, _, _ => by simp [dat, PyData.eqv, eqT]
 | .tup xs, .ty _, _, _, _, h => by simp [fit] at h
 | .tup xs, .scr _, _, _, _, h => by simp [fit] at h
 | .tup xs, .pr _, _, _, _, h => by simp [fit] at h
 | .tup xs, .dic _ _, _, _, _, h => by simp [fit] at h
 | .tup xs, .ins _ _ _, _, _, _, h => by simp [fit] at h
 | .tup xs, .cls _, _, _, _, h => by simp [fit] at h
 | .tup xs, .dit _ _, _, _, _, h => by simp [fit] at h
 | .tup xs, .exc _ _ _, _, _, _, h => by simp [fit] at h
 | .lst xs, .non, _, _, _, _ => by simp [dat, PyData.eqv, eqT]
 | .lst xs, .bl _, _, _, _, _ => by simp [dat, PyData.eqv, eqT]
 | .lst xs, .int _, _, _, _, _ => by simp [dat, PyData.eqv, eqT]
 | .lst xs, .str _, _, _, _, _ => by simp [dat, PyData.eqv, eqT]
 | .lst xs, .tup _, _, _, _, _ => by simp [dat, PyData.eqv, eqT]
 | .lst xs, .ty _, _, _, _, h => by simp [fit] at h
 | .lst xs, .scr _, _, _, _, h => by simp [fit] at h
 | .lst xs, .pr _, _, _, _, h => by simp [fit] at h
 | .lst xs, .dic _ _, _, _, _, h => by simp [fit] at h
 | .lst xs, .ins _ _ _, _, _, _, h => by simp [fit] at h
 | .lst xs, .cls _, _, _, _, h => by simp [fit] at h
 | .lst xs, .dit _ _, _, _, _, h => by simp [fit] at h
 | .lst xs, .exc _ _ _, _, _, _, h => by simp [fit] at h
 | .ty _, _, _, _, h, _ => by simp [fit] at h
 | .scr _, _, _, _, h, _ => by simp [fit] at h
 | .pr _, _, _, _, h, _ => by simp [fit] at h
 | .dic _ _, _, _, _, h, _ => by simp [fit] at h
 | .ins _ _ _, _, _, _, h, _ => by simp [fit] at h
 | .cls _, _, _, _, h, _ => by simp [fit] at h
 | .dit _ _, _, _, _, h, _ => by simp [fit] at h
 | .exc _ _ _, _, _, _, h, _ => by simp [fit] at h
theorem eqTL_dat : ∀ (xs ys : List T) (n m : Nat), fitL xs n = true → fitL ys m = true → PyData.eqvAll (datL xs) (datL ys) = eqTL xs ys
 | [], [], _, _, _, _ => by simp [datL, PyData.eqvAll, eqTL]
 | [], _ :: _, _, _, _, _ => by simp [datL, PyData.eqvAll, eqTL]
 | _ :: _, [], _, _, _, _ => by simp [datL, PyData.eqvAll, eqTL]
 | x :: xs, y :: ys, n, m, hx, hy => by
  simp only [fitL, Bool.and_eq_true] at hx hy
  simp only [datL, PyData.eqvAll, eqTL, eqT_dat x y n m hx.1 hy.1, eqTL_dat xs ys n m hx.2 hy.2]
end
section
variable {K : PySem.W.Frag} {ω : World} {s : S4}
mutual
theorem Rf.dp : ∀ (x : T) (v : V) (n : Nat), fit x n = true → Rf K s.fz s.H x v → Dp K s.H v (dat x)
 | .non, v, _, _, h => by simp only [Rf] at h; subst h; exact .non
 | .bl b, v, _, _, h => by simp only [Rf] at h; subst h; exact .bl b
 | .int b, v, _, _, h => by simp only [Rf] at h; subst h; exact .int b
 | .str b, v, _, _, h => by simp only [Rf] at h; subst h; exact .str b
 | .tup xs, v, 0, f, _ => by simp [fit] at f
 | .tup xs, v, n + 1, f, h => by
  simp only [Rf] at h
  obtain ⟨a, vs, e, t, l⟩ := h
  subst e
  exact .tup t.sq (RfL.dp xs vs n (by simpa [fit] using f) l)
 | .lst xs, v, 0, f, _ => by simp [fit] at f
 | .lst xs, v, n + 1, f, h => by
  simp only [Rf] at h
  obtain ⟨a, vs, e, t, l⟩ := h
  subst e
  exact .lst t.sq (RfL.dp xs vs n (by simpa [fit] using f) l)
 | .ty _, _, _, f, _ => by simp [fit] at f
 | .scr _, _, _, f, _ => by simp [fit] at f
 | .pr _, _, _, f, _ => by simp [fit] at f
 | .dic _ _, _, _, f, _ => by simp [fit] at f
 | .ins _ _ _, _, _, f, _ => by simp [fit] at f
 | .cls _, _, _, f, _ => by simp [fit] at f
 | .dit _ _, _, _, f, _ => by simp [fit] at f
 | .exc _ _ _, _, _, f, _ => by simp [fit] at f
theorem RfL.dp : ∀ (xs : List T) (vs : List V) (n : Nat), fitL xs n = true → RfL K s.fz s.H xs vs → DpAll K s.H vs (datL xs)
 | [], vs, _, _, h => by simp only [RfL] at h; subst h; exact .nil
 | x :: xs, vs, n, f, h => by
  simp only [fitL, Bool.and_eq_true] at f
  simp only [RfL] at h
  obtain ⟨v, r, e, a, b⟩ := h
  subst e
  exact .cons (Rf.dp x v n f.1 a) (RfL.dp xs r n f.2 b)
end
end
def allT : List W → Option (List T)
 | [] => some []
 | .t x :: ws => (allT ws).map (x :: ·)
 | .r _ :: _ => none
theorem zb4 : ∀ {ws : List W} {ts : List T}, allT ws = some ts → ws = ts.map W.t
 | [], ts, h => by simp [allT] at h; subst h; rfl
 | .t x :: ws, ts, h => by
  simp only [allT, Option.map_eq_some_iff] at h
  obtain ⟨r, h1, h2⟩ := h
  subst h2
  rw [zb4 h1]
  rfl
 | .r _ :: _, _, h => by simp [allT] at h
/-- a live list's items -/
def getL (hp : IH) (i : Nat) : Option (List W) := match hp[i]? with
 | some (some (.lst ws)) => some ws
 | _ => none
theorem zbo {hp : IH} {i : Nat} {ws : List W} (h : getL hp i = some ws) : hp[i]? = some (some (.lst ws)) := by
 unfold getL at h
 split at h
 ·cases h; assumption
 ·cases h
/-- as a tree (a live list of trees too) -/
def asT (hp : IH) : W → Option T
 | .t x => some x
 | .r i => ((getL hp i).bind allT).map T.lst
section
variable {K : PySem.W.Frag} {ω : World} {s : S4}
/-- where a live list lies -/
theorem Rel.lst (R : Rel K ω s) {i : Nat} {v : V} {ws : List W} (g : getL s.hp i = some ws) (r : Rw K s (.r i) v) : ∃ a vs, v = .ref a ∧ s.rho[i]? = some a ∧ s.H a = some (.lst vs) ∧ RwL K s ws vs ∧ ¬ s.fz a := by
 obtain ⟨a, e1, e2⟩ := r
 obtain ⟨vs, h1, h2⟩ := R.cell i _ a (zbo g) e1
 exact ⟨a, vs, e2, e1, h1, h2, R.fz a ⟨i, _, zbo g, e1⟩⟩
theorem asT_dp (R : Rel K ω s) {w : W} {x : T} {v : V} {n : Nat} (h : asT s.hp w = some x) (r : Rw K s w v) (f : fit x n = true) : Dp K s.H v (dat x) := by
 cases w with
 | t y => simp only [asT, Option.some.injEq] at h; subst h; exact Rf.dp _ v n f r
 | r i =>
  simp only [asT, Option.map_eq_some_iff, Option.bind_eq_some_iff] at h
  obtain ⟨ts, ⟨ws, g, h1⟩, h2⟩ := h
  subst h2
  obtain ⟨a, vs, e, _, e2, l, _⟩ := R.lst g r
  subst e
  cases n with
  | zero => simp [fit] at f
  | succ n =>
   rw [zb4 h1] at l
   exact .lst (.inl (.inl e2)) (RfL.dp ts vs n (by simpa [fit] using f) Yd7)
end
section
variable {X : Cx}
def rEqP (K : PySem.W.Frag) : R2 := fun x y H Q => ∃ d e, Dp K H x d ∧ Dp K H y e ∧ d.plain = true ∧ e.plain = true ∧ d.depth ≤ 60 ∧ Q (.bl (PyData.eqv d e)) H
def rNeP (K : PySem.W.Frag) : R2 := fun x y H Q => ∃ d e, Dp K H x d ∧ Dp K H y e ∧ d.plain = true ∧ e.plain = true ∧ d.depth ≤ 60 ∧ Q (.bl (!PyData.eqv d e)) H
theorem op_eqP (hu : X.A.units + 64 < cLine) : OpR X (compareOp .Eq) (rEqP X.K) := by
 intro pins s σ H x y v u Q I rx ry h
 obtain ⟨d, e, hd, he, sd, se, dd, q⟩ := h
 obtain ⟨as, r1⟩ := Dp.reads I d x v hd rx
 obtain ⟨bs, r2⟩ := Dp.reads I e y u he ry
 exact SeqAt.eq_plain r1 r2 sd se (by have : min d.depth e.depth ≤ d.depth := Nat.min_le_left _ _; omega) ⟨.bl _, H, I, rfl, q⟩
theorem op_neP (hu : X.A.units + 64 < cLine) : OpR X (compareOp .NotEq) (rNeP X.K) := by
 intro pins s σ H x y v u Q I rx ry h
 obtain ⟨d, e, hd, he, sd, se, dd, q⟩ := h
 obtain ⟨as, r1⟩ := Dp.reads I d x v hd rx
 obtain ⟨bs, r2⟩ := Dp.reads I e y u he ry
 exact SeqAt.ne_plain r1 r2 sd se (by have : min d.depth e.depth ≤ d.depth := Nat.min_le_left _ _; omega) ⟨.bl _, H, I, rfl, q⟩
/-- x in c: c a list or a tuple of data -/
def rInP (K : PySem.W.Frag) (neg : Bool) : R2 := fun x y H Q => ∃ d e, Dp K H x d ∧ (Dp K H y (.list e) ∨ Dp K H y (.tuple e)) ∧ d.plain = true ∧ PyData.plainAll e = true ∧ d.depth ≤ 60 ∧
 Q (.bl (if neg then !(e.any fun z => PyData.eqv z d) else e.any fun z => PyData.eqv z d)) H
theorem op_inP (hu : X.A.units + 64 < cLine) : OpR X (compareOp .In) (rInP X.K false) := by
 intro pins s σ H x y v u Q I rx ry h
 obtain ⟨d, e, hd, he, sd, se, dd, q⟩ := h
 obtain ⟨as, r1⟩ := Dp.reads I d x v hd rx
 have hm : X.A.units + 1 + min (PyData.depthAll e) d.depth < cLine := by have : min (PyData.depthAll e) d.depth ≤ d.depth := Nat.min_le_right _ _; omega
 rcases he with he | he
 ·obtain ⟨bs, r2⟩ := Dp.reads I _ y u he ry
  exact SeqAt.in_list_data r2 r1 se sd hm ⟨.bl _, H, I, rfl, q⟩
 ·obtain ⟨bs, r2⟩ := Dp.reads I _ y u he ry
  exact SeqAt.in_tuple_data r2 r1 se sd hm ⟨.bl _, H, I, rfl, q⟩
theorem op_ninP (hu : X.A.units + 64 < cLine) : OpR X (compareOp .NotIn) (rInP X.K true) := by
 intro pins s σ H x y v u Q I rx ry h
 obtain ⟨d, e, hd, he, sd, se, dd, q⟩ := h
 obtain ⟨as, r1⟩ := Dp.reads I d x v hd rx
 have hm : X.A.units + 1 + min (PyData.depthAll e) d.depth < cLine := by have : min (PyData.depthAll e) d.depth ≤ d.depth := Nat.min_le_right _ _; omega
 rcases he with he | he
 ·obtain ⟨bs, r2⟩ := Dp.reads I _ y u he ry
  exact SeqAt.notIn_list_data r2 r1 se sd hm ⟨.bl _, H, I, rfl, q⟩
 ·obtain ⟨bs, r2⟩ := Dp.reads I _ y u he ry
  exact SeqAt.notIn_tuple_data r2 r1 se sd hm ⟨.bl _, H, I, rfl, q⟩
end
abbrev Op2 := W → W → IH → Res W
abbrev Op1 := W → IH → Res W
abbrev OpN := List W → IH → Res W
def zc6 (K : PySem.W.Frag) (ω : World) (Wx : WX) (f : Op2) (r : R2) : Prop := ∀ (s : S4) (a b : W) (x y : V) (Q : VK), Rel K ω s → Rw K s a x → Rw K s b y → Go K ω Wx (Rw K) s (f a b s.hp) Q → r x y s.H Q
def Op1Ok (K : PySem.W.Frag) (ω : World) (Wx : WX) (f : Op1) (r : V → Hp → VK → Prop) : Prop := ∀ (s : S4) (a : W) (x : V) (Q : VK), Rel K ω s → Rw K s a x → Go K ω Wx (Rw K) s (f a s.hp) Q → r x s.H Q
def OpNOk (K : PySem.W.Frag) (ω : World) (Wx : WX) (f : OpN) (r : List V → Hp → VK → Prop) : Prop := ∀ (s : S4) (a : List W) (x : List V) (Q : VK), Rel K ω s → RwL K s a x → Go K ω Wx (Rw K) s (f a s.hp) Q → r x s.H Q
def mBin (f : Op2) (Fa Fb : M W) : M W := fun eta hp => (Fa eta hp).bind fun a h1 => (Fb eta h1).bind fun b h2 => f a b h2
def mUn (f : Op1) (Fa : M W) : M W := fun eta hp => (Fa eta hp).bind fun a h1 => f a h1
def mNil : M (List W) := fun _ hp => .ok [] hp
def zab (Fa : M W) (Fr : M (List W)) : M (List W) := fun eta hp => (Fa eta hp).bind fun a h1 => (Fr eta h1).bind fun r h2 => .ok (a :: r) h2
def mApp (f : OpN) (Fa : M (List W)) : M W := fun eta hp => (Fa eta hp).bind fun a h1 => f a h1
section
variable {X : Cx} {Wx : WX} {a b c e : Expr} {es : List Expr} {Fa Fb Fc F : M W} {Fs : M (List W)} {pos : Pos}
theorem tM.bind1 {A B C D : Type} {K : PySem.W.Frag} {ω : World} {Fam : S4 → A → B → Prop} {Gam : S4 → C → D → Prop} {Fa : M A} {k : A → IS → IH → Res C} {σ : St} {H : Hp} {Q : D → Hp → Prop} {R : B → Hp → Prop}
  (h : tM K ω Wx Gam (fun eta hp => (Fa eta hp).bind fun a h1 => k a eta h1) σ H Q)
  (n : ∀ (s : S4) (eta : IS) (a : A) (b : B), Rel K ω s → Sl K s eta σ → Fam s a b → Go K ω Wx Gam s (k a eta s.hp) Q → R b s.H) : tM K ω Wx Fam Fa σ H R := by
 obtain ⟨s, eta, e1, R1, S1, g⟩ := h
 refine ⟨s, eta, e1, R1, S1, Go.bind g fun a b s' A' R' f _ g' => n s' eta a b R' (S1.aft A' R1) f g'⟩
theorem tM.bind2 {A B C D A' B' : Type} {K : PySem.W.Frag} {ω : World} {Fam : S4 → A → B → Prop} {Fam' : S4 → A' → B' → Prop} {Gam : S4 → C → D → Prop} {Fa : M A} {Fb : M A'} {k : A → A' → IS → IH → Res C} {σ : St} {H : Hp} {Q : D → Hp → Prop} {R : B → B' → Hp → Prop}
  (keep : ∀ s s' a b, Fam s a b → Aft s s' → Rel K ω s → Fam s' a b)
  (h : tM K ω Wx Gam (fun eta hp => (Fa eta hp).bind fun a h1 => (Fb eta h1).bind fun b h2 => k a b eta h2) σ H Q)
  (n : ∀ (s : S4) (eta : IS) (a : A) (b : B) (a' : A') (b' : B'), Rel K ω s → Sl K s eta σ → Fam s a b → Fam' s a' b' → Go K ω Wx Gam s (k a a' eta s.hp) Q → R b b' s.H) : tM K ω Wx Fam Fa σ H fun b H1 => tM K ω Wx Fam' Fb σ H1 fun b' H2 => R b b' H2 := by
 refine tM.bind1 (k := fun a eta h1 => (Fb eta h1).bind fun b h2 => k a b eta h2) h fun s eta a b R1 S1 f g => ?_
 refine ⟨s, eta, rfl, R1, S1, Go.bind g fun a' b' s' A' R' f' _ g' => n s' eta a b a' b' R' (S1.aft A' R1) (keep _ _ _ _ f A' R1) f' g'⟩
theorem Rw.keep {K : PySem.W.Frag} {ω : World} : ∀ (s s' : S4) (a : W) (b : V), Rw K s a b → Aft s s' → Rel K ω s → Rw K s' a b := fun _ _ _ _ h A R => h.aft A R
theorem RwL.keep {K : PySem.W.Frag} {ω : World} : ∀ (s s' : S4) (a : List W) (b : List V), RwL K s a b → Aft s s' → Rel K ω s → RwL K s' a b := fun _ _ _ _ h A R => RwL.aft A R _ _ h
theorem t_bin {f : Op2} {r : R2} (hf : zc6 X.K X.w Wx f r) : ∀ σ H Q, tE X.K X.w Wx (mBin f Fa Fb) σ H Q → tOp r (tE X.K X.w Wx Fa) (tE X.K X.w Wx Fb) σ H Q := by
 intro σ H Q h
 exact tM.bind2 (R := fun x y H2 => r x y H2 Q) (k := fun a b _ hp => f a b hp) Rw.keep h fun s eta a b a' b' R1 S1 f1 f2 g => hf s a a' b b' Q R1 f1 f2 g
theorem ie_bin {op : Operator} {f : Op2} {r : R2} (ho : OpR X (binaryOp op) r) (hf : zc6 X.K X.w Wx f r) (ha : IE X Wx a Fa) (hb : IE X Wx b Fb) : IE X Wx (.BinOp a op b pos) (mBin f Fa Fb) :=
 PE.imp (pe_op ho ha hb) (t_bin hf)
theorem ie_cmp {op : CmpOp} {f : Op2} {r : R2} (ho : OpR X (compareOp op) r) (hf : zc6 X.K X.w Wx f r) (ha : IE X Wx a Fa) (hb : IE X Wx b Fb) (hm : behindInMarks op b = false) : IE X Wx (.Compare a [op] [b] pos) (mBin f Fa Fb) :=
 PE.imp (pe_cmpR ho ha hb hm) (t_bin hf)
theorem ie_un {op : UnaryOp} {f : Op1} {r : V → Hp → VK → Prop} (ho : UnR X (unaryOp op) r) (hf : Op1Ok X.K X.w Wx f r) (ha : IE X Wx a Fa) : IE X Wx (.UnaryOp op a pos) (mUn f Fa) :=
 PE.imp (pe_un ho ha) fun σ H Q h => tM.bind1 (R := fun x H1 => r x H1 Q) (k := fun a _ hp => f a hp) h fun s eta a b R1 _ f1 g => hf s a b Q R1 f1 g
theorem ie_ix {f : Op2} {r : R2} (hr : IxR X r) (hf : zc6 X.K X.w Wx f r) (ha : IE X Wx a Fa) (hb : IE X Wx b Fb) (hs : PlainIx b) : IE X Wx (.Subscript a b pos) (mBin f Fa Fb) :=
 PE.imp (pe_ix hr ha hb hs) (t_bin hf)
theorem zad : IA X Wx [] mNil := PA.imp pa_nil fun σ H Q h => by
 obtain ⟨s, eta, e1, R1, S1, g⟩ := h
 subst e1
 exact g [] s rfl Yh R1 rfl
theorem zaa (ha : IE X Wx e Fa) (hr : IA X Wx es Fs) (hs : starEach Ya3 X.env = (false, eval e X.env) :: starEach es X.env := by rfl) : IA X Wx Ya3 (zab Fa Fs) :=
 PA.imp (pa_cons ha hr hs) fun σ H Q h => tM.bind2 (R := fun x xs H2 => Q (x :: xs) H2) (k := fun a r _ hp => .ok (a :: r) hp) Rw.keep h fun s eta a b a' b' R1 S1 f1 f2 g => g (b :: b') s rfl Yh R1 ⟨b, b', rfl, f1, f2⟩
/-- *e: a tuple or a list -/
def items (hp : IH) : W → Option (List W)
 | .t (.tup xs) => some (xs.map W.t)
 | .t (.lst xs) => some (xs.map W.t)
 | .t (.scr xs) => some (xs.map W.t)
 | .t _ => none
 | .r i => getL hp i
theorem items_sq {K : PySem.W.Frag} {ω : World} {s : S4} (R : Rel K ω s) {w : W} {v : V} {ws : List W} (h : items s.hp w = some ws) (r : Rw K s w v) : ∃ p xs, v = .ref p ∧ (SqT K s.H p xs ∨ SqL K s.H p xs) ∧ RwL K s ws xs := by
 cases w with
 | t x =>
  cases x with
  | tup xs =>
   simp only [items, Option.some.injEq] at h
   subst h
   obtain ⟨a, vs, e, t, l⟩ : ∃ a vs, v = .ref a ∧ FTup K s.fz s.H a vs ∧ RfL K s.fz s.H xs vs := by simpa only [Rw, Rf] using r
   exact ⟨a, vs, e, .inl t.sq, RwL.of_trees.mpr l⟩
  | lst xs =>
   simp only [items, Option.some.injEq] at h
   subst h
   obtain ⟨a, vs, e, t, l⟩ : ∃ a vs, v = .ref a ∧ FLst s.fz s.H a vs ∧ RfL K s.fz s.H xs vs := by simpa only [Rw, Rf] using r
   exact ⟨a, vs, e, .inr t.sq, RwL.of_trees.mpr l⟩
  | scr xs =>
   simp only [items, Option.some.injEq] at h
   subst h
   obtain ⟨a, vs, e, t, l⟩ : ∃ a vs, v = .ref a ∧ FScr K s.fz s.H a vs ∧ RfL K s.fz s.H xs vs := by simpa only [Rw, Rf] using r
   exact ⟨a, vs, e, .inr t.sq, RwL.of_trees.mpr l⟩
  | _ => simp [items] at h
 | r i =>
  obtain ⟨a, vs, e, _, e2, l, _⟩ := R.lst (show getL s.hp i = some ws from h) r
  exact ⟨a, vs, e, .inr (.inl (.inl e2)), l⟩
def mStar (Fa : M W) (Fr : M (List W)) : M (List W) := fun eta hp => (Fa eta hp).bind fun a h1 => match items h1 a with
 | some ws => (Fr eta h1).bind fun r h2 => .ok (ws ++ r) h2
 | none => .bad
end
section
variable {X : Cx} {Wx : WX} {pos : Pos}
def mVar (i : Nat) : M W := fun eta hp => match eta[i]? with
 | some (some w) => .ok w hp
 | _ => .bad
def mC (x : T) : M W := fun _ hp => .ok (.t x) hp
theorem zac (i : Nat) {x : Str} (hN : X.N[i]? = some x := by rfl) (hv : Vis X.env.scope x := by first | exact Or.inl rfl | exact Or.inr (Or.inl rfl) | exact Or.inr (Or.inr rfl)) (hd : (x == ("__debug__" : Str)) = false := by decide)
  (hcd : (x == ("__classdict__" : Str)) = false := by decide) : IE X Wx Yg1 (mVar i) := PE.imp (pe_var hN hv hd hcd) fun σ H Q h => by
 obtain ⟨s, eta, e1, R1, S1, g⟩ := h
 subst e1
 unfold mVar at g
 split at g
 ·rename_i w hw
  obtain ⟨v, h1, h2⟩ := S1.2 i w hw
  exact ⟨v, h1, g v s rfl Yh R1 h2⟩
 ·exact g.elim
theorem t_const {v : V} {x : T} (hx : ∀ s, Rw X.K s (.t x) v) : ∀ σ H Q, tE X.K X.w Wx (mC x) σ H Q → tC v σ H Q := fun σ H Q h => by
 obtain ⟨s, eta, e1, R1, S1, g⟩ := h
 subst e1
 exact g v s rfl Yh R1 (hx s)
theorem zak {i j} : IE X Wx (.Constant (.int i) j pos) (mC (.int i)) := PE.imp pe_int Yd8
theorem ie_bl {b j} : IE X Wx (.Constant (.bool b) j pos) (mC (.bl b)) := PE.imp pe_bl Yd8
theorem zbi {j} : IE X Wx (.Constant .none j pos) Yaw := PE.imp pe_non Yd8
theorem zal {x j} : IE X Wx (.Constant (.str x) j pos) (mC (.str x)) := PE.imp pe_str Yd8
/-- a module's constant: what stands in the written part -/
def KT (K : PySem.W.Frag) (x : T) (v : V) : Prop := ∀ s, Rw K s (.t x) v
theorem ie_glob {x : Str} {v : V} {u : Value} {t : T} (hg : Gl X x) (hm : X.mg x = some u) (r : RelV v u) (k : KT X.K t v) (hd : (x == ("__debug__" : Str)) = false := by decide) : IE X Wx Yg1 (mC t) :=
 PE.imp (pe_glob hg hm r hd) (t_const k)
end
end Mir
namespace Mir
open PySem PySem.Spec L2
open PyProof.Rows hiding St
section
variable {K : PySem.W.Frag} {ω : World} {s : S4}
theorem Rel.fresh (R : Rel K ω s) {p : Addr} (h : s.H p = none) : p ∉ s.rho ∧ ¬ s.fz p := ⟨fun m => R.trk p m h, fun f => R.ftrk p f h⟩
theorem Rel.notlive (R : Rel K ω s) {p : Addr} (h : s.H p = none) : ¬ Live s p := fun ⟨i, c, _, e⟩ => (R.fresh h).1 (List.mem_of_getElem? e)
theorem Rel.liveH (R : Rel K ω s) {i : Nat} {c : Cell} {a : Addr} (h : s.hp[i]? = some (some c)) (e : s.rho[i]? = some a) : s.H a ≠ none := R.trk a (List.mem_of_getElem? e)
/-- a new frozen object -/
def S4.addF (s : S4) (p : Addr) (o : HO) : S4 := ⟨s.rho, fun a => s.fz a ∨ a = p, s.hp, upd s.H p o⟩
theorem za9 (R : Rel K ω s) {p : Addr} {o : HO} (h : s.H p = none) : Aft s (s.addF p o) := by
 refine ⟨⟨[], by simp [S4.addF], by simp⟩, fun a f => .inl f, fun a u e _ => ?_, fun a f => ?_, fun a l => .inl l, fun a e => ?_⟩
 ·show upd s.H p o a = some u
  rw [upd_ne (ne_of_none e h)]; exact e
 ·rcases f with f | f
  ·exact .inl f
  ·exact .inr (.inl (by rw [f]; exact h))
 ·show upd s.H p o a ≠ none
  by_cases q : a = p
  ·rw [q, upd_same]; intro z; cases z
  ·rw [upd_ne q]; exact e
theorem zb2 (R : Rel K ω s) {p : Addr} {o : HO} (h : s.H p = none) : Rel K ω (s.addF p o) := by
 have A := za9 (o := o) R h
 refine ⟨R.len, R.nd, fun a m => A.trk a (R.trk a m), fun a f => ?_, fun a l f => ?_, fun i c a e1 e2 => ?_⟩
 ·rcases f with f | f
  ·exact A.trk a (R.ftrk a f)
  ·show upd s.H p o a ≠ none
   rw [f, upd_same]; intro z; cases z
 ·rcases f with f | f
  ·exact R.fz a l f
  ·rw [f] at l; exact R.notlive h l
 ·have q := R.cell i c a e1 e2
  have ne : a ≠ p := fun z => R.liveH e1 e2 (by rw [z]; exact h)
  show CellOk K ω (s.addF p o) a c (upd s.H p o a)
  rw [upd_ne ne]
  exact q.aft A R
theorem addF_tup (R : Rel K ω s) {p : Addr} {o : Obj} {ts : List T} {vs : List V} (h : s.H p = none) (d : o.dict = none) (l : RfL K s.fz s.H ts vs) : Rw K (s.addF p (.frz o (.tup vs))) Yag (.ref p) := by
 have A := za9 (o := .frz o (.tup vs)) R h
 simp only [Rw, Rf]
 exact ⟨p, vs, rfl, .inl ⟨.inr rfl, o, upd_same, d⟩, RfL.aft A R _ _ l⟩
theorem addF_pr (R : Rel K ω s) {p : Addr} {ts : List T} {vs : List V} (h : s.H p = none) (l : RfL K s.fz s.H ts vs) : Rw K (s.addF p (.tup vs)) (.t (.pr ts)) (.ref p) := by
 have A := za9 (o := .tup vs) R h
 simp only [Rw, Rf]
 exact ⟨p, vs, rfl, ⟨.inr rfl, upd_same⟩, RfL.aft A R _ _ l⟩
theorem zds (R : Rel K ω s) {p : Addr} {ts : List T} {vs : List V} (h : s.H p = none) (l : RfL K s.fz s.H ts vs) : Rw K (s.addF p (.lst vs)) Y8 (.ref p) := by
 have A := za9 (o := .lst vs) R h
 simp only [Rw, Rf]
 exact ⟨p, vs, rfl, ⟨.inr rfl, upd_same⟩, RfL.aft A R _ _ l⟩
/-- a new live cell -/
def S4.addL (s : S4) (p : Addr) (c : Cell) (o : HO) : S4 := ⟨s.rho ++ [p], s.fz, s.hp ++ [some c], upd s.H p o⟩
theorem live_addL (R : Rel K ω s) {p a : Addr} {c : Cell} {o : HO} (l : Live (s.addL p c o) a) : Live s a ∨ a = p := by
 obtain ⟨i, d, e1, e2⟩ := l
 have e1 : (s.hp ++ [some c])[i]? = some (some d) := e1
 have e2 : (s.rho ++ [p])[i]? = some a := e2
 by_cases hi : i < s.hp.length
 ·rw [List.getElem?_append_left hi] at e1
  rw [List.getElem?_append_left (by rw [R.len]; exact hi)] at e2
  exact .inl ⟨i, d, e1, e2⟩
 ·rw [List.getElem?_append_right (by rw [R.len]; omega)] at e2
  have : i - s.rho.length = 0 := by
   have := (List.getElem?_eq_some_iff.mp e2).1
   simp at this
   omega
  rw [this] at e2
  simp at e2
  exact .inr e2.symm
theorem aft_addL (R : Rel K ω s) {p : Addr} {c : Cell} {o : HO} (h : s.H p = none) : Aft s (s.addL p c o) := by
 refine ⟨⟨[p], rfl, by simp [h]⟩, fun a f => f, fun a u e _ => ?_, fun a f => .inl f, fun a l => ?_, fun a e => ?_⟩
 ·show upd s.H p o a = some u
  rw [upd_ne (ne_of_none e h)]; exact e
 ·rcases live_addL R l with l | l
  ·exact .inl l
  ·exact .inr (by rw [l]; exact h)
 ·show upd s.H p o a ≠ none
  by_cases q : a = p
  ·rw [q, upd_same]; intro z; cases z
  ·rw [upd_ne q]; exact e
theorem rel_addL (R : Rel K ω s) {p : Addr} {c : Cell} {o : HO} (h : s.H p = none) (ok : CellOk K ω s p c (some o)) : Rel K ω (s.addL p c o) := by
 have A := aft_addL (c := c) (o := o) R h
 have hp := R.fresh h
 refine ⟨by simp [S4.addL, R.len], ?_, fun a m => ?_, fun a f => A.trk a (R.ftrk a f), fun a l f => ?_, fun i d a e1 e2 => ?_⟩
 ·show (s.rho ++ [p]).Nodup
  refine List.nodup_append.mpr ⟨R.nd, by simp, fun a m b hb => ?_⟩
  simp at hb
  rintro rfl
  exact hp.1 (hb ▸ m)
 ·have m : a ∈ s.rho ++ [p] := m
  rcases List.mem_append.mp m with m | m
  ·exact A.trk a (R.trk a m)
  ·simp at m
   show upd s.H p o a ≠ none
   rw [m, upd_same]; intro z; cases z
 ·rcases live_addL R l with l | l
  ·exact R.fz a l f
  ·exact hp.2 (l ▸ f)
 ·have e1 : (s.hp ++ [some c])[i]? = some (some d) := e1
  have e2 : (s.rho ++ [p])[i]? = some a := e2
  show CellOk K ω (s.addL p c o) a d (upd s.H p o a)
  by_cases hi : i < s.hp.length
  ·rw [List.getElem?_append_left hi] at e1
   rw [List.getElem?_append_left (by rw [R.len]; exact hi)] at e2
   have ne : a ≠ p := fun z => R.liveH e1 e2 (by rw [z]; exact h)
   rw [upd_ne ne]
   exact (R.cell i d a e1 e2).aft A R
  ·have h0 : i = s.hp.length := by
    have := (List.getElem?_eq_some_iff.mp e1).1
    simp at this
    omega
   subst h0
   simp at e1
   rw [List.getElem?_append_right (by rw [R.len]; exact Nat.le_refl _), R.len] at e2
   simp at e2
   subst e1 e2
   rw [upd_same]
   exact ok.aft A R
theorem addL_r (R : Rel K ω s) {p : Addr} {c : Cell} {o : HO} : Rw K (s.addL p c o) (.r s.hp.length) (.ref p) :=
 ⟨p, by show (s.rho ++ [p])[s.hp.length]? = some p; rw [List.getElem?_append_right (by rw [R.len]; exact Nat.le_refl _), R.len]; simp, rfl⟩
/-- a live cell is changed -/
def S4.setL (s : S4) (i : Nat) (a : Addr) (c : Cell) (o : HO) : S4 := ⟨s.rho, s.fz, s.hp.set i (some c), upd s.H a o⟩
theorem live_setL {i : Nat} {a b : Addr} {c c0 : Cell} {o : HO} (h0 : s.hp[i]? = some (some c0)) (l : Live (s.setL i a c o) b) : Live s b := by
 obtain ⟨j, d, e1, e2⟩ := l
 have e1 : (s.hp.set i (some c))[j]? = some (some d) := e1
 by_cases hj : i = j
 ·subst hj
  exact ⟨i, c0, h0, e2⟩
 ·rw [List.getElem?_set_ne hj] at e1
  exact ⟨j, d, e1, e2⟩
theorem aft_setL (R : Rel K ω s) {i : Nat} {a : Addr} {c c0 : Cell} {o : HO} (h0 : s.hp[i]? = some (some c0)) (ha : s.rho[i]? = some a) : Aft s (s.setL i a c o) := by
 refine ⟨⟨[], by simp [S4.setL], by simp⟩, fun _ f => f, fun b u e nl => ?_, fun _ f => .inl f, fun b l => .inl (live_setL h0 l), fun b e => ?_⟩
 ·show upd s.H a o b = some u
  rw [upd_ne (fun z => nl (by rw [z]; exact ⟨i, c0, h0, ha⟩))]; exact e
 ·show upd s.H a o b ≠ none
  by_cases q : b = a
  ·rw [q, upd_same]; intro z; cases z
  ·rw [upd_ne q]; exact e
theorem rel_setL (R : Rel K ω s) {i : Nat} {a : Addr} {c c0 : Cell} {o : HO} (h0 : s.hp[i]? = some (some c0)) (ha : s.rho[i]? = some a) (ok : CellOk K ω s a c (some o)) : Rel K ω (s.setL i a c o) := by
 have A := aft_setL (c := c) (o := o) R h0 ha
 refine ⟨by simp [S4.setL, R.len], R.nd, fun b m => A.trk b (R.trk b m), fun b f => A.trk b (R.ftrk b f), fun b l f => R.fz b (live_setL h0 l) f, fun j d b e1 e2 => ?_⟩
 have e1 : (s.hp.set i (some c))[j]? = some (some d) := e1
 show CellOk K ω (s.setL i a c o) b d (upd s.H a o b)
 by_cases hj : i = j
 ·subst hj
  have e2 : s.rho[i]? = some b := e2
  rw [ha] at e2; cases e2
  rw [List.getElem?_set_self (List.getElem?_eq_some_iff.mp h0).1] at e1
  cases e1
  rw [upd_same]
  exact ok.aft A R
 ·rw [List.getElem?_set_ne hj] at e1
  have e2 : s.rho[j]? = some b := e2
  have ne : b ≠ a := fun z => by
   subst z
   exact hj ((List.getElem?_inj (List.getElem?_eq_some_iff.mp ha).1 R.nd).mp (ha.trans e2.symm))
  rw [upd_ne ne]
  exact (R.cell j d b e1 e2).aft A R
/-- a live cell is frozen -/
def S4.frz (s : S4) (i : Nat) (a : Addr) : S4 := ⟨s.rho, fun b => s.fz b ∨ b = a, s.hp.set i none, s.H⟩
theorem live_frz (R : Rel K ω s) {i : Nat} {a b : Addr} (ha : s.rho[i]? = some a) (l : Live (s.frz i a) b) : Live s b ∧ b ≠ a := by
 obtain ⟨j, d, e1, e2⟩ := l
 have e1 : (s.hp.set i none)[j]? = some (some d) := e1
 have e2 : s.rho[j]? = some b := e2
 by_cases hj : i = j
 ·subst hj
  by_cases hl : i < s.hp.length
  ·rw [List.getElem?_set_self hl] at e1; cases e1
  ·rw [List.getElem?_eq_none (by simpa using hl)] at e1; cases e1
 ·rw [List.getElem?_set_ne hj] at e1
  refine ⟨⟨j, d, e1, e2⟩, fun z => ?_⟩
  subst z
  exact hj ((List.getElem?_inj (List.getElem?_eq_some_iff.mp ha).1 R.nd).mp (ha.trans e2.symm))
theorem aft_frz (R : Rel K ω s) {i : Nat} {a : Addr} {c0 : Cell} (h0 : s.hp[i]? = some (some c0)) (ha : s.rho[i]? = some a) : Aft s (s.frz i a) := by
 refine ⟨⟨[], by simp [S4.frz], by simp⟩, fun _ f => .inl f, fun b u e nl => e, fun b f => ?_, fun b l => .inl (live_frz R ha l).1, fun b e => e⟩
 rcases f with f | f
 ·exact .inl f
 ·exact .inr (.inr (by rw [f]; exact ⟨i, c0, h0, ha⟩))
theorem rel_frz (R : Rel K ω s) {i : Nat} {a : Addr} {c0 : Cell} (h0 : s.hp[i]? = some (some c0)) (ha : s.rho[i]? = some a) : Rel K ω (s.frz i a) := by
 have A := aft_frz R h0 ha
 refine ⟨by simp [S4.frz, R.len], R.nd, R.trk, fun b f => ?_, fun b l f => ?_, fun j d b e1 e2 => ?_⟩
 ·rcases f with f | f
  ·exact R.ftrk b f
  ·rw [f]; exact R.liveH h0 ha
 ·obtain ⟨l1, ne⟩ := live_frz R ha l
  rcases f with f | f
  ·exact R.fz b l1 f
  ·exact ne f
 ·have e1 : (s.hp.set i none)[j]? = some (some d) := e1
  by_cases hj : i = j
  ·subst hj
   rw [List.getElem?_set_self (List.getElem?_eq_some_iff.mp h0).1] at e1; cases e1
  ·rw [List.getElem?_set_ne hj] at e1
   exact (R.cell j d b e1 e2).aft A R
end
/-- a live list of trees becomes a tree -/
def zcz (w : W) (hp : IH) : Res W := match w with
 | .t x => .ok (.t x) hp
 | .r i => match (getL hp i).bind allT with
  | some ts => .ok Y8 (hp.set i none)
  | none => .bad
def mFrz (F : M W) : M W := fun eta hp => (F eta hp).bind fun a h1 => zcz a h1
section
variable {X : Cx} {Wx : WX} {e : Expr} {es : List Expr} {F : M W} {Fs : M (List W)} {pos : Pos}
def zbj (ws : List W) (hp : IH) : Res W := match allT ws with
 | some ts => if ts.length ≤ 16777216 then .ok Yag hp else .bad
 | none => .bad
def zaq (ws : List W) (hp : IH) : Res W := match allT ws with
 | some ts => if ts.length ≤ 16777216 then .ok Y8 hp else .bad
 | none => .bad
def newL (ws : List W) (hp : IH) : Res W := if ws.length ≤ 16777216 then .ok Ycn Ygu else .bad
section
variable {K : PySem.W.Frag} {ω : World} {s : S4} {ws : List W} {vs : List V} {Q : VK}
theorem go_tup (R : Rel K ω s) (r : RwL K s ws vs) (g : Go K ω Wx (Rw K) s (zbj ws s.hp) Q) : vs.length ≤ sizeLine ∧ ∀ (p : Addr) (o : Obj), s.H p = none → o.dict = none → Q (.ref p) (upd s.H p (.frz o (.tup vs))) := by
 unfold zbj at g
 split at g
 ·rename_i ts ht
  split at g
  ·rename_i hz
   rw [zb4 ht] at r
   refine ⟨by rw [← RwL.length r, List.length_map, sizeLine_eq]; exact hz, fun p o hp d => g (.ref p) (s.addF p (.frz o (.tup vs))) rfl (za9 R hp) (zb2 R hp) (addF_tup R hp d (RwL.of_trees.mp r))⟩
  ·exact g.elim
 ·exact g.elim
theorem go_lst (R : Rel K ω s) (r : RwL K s ws vs) (g : Go K ω Wx (Rw K) s (zaq ws s.hp) Q) : vs.length ≤ sizeLine ∧ ∀ p, s.H p = none → Q (.ref p) (upd s.H p (.lst vs)) := by
 unfold zaq at g
 split at g
 ·rename_i ts ht
  split at g
  ·rename_i hz
   rw [zb4 ht] at r
   refine ⟨by rw [← RwL.length r, List.length_map, sizeLine_eq]; exact hz, fun p hp => g (.ref p) (s.addF p (.lst vs)) rfl (za9 R hp) (zb2 R hp) (zds R hp (RwL.of_trees.mp r))⟩
  ·exact g.elim
 ·exact g.elim
theorem go_newL (R : Rel K ω s) (r : RwL K s ws vs) (g : Go K ω Wx (Rw K) s (newL ws s.hp) Q) : vs.length ≤ sizeLine ∧ ∀ p, s.H p = none → Q (.ref p) (upd s.H p (.lst vs)) := by
 unfold newL at g
 split at g
 ·rename_i hz
  refine ⟨by rw [← RwL.length r, sizeLine_eq]; exact hz, fun p hp => g (.ref p) (s.addL p (.lst ws) (.lst vs)) rfl (aft_addL R hp) (rel_addL R hp ⟨vs, rfl, r⟩) (addL_r R)⟩
 ·exact g.elim
end
/-- a tuple laid, its object known to have no dict -/
def tTupS (t : TA) : TE := fun σ H Q => t σ H fun xs H1 => xs.length ≤ sizeLine ∧ ∀ (p : Addr) (o : Obj), H1 p = none → o.dict = none → Q (.ref p) (upd H1 p (.frz o (.tup xs)))
theorem laid_tup {pins : List Yfb} {σ : St} {H : Hp} {s : Shared} {xs : List V} {us : List Value} {t' : Nat} {Q : VK} (I : Inv X pins σ H s) (r : Vals xs us) (z : xs.length ≤ sizeLine)
  (q : ∀ (p : Addr) (o : Obj), H p = none → o.dict = none → Q (.ref p) (upd H p (.frz o (.tup xs)))) : EP X pins σ Q (.ref s.heap.objs.size) { s with heap := s.heap.push { cls := .type "tuple", data := .seq us.toArray }, toks := t' } := by
 refine ⟨.ref s.heap.objs.size, _, I.laid (t' := t') (o := .frz { cls := .type "tuple", data := .seq us.toArray } (.tup xs)) (fun b u e => Heap.get?_push_of_some _ e) Ye2 ?_, rfl, q _ _ I.fresh rfl⟩
 exact ⟨Heap.get?_push_size _ rfl, z, us, r, ⟨_, Heap.get?_push_size _ rfl, rfl, _, rfl⟩⟩
theorem pe_tupS {x1} {t : TA} (h : PA X es t) : PE X (.Tuple es x1 pos) (tTupS t) := by
 refine ⟨fun pn s0 σ H Q J hq => ?_⟩
 refine wpAny_Tuple_spliced (thn (h.run pos pn s0 σ H _ J hq) fun us s1 w => ?_)
 obtain ⟨xs, H1, J1, r, z, q⟩ := w
 exact ⟨by rw [← r.length]; exact z, laid_tup (t' := s1.toks) J1 r z q⟩
theorem zdd {x1} (h : IA X Wx es Fs) : IE X Wx (.Tuple es x1 pos) (mApp zbj Fs) := PE.imp (pe_tupS h) fun σ H Q h =>
 tM.bind1 (R := fun (xs : List V) (H1 : Hp) => xs.length ≤ sizeLine ∧ ∀ (p : Addr) (o : Obj), H1 p = none → o.dict = none → Q (.ref p) (upd H1 p (.frz o (.tup xs)))) (k := fun (a : List W) _ hp => zbj a hp) h fun s eta a b R1 _ f1 g => go_tup R1 f1 g
theorem zch (h : IA X Wx es Fs) : IE X Wx (.List es pos) (mApp zaq Fs) := PE.imp (pe_lst h) fun σ H Q h =>
 tM.bind1 (R := fun (xs : List V) (H1 : Hp) => xs.length ≤ sizeLine ∧ ∀ p, H1 p = none → Q (.ref p) (upd H1 p (.lst xs))) (k := fun (a : List W) _ hp => zaq a hp) h fun s eta a b R1 _ f1 g => go_lst R1 f1 g
theorem ie_lstL (h : IA X Wx es Fs) : IE X Wx (.List es pos) (mApp newL Fs) := PE.imp (pe_lst h) fun σ H Q h =>
 tM.bind1 (R := fun (xs : List V) (H1 : Hp) => xs.length ≤ sizeLine ∧ ∀ p, H1 p = none → Q (.ref p) (upd H1 p (.lst xs))) (k := fun (a : List W) _ hp => newL a hp) h fun s eta a b R1 _ f1 g => go_newL R1 f1 g
end
def asB (w : W) (hp : IH) : Res Bool := match w with
 | .t (.bl b) => .ok b hp
 | _ => .bad
/-- a value's truth -/
def truW (w : W) (hp : IH) : Res Bool := match w with
 | .t .non => .ok false hp
 | .t (.bl b) => .ok b hp
 | .t (.int i) => .ok (i != 0) hp
 | .t (.str s) => if s.length ≤ 16777216 then .ok ((s.length : Int) != 0) hp else .bad
 | w => match items hp w with
  | some ws => .ok (!ws.isEmpty) hp
  | none => .bad
def zai (f : W → IH → Res Bool) (F : M W) : M Bool := fun eta hp => (F eta hp).bind fun a h1 => f a h1
def mAnd (A B : M Bool) : M Bool := fun eta hp => (A eta hp).bind fun a h1 => if a then B eta h1 else .ok false h1
def mOr (A B : M Bool) : M Bool := fun eta hp => (A eta hp).bind fun a h1 => if a then .ok true h1 else B eta h1
def mNot (A : M Bool) : M Bool := fun eta hp => (A eta hp).bind fun a h1 => .ok (!a) h1
def mIf {A : Type} (T : M Bool) (F G : M A) : M A := fun eta hp => (T eta hp).bind fun b h1 => if b then F eta h1 else G eta h1
section
variable {X : Cx} {Wx : WX} {a b c e : Expr} {rest : List Expr} {Fa Fb Fc F : M W} {A B : M Bool} {pos : Pos}
theorem go_asB {K : PySem.W.Frag} {ω : World} {s : S4} {w : W} {v : V} {Q : Bool → Hp → Prop} (R : Rel K ω s) (r : Rw K s w v) (g : Go K ω Wx Yff s (asB w s.hp) Q) : ∃ k, v = .bl k ∧ Q k s.H := by
 unfold asB at g
 split at g
 ·rename_i k
  simp only [Rw, Rf] at r
  exact ⟨k, r, g k s rfl Yh R rfl⟩
 ·exact g.elim
theorem it_cmp {op : CmpOp} {f : Op2} {r : R2} (ho : OpR X (compareOp op) r) (hf : zc6 X.K X.w Wx f r) (ha : IE X Wx a Fa) (hb : IE X Wx b Fb) (hm : behindInMarks op b = false) : IT X Wx (.Compare a [op] [b] pos) (zai asB (mBin f Fa Fb)) :=
 PT.imp (pt_cmpR ho ha hb hm) fun σ H Q h => by
  have h' : tE X.K X.w Wx (mBin f Fa Fb) σ H (fun x H1 => ∃ k, x = .bl k ∧ Q k H1) := tM.bind1 (R := fun (x : V) (H1 : Hp) => ∃ k, x = .bl k ∧ Q k H1) (k := fun (a : W) _ hp => asB a hp) h fun s eta a b R1 _ f1 g => go_asB R1 f1 g
  exact t_bin hf σ H _ h'
theorem items_at {K : PySem.W.Frag} {ω : World} {s : S4} (R : Rel K ω s) {w : W} {v : V} {ws : List W} (h : items s.hp w = some ws) (r : Rw K s w v) : ∃ p xs, v = .ref p ∧ ((SqL K s.H p xs) ∨ SqT K s.H p xs) ∧ RwL K s ws xs := by
 obtain ⟨p, xs, e, q, l⟩ := items_sq R h r
 exact ⟨p, xs, e, q.symm, l⟩
theorem go_tru {K : PySem.W.Frag} {ω : World} {s : S4} {w : W} {v : V} {Q : Bool → Hp → Prop} (R : Rel K ω s) (r : Rw K s w v) (g : Go K ω Wx Yff s (truW w s.hp) Q) : ∃ k, TruV K v s.H k ∧ Q k s.H := by
 have fin : ∀ {k : Bool}, Go K ω Wx Yff s (.ok k s.hp) Q → Q k s.H := fun g => g _ s rfl Yh R rfl
 have seq : (match items s.hp w with | some ws => Res.ok (!ws.isEmpty) s.hp | none => .bad : Res Bool) = truW w s.hp → ∃ k, TruV K v s.H k ∧ Q k s.H := fun e => by
  rw [← e] at g
  cases hi : items s.hp w with
  | none => simp only [hi] at g; exact g.elim
  | some ws =>
   simp only [hi] at g
   obtain ⟨p, xs, ev, q, l⟩ := items_at R hi r
   subst ev
   have em : ws.isEmpty = xs.isEmpty := by
    have := RwL.length l
    cases ws <;> cases xs <;> simp_all
   refine ⟨!ws.isEmpty, ?_, fin g⟩
   rcases q with q | q
   ·exact .inl ⟨xs, q, by rw [em]⟩
   ·exact .inr (.inl ⟨xs, q, by rw [em]⟩)
 cases w with
 | r i => exact seq rfl
 | t x =>
  cases x with
  | non => simp only [Rw, Rf] at r; subst r; exact ⟨false, rfl, fin g⟩
  | bl b => simp only [Rw, Rf] at r; subst r; exact ⟨b, rfl, fin g⟩
  | int i => simp only [Rw, Rf] at r; subst r; exact ⟨_, rfl, fin g⟩
  | str z =>
   simp only [Rw, Rf] at r; subst r
   simp only [truW] at g
   split at g
   ·rename_i hz
    exact ⟨_, ⟨by rw [sizeLine_eq]; exact hz, rfl⟩, fin g⟩
   ·exact g.elim
  | _ => exact seq rfl
theorem it_tru (h : IE X Wx e F) (he : ∀ whole, isTrue e X.env whole = (do let v ← whole; standAt e.pos; holding [v] (truthy v)) := by intro _; rfl) : IT X Wx e (zai truW F) := by
 refine PT.imp (pt_truth h he) fun σ H Q h => ?_
 exact tM.bind1 (R := fun (x : V) (H1 : Hp) => ∃ k, TruV X.K x H1 k ∧ Q k H1) (k := fun (a : W) _ hp => truW a hp) h fun s eta a b R1 _ f1 g => go_tru R1 f1 g
def IW (X : Cx) (Wx : WX) (e : Expr) (F : M Bool) : Prop := PW X e (tT X.K X.w Wx F)
theorem IW.it (h : IW X Wx e A) : IT X Wx e A := PW.pt h
theorem zd4 (ha : IT X Wx a A) : IW X Wx (.BoolOp .And [a] pos) A := pw_and1 ha
theorem iw_or1 (ha : IT X Wx a A) : IW X Wx (.BoolOp .Or [a] pos) A := pw_or1 ha
theorem t_cond {R : Bool → Hp → Prop} {C D : Type} {K : PySem.W.Frag} {ω : World} {Gam : S4 → C → D → Prop} {k : Bool → IS → IH → Res C} {σ : St} {H : Hp} {Q : D → Hp → Prop}
  (h : tM K ω Wx Gam (fun eta hp => (A eta hp).bind fun b h1 => k b eta h1) σ H Q) (n : ∀ (s : S4) (eta : IS) (b : Bool), Rel K ω s → Sl K s eta σ → Go K ω Wx Gam s (k b eta s.hp) Q → R b s.H) : tT K ω Wx A σ H R :=
 tM.bind1 (R := R) h fun s eta a b R1 S1 f1 g => by subst f1; exact n s eta a R1 S1 g
theorem iw_and (ha : IT X Wx a A) (hb : IW X Wx (.BoolOp .And (b :: rest) pos) B) : IW X Wx (.BoolOp .And (a :: b :: rest) pos) (mAnd A B) :=
 PW.imp (pw_and ha hb) fun σ H Q h => t_cond (R := fun c H1 => if c = true then tT X.K X.w Wx B σ H1 Q else Q false H1) (k := fun a eta h1 => if a then B eta h1 else .ok false h1) h fun s eta b R1 S1 g => by
  cases b with
  | true => exact ⟨s, eta, rfl, R1, S1, g⟩
  | false => exact g false s rfl Yh R1 rfl
theorem iw_or (ha : IT X Wx a A) (hb : IW X Wx (.BoolOp .Or (b :: rest) pos) B) : IW X Wx (.BoolOp .Or (a :: b :: rest) pos) (mOr A B) :=
 PW.imp (pw_or ha hb) fun σ H Q h => t_cond (R := fun c H1 => if c = true then Q true H1 else tT X.K X.w Wx B σ H1 Q) (k := fun a eta h1 => if a then .ok true h1 else B eta h1) h fun s eta b R1 S1 g => by
  cases b with
  | true => exact g true s rfl Yh R1 rfl
  | false => exact ⟨s, eta, rfl, R1, S1, g⟩
theorem it_not (ha : IT X Wx a A) : IT X Wx (.UnaryOp .Not a pos) (mNot A) :=
 PT.imp (pt_not ha) fun σ H Q h => t_cond (R := fun c H1 => Q (!c) H1) (k := fun a eta h1 => .ok (!a) h1) h fun s eta b R1 S1 g => g (!b) s rfl Yh R1 rfl
theorem ie_if (hc : IT X Wx c A) (ha : IE X Wx a Fa) (hb : IE X Wx b Fb) : IE X Wx (.IfExp c a b pos) (mIf A Fa Fb) :=
 PE.imp (pe_ifExp hc ha hb) fun σ H Q h => t_cond (R := fun c H1 => if c = true then tE X.K X.w Wx Fa σ H1 Q else tE X.K X.w Wx Fb σ H1 Q) (k := fun b eta h1 => if b then Fa eta h1 else Fb eta h1) h fun s eta b R1 S1 g => by
  cases b with
  | true => exact ⟨s, eta, rfl, R1, S1, g⟩
  | false => exact ⟨s, eta, rfl, R1, S1, g⟩
/-- bools as values: and, or, not (all but the last a bool) -/
def mAndV (Fa Fb : M W) : M W := fun eta hp => (Fa eta hp).bind fun a h1 => match a with | .t (.bl true) => Fb eta h1 | .t (.bl false) => .ok (.t Yx) h1 | _ => .bad
def mOrV (Fa Fb : M W) : M W := fun eta hp => (Fa eta hp).bind fun a h1 => match a with | .t (.bl true) => .ok (.t Yb5) h1 | .t (.bl false) => Fb eta h1 | _ => .bad
def mNotV (Fa : M W) : M W := fun eta hp => (Fa eta hp).bind fun a h1 => match a with | .t (.bl b) => .ok (.t (.bl (!b))) h1 | _ => .bad
theorem ie_one {op} (h : IE X Wx a F) : IE X Wx (.BoolOp op [a] pos) F := pe_one h
theorem ie_and (ha : IE X Wx a Fa) (hb : IE X Wx (.BoolOp .And (b :: rest) pos) Fb) : IE X Wx (.BoolOp .And (a :: b :: rest) pos) (mAndV Fa Fb) :=
 PE.imp (pe_and ha hb) fun σ H Q h => tM.bind1 (R := fun (x : V) (H1 : Hp) => ∃ c, x = .bl c ∧ if c = true then tE X.K X.w Wx Fb σ H1 Q else Q Yx H1)
  (k := fun (a : W) eta h1 => match a with | .t (.bl true) => Fb eta h1 | .t (.bl false) => .ok (.t Yx) h1 | _ => .bad) h fun s eta a b R1 S1 f1 g => by
  split at g
  ·simp only [Rw, Rf] at f1; exact ⟨true, f1, by rw [if_pos rfl]; exact ⟨s, eta, rfl, R1, S1, g⟩⟩
  ·simp only [Rw, Rf] at f1; exact ⟨false, f1, by rw [if_neg Bool.false_ne_true]; exact g Yx s rfl Yh R1 Yg⟩
  ·exact g.elim
/-- a < b <= c -/
def mChain (f f' : Op2) (Fa Fb Fc : M W) : M W := fun eta hp => (Fa eta hp).bind fun a h1 => (Fb eta h1).bind fun b h2 => (f a b h2).bind fun z h3 => match z with
 | .t (.bl true) => (Fc eta h3).bind fun c h4 => f' b c h4
 | .t (.bl false) => .ok (.t Yx) h3
 | _ => .bad
end
end Mir
namespace Mir
open PySem PySem.Spec L2
open PyProof.Rows hiding St
inductive Kd where | l | t
def Sq (K : PySem.W.Frag) (H : Hp) : Kd → Addr → List V → Prop
 | .l => SqL K H
 | .t => SqT K H
def IterH (h : Heap) : Kd → Addr → Addr → Nat → Prop
 | .l => h.IsListIter
 | .t => h.IsTupleIter
def SeqH (h : Heap) : Kd → Addr → Array Value → Prop
 | .l => h.IsList
 | .t => h.IsTuple
def iterO (kd : Kd) (a : Addr) : Obj := match kd with
 | .l => { cls := .type "list_iterator", data := .fields #[.ref a, .int 0 0] }
 | .t => { cls := .type "tuple_iterator", data := .fields #[.ref a, .int 0 0] }
section
variable {X : Cx} {pins : List Yfb} {σ : L2.St} {H : Hp} {s : Shared}
theorem Inv_sq (I : Inv X pins σ H s) {kd : Kd} {a : Addr} {xs : List V} (h : Sq X.K H kd a xs) : ∃ its : List Value, Vals xs its ∧ SeqH s.heap kd a its.toArray := by
 cases kd with
 | l => obtain ⟨its, r, p, _⟩ := I.list h; exact ⟨its, r, p.isList⟩
 | t => obtain ⟨its, r, p, _⟩ := I.tuple h; exact ⟨its, r, p⟩
theorem Inv_sq_inj (I : Inv X pins σ H s) {kd : Kd} {a : Addr} {xs ys : List V} (h : Sq X.K H kd a xs) (h' : Sq X.K H kd a ys) : xs = ys := by
 cases kd with
 | l => exact I.list_inj h h'
 | t => exact I.tuple_inj h h'
end
theorem SeqH.lt {h : Heap} {kd : Kd} {a : Addr} {its : Array Value} (x : SeqH h kd a its) : a < h.objs.size := by
 cases kd with
 | l => obtain ⟨o, e, _⟩ := x; exact Heap.lt_size e
 | t => obtain ⟨o, e, _⟩ := x; exact Heap.lt_size e
theorem IterH.lt {h : Heap} {kd : Kd} {it a : Addr} {i : Nat} (x : IterH h kd it a i) : it < h.objs.size := by
 cases kd with
 | l => obtain ⟨o, e, _⟩ := x; exact Heap.lt_size e
 | t => obtain ⟨o, e, _⟩ := x; exact Heap.lt_size e
theorem IterH.ob {h : Heap} {kd : Kd} {it a : Addr} {i : Nat} (x : IterH h kd it a i) : ∃ o, h.get? it = some o ∧ ∀ v, o.data ≠ .cell v := by
 cases kd with
 | l => obtain ⟨o, e, _, d⟩ := x; exact ⟨o, e, fun v z => by rw [d] at z; cases z⟩
 | t => obtain ⟨o, e, _, d⟩ := x; exact ⟨o, e, fun v z => by rw [d] at z; cases z⟩
theorem IterH.at_ {h h' : Heap} {kd : Kd} {it a : Addr} {i : Nat} (x : IterH h kd it a i) (k : ∀ o, h.get? it = some o → h'.get? it = some o) : IterH h' kd it a i := by
 cases kd with
 | l => exact Heap.IsListIter.at x k
 | t => exact Heap.IsTupleIter.at x k
theorem IterH.new {h : Heap} {kd : Kd} {it a : Addr} (e : h.get? it = some (iterO kd a)) : IterH h kd it a 0 := by
 cases kd with
 | l => exact ⟨_, e, rfl, rfl⟩
 | t => exact ⟨_, e, rfl, rfl⟩
theorem begins_sq (kd : Kd) (a : Addr) (its : Array Value) : Begins (.ref a) (iterO kd a) fun h => SeqH h kd a its := by
 cases kd with
 | l => exact begins_list a its
 | t => exact begins_tuple a its
theorem draws_sq {prog : Program} {w : World} {A : Around} (hh : A.handled = none) (kd : Kd) (it a : Addr) (hne : a ≠ it) (its : Array Value) :
  Draws prog w A it [it, a] its.size (fun i v => its[i]? = some v) (fun i h => IterH h kd it a i ∧ SeqH h kd a its) := by
 cases kd with
 | l => exact Draws.list hh it a hne its
 | t => exact Draws.tuple hh it a hne its
def ItQ (K : PySem.W.Frag) (kd : Kd) (a : Addr) : It := match kd with | .l => Itl K a | .t => Itt K a
def iSq (K : PySem.W.Frag) (te : TE) : TI := fun σ H R => te σ H fun x H1 => ∃ kd a xs, x = .ref a ∧ Sq K H1 kd a xs ∧ R (ItQ K kd a) H1
theorem pi_sq {X : Cx} {tg e : Expr} {te : TE} (he : PE X e te) : PI X tg e (iSq X.K te) := ⟨fun pins s σ H R I h => by
 refine thn (he.run pins s σ H _ I h) ?_
 rintro v s1 ⟨x, H1, I1, r1, kd, a, xs, ex, hq, q⟩
 subst ex
 obtain rfl : v = Value.ref a := r1
 obtain ⟨its, rv, p⟩ := Inv_sq I1 hq
 have I2 : Inv X pins σ H1 { s1 with heap := s1.heap.push (iterO kd a) } := I1.kept (t' := s1.toks) fun b o e => Heap.get?_push_of_some _ e
 have fp : ∀ b ∈ [s1.heap.objs.size], FpOk X pins H1 b := fun b hb => by
  obtain rfl : b = s1.heap.objs.size := by simpa using hb
  exact I1.fpOk Ye2 (I1.hok.fresh Ye2)
 have hn : IterH (s1.heap.push (iterO kd a)) kd s1.heap.objs.size a 0 := IterH.new (Heap.get?_push_size _ (by cases kd <;> rfl))
 refine (begins_sq kd a its.toArray).iter _ _ _ _ _ _ p ?_
 cases kd with
 | l => exact ⟨s1.heap.objs.size, [s1.heap.objs.size], _, _, H1, rfl, I2, turn_list a _, hn, fp, q⟩
 | t => exact ⟨s1.heap.objs.size, [s1.heap.objs.size], _, _, H1, rfl, I2, turn_tuple a _, hn, fp, q⟩⟩
def ItEn (K : PySem.W.Frag) (kd : Kd) (a : Addr) : It :=
 ⟨fun i H => ∃ (xs : List V) (x : V), Sq K H kd a xs ∧ xs[i]? = some x,
  fun i H v H' => ∃ (T : Addr) (x : V), v = .ref T ∧ H T = none ∧ H' = upd H T Yf7 ∧ ∀ xs, Sq K H kd a xs → xs[i]? = some x,
  fun i H => ∃ xs : List V, Sq K H kd a xs ∧ xs.length = i⟩
def TnEn (kd : Kd) (a e it : Addr) (i : Nat) (h : Heap) : Prop := (∃ old, IsEnum h e it (0 + (i : Int)) old) ∧ IterH h kd it a i ∧ e ≠ it ∧ a ≠ it ∧ a ≠ e
theorem turn_en {P : Program} {w : World} {K : PySem.W.Frag} {elts : List Expr} {kk : Nat} {tpos : Pos} (kd : Kd) (a e it : Addr) : Turn P w K (.Tuple elts kk tpos) (ItEn K kd a) [e, it] e (TnEn kd a e it) where
 mem := by simp
 obj := fun i h st b hb => by
  obtain ⟨⟨old, he⟩, hi, _⟩ := st
  have e' : b = e ∨ b = it := by simpa using hb
  rcases e' with z | z
  ·rw [z]; exact ⟨_, he, fun v q => nomatch q⟩
  ·rw [z]; exact hi.ob
 keep := fun i h h' st k => by
  obtain ⟨⟨old, he⟩, hi, ne⟩ := st
  exact ⟨⟨old, k e Yae _ he⟩, hi.at_ fun o q => k it Yae o q, ne⟩
 item := by
  intro X hP hw hK hc i pins s σ H E I hf st hg
  subst hP hw hK
  obtain ⟨⟨old, he⟩, hit, hne, hae⟩ := st
  obtain ⟨xs, x, hq, hx⟩ := hg
  obtain ⟨its, rv, p⟩ := Inv_sq I hq
  obtain ⟨u, hu, ru⟩ := rv.get hx
  have hd : X.A.in1.handled = none := I.ok.hd hc
  have D := draws_sq (prog := X.prog) (w := X.w) hd kd it a hae.1 its.toArray
  have Wk := WalksT.enumFrom 0 D e hne (by simp [hne, Ne.symm hae.2]) Yae
  have hlt : i < its.toArray.size := by
   have := (List.getElem?_eq_some_iff.mp hu).1
   simpa using this
  refine Wk.item i s _ _ hlt ⟨⟨old, he⟩, hit, p⟩ fun T vals h1 tk hv hT hTup hm hk => ⟨_, rfl, ?_⟩
  refine Wk.go elts kk tpos i T { s with heap := h1, toks := tk } _ _ hm fun h2 st2 hk2 => ?_
  obtain ⟨t, y, hy, ev⟩ := hv
  subst ev
  have ey : y = u := by
   have hy' : its[i]? = some y := by simpa using hy
   exact Option.some.inj (hy'.symm.trans hu)
  subst ey
  have hTw : T ∉ [e, it] := Wk.apart i T h1 hm
  have hT2 : h2.IsTuple T #[.int (0 + (i : Int)) t, y] := hTup.at fun o q => hk2 T o hTw q
  have new : ObjOk X.prog X.w (upd H T Yf7) h2 T Yf7 :=
   ⟨by show 2 ≤ sizeLine; decide, [.int (0 + (i : Int)) t, y], .cons ⟨t, by rw [Int.zero_add]⟩ (.cons ru .nil), hT2⟩
  have I1 : Inv X pins σ (upd H T Yf7) { s with heap := h2, toks := tk } :=
   I.turnedNew (ch := [e, it]) (fun b ob hb q => hk2 b ob hb (hk b ob hb q)) hf hT new
  refine ⟨.ref T, _, I1, rfl, ⟨T, x, rfl, I.hok.fresh hT, rfl, fun ys hy => by rw [Inv_sq_inj I hy hq]; exact hx⟩, ?_, fun b hb => ?_⟩
  ·exact ⟨by have := st2.1; simpa using this, st2.2.1, hne, hae⟩
  ·have nb : b ≠ T := fun z => hTw (z ▸ hb)
   rw [upd_ne nb]
   exact (hf b hb).1
 done := by
  intro X hP hw hK hc i pins s σ H E I hf st hg
  subst hP hw hK
  obtain ⟨⟨old, he⟩, hit, hne, hae⟩ := st
  obtain ⟨xs, hq, hl⟩ := hg
  obtain ⟨its, rv, p⟩ := Inv_sq I hq
  have D := draws_sq (prog := X.prog) (w := X.w) (A := X.A.in1) (I.ok.hd hc) kd it a hae.1 its.toArray
  have Wk := WalksT.enumFrom 0 D e hne (by simp [hne, Ne.symm hae.2]) Yae
  have hn : its.toArray.size = i := by have := rv.length; simp; omega
  have := Wk.done s (fun r s1 => r = none ∧ Inv X pins σ H s1) E (by rw [hn]; exact ⟨⟨old, he⟩, hit, p⟩) fun h1 tk hk => ⟨rfl, I.turnedL (ch := [e, it]) hk hf⟩
  exact this
 self := fun A i s Q E st h => by
  obtain ⟨⟨old, he⟩, _⟩ := st
  exact wpAny_pyIter_enum he h
section
variable {prog : Program} {w : World} {A : Around} {E : Value → Shared → Prop} {s : Shared}
theorem meets_en1 {v : Value} {o : Obj} {Hv : Heap → Prop} (B : Begins v o Hv) :
  Meets (Builtin.«enumerate.__new__» ⟨[.type "enumerate", v], []⟩) (fun _ R s => Hv s.heap ∧
   R (.ok (.ret (.ref (s.heap.push o).objs.size))) { s with heap := (s.heap.push o).push { cls := .type "enumerate", data := .fields #[.none, .bool false, .ref s.heap.objs.size, rawInt 0, .none, .none] } }) :=
 .of_wp fun prog w A R s hs => by
  obtain ⟨hp, g, d, tk, os⟩ := s
  obtain ⟨hv, hr⟩ := hs
  have hsub := sub_enumerate
  have q1 : ∀ {A2 : Around} {E2 : Value → Shared → Prop} {Q2 : Value → Shared → Prop}, Q2 (.ref hp.objs.size) ⟨hp.push o, g, d, tk, os⟩ → wpAny Y9 A2 (pyIter v) Q2 E2 ⟨hp, g, d, tk, os⟩ :=
   fun q => B.iter prog w _ _ ⟨hp, g, d, tk, os⟩ _ hv q
  wp_walk using q1
  refine wpAny_stack_any fun st => ?_
  refine wpAny_pure ?_
  have fin : ∀ b : Bool, b = true ∨ b = false := fun b => by cases b <;> simp
  split
  ·rename_i c _ _ _ _ _
   rcases fin (c == Value.type "enumerate") with q | q <;> rw [q] <;> (wp_walk using q1; exact ⟨_, rfl, hr⟩)
  ·(wp_walk using q1; exact ⟨_, rfl, hr⟩)
theorem en1_begins {v : Value} {o : Obj} {Hv : Heap → Prop} {Q : Value → Shared → Prop} (B : Begins v o Hv) (h1 : Hv s.heap)
  (h : ∀ h', IsEnum h' Yaz s.heap.objs.size 0 .none → h'.get? s.heap.objs.size = some o → (∀ b ob, s.heap.get? b = some ob → h'.get? b = some ob) → Q (.ref Yaz) { s with heap := h' }) :
  wpAny Y9 A (call (.type "enumerate") [v]) Q E s := by
 refine callType_new F.called_enumerate Ybr (F.typeCall_enumerate_1 _) (F.newCall_enumerate_1 _) (fun obj => F.args_object_init_2 obj _) F.entry_enumerate_new (meets_en1 B) ⟨h1, ?_⟩
 have hz : (s.heap.push o).objs.size = s.heap.objs.size + 1 := Heap.size_push ..
 show _ ∧ _
 rw [hz]
 have he := Heap.get?_push_size (s.heap.push o) (o := { cls := .type "enumerate", data := .fields #[.none, .bool false, .ref s.heap.objs.size, rawInt 0, .none, .none] }) rfl
 rw [hz] at he
 exact ⟨⟨_, he, rfl⟩, h _ he (Heap.get?_push_of_some _ (Heap.get?_push_size _ B.free)) fun b ob x => Heap.get?_push_of_some _ (Heap.get?_push_of_some _ x)⟩
end
def iEn (K : PySem.W.Frag) (ta : TA) : TI := fun σ H R => ta σ H fun vs H1 => ∃ kd a xs, vs = [.ref a] ∧ Sq K H1 kd a xs ∧ R (ItEn K kd a) H1
theorem pi_en {X : Cx} {e : Expr} {ta : TA} {p pos tpos : Pos} {elts : List Expr} {kk : Nat} (hg : Gl X "enumerate") (hm : X.mg "enumerate" = none) (ha : PA X [e] ta) (hs : starEach [e] X.env = [(false, eval e X.env)] := by rfl) :
  PI X (.Tuple elts kk tpos) (.Call (.Name "enumerate" p) [e] [] pos) (iEn X.K ta) := ⟨fun pins s σ H R I h => by
 refine Call_ (ld_blt I hg hm boot_enumerate (PyProof.Rows.callWith_type1 (thn Ye6 ?_) hs rfl))
 rintro us s1 ⟨vs, H1, I1, r1, kd, a, xs, ex, hq, q⟩
 subst ex
 obtain rfl := Vals.ref1 r1
 obtain ⟨its, rv, p'⟩ := Inv_sq I1 hq
 refine en1_begins (begins_sq kd a its.toArray) p' fun h' he hit hk => wpAny_pyIter_enum he ?_
 have I2 : Inv X pins σ H1 { s1 with heap := h' } := I1.kept (t' := s1.toks) hk
 refine ⟨s1.heap.objs.size + 1, [s1.heap.objs.size + 1, s1.heap.objs.size], _, _, H1, rfl, I2, turn_en kd a (s1.heap.objs.size + 1) s1.heap.objs.size, ⟨⟨.none, by simpa using he⟩, IterH.new hit, Nat.succ_ne_self _, Nat.ne_of_lt p'.lt, Nat.ne_of_lt (Nat.lt_succ_of_lt p'.lt)⟩, fun b hb => ?_, q⟩
 have e' : b = s1.heap.objs.size + 1 ∨ b = s1.heap.objs.size := by simpa using hb
 have hle : s1.heap.objs.size ≤ b := by rcases e' with z | z <;> (rw [z]; first | exact Nat.le_refl _ | exact Nat.le_add_right _ _)
 exact I1.fpOk hle (I1.hok.fresh hle)⟩
end Mir
namespace Mir
open PySem PySem.Spec L2
open PyProof.Rows hiding St
inductive Fl where
 | nx (eta : IS) | rt (w : W) | bk (eta : IS) | ct (eta : IS)
inductive FlV where
 | nx (o : St) | rt (v : V) | bk (o : St) | ct (o : St)
def RFl (K : PySem.W.Frag) (s : S4) : Fl → FlV → Prop
 | .nx eta, .nx o => Sl K s eta o
 | .rt w, .rt v => Rw K s w v
 | .bk eta, .bk o => Sl K s eta o
 | .ct eta, .ct o => Sl K s eta o
 | _, _ => False
def endQ (D : Ends) : FlV → Hp → Prop
 | .nx o, H => D.nx o H
 | .rt v, H => D.rt v H
 | .bk o, H => D.bk o H
 | .ct o, H => D.ct o H
abbrev tS (K : PySem.W.Frag) (ω : World) (Wx : WX) (F : M Fl) : TS := fun D σ H => tM K ω Wx (RFl K) F σ H (endQ D)
def ISt (X : Cx) (Wx : WX) (st : Stmt) (F : M Fl) : Prop := PS X st (tS X.K X.w Wx F)
def ISs (X : Cx) (Wx : WX) (st : List Stmt) (F : M Fl) : Prop := PSs X st (tS X.K X.w Wx F)
theorem Res.bind_assoc {A B C : Type} (r : Res A) (k : A → IH → Res B) (k' : B → IH → Res C) : (r.bind k).bind k' = r.bind fun a h => (k a h).bind k' := by cases r <;> rfl
def zbm : M Fl := fun eta hp => .ok Ydu hp
def thenF (B : M Fl) (f : Fl) (hp : IH) : Res Fl := match f with
 | .nx eta => B eta hp
 | f => .ok f hp
def mSeq (A B : M Fl) : M Fl := fun eta hp => (A eta hp).bind (thenF B)
def mRet (F : M W) : M Fl := fun eta hp => (F eta hp).bind fun a h1 => .ok (.rt a) h1
def mRetN : M Fl := fun _ hp => .ok (.rt Yco) hp
def mDrop (F : M W) : M Fl := fun eta hp => (F eta hp).bind fun _ h1 => .ok Ydu h1
def mBrk : M Fl := fun eta hp => .ok (.bk eta) hp
def mCnt : M Fl := fun eta hp => .ok (.ct eta) hp
section
variable {K : PySem.W.Frag} {ω : World} {Wx : WX} {s : S4} {D : Ends}
theorem Go.nx {eta : IS} {σ : St} (R : Rel K ω s) (S : Sl K s eta σ) (g : Go K ω Wx (RFl K) s (.ok Ydu s.hp) (endQ D)) : D.nx σ s.H := g (.nx σ) s rfl Yh R S
theorem Go.ct {eta : IS} {σ : St} (R : Rel K ω s) (S : Sl K s eta σ) (g : Go K ω Wx (RFl K) s (.ok (.ct eta) s.hp) (endQ D)) : D.ct σ s.H := g (.ct σ) s rfl Yh R S
theorem Go.bk {eta : IS} {σ : St} (R : Rel K ω s) (S : Sl K s eta σ) (g : Go K ω Wx (RFl K) s (.ok (.bk eta) s.hp) (endQ D)) : D.bk σ s.H := g (.bk σ) s rfl Yh R S
theorem Go.rt {w : W} {v : V} (R : Rel K ω s) (S : Rw K s w v) (g : Go K ω Wx (RFl K) s (.ok (.rt w) s.hp) (endQ D)) : D.rt v s.H := g (.rt v) s rfl Yh R S
end
section
variable {X : Cx} {Wx : WX} {st : Stmt} {rest sts sts' : List Stmt} {A B : M Fl} {e : Expr} {F : M W} {T : M Bool} {c : Expr} {pos : Pos}
theorem zbe : ISs X Wx [] zbm := PSs.imp pss_nil fun D σ H h => by
 obtain ⟨s, eta, e1, R1, S1, g⟩ := h
 subst e1
 exact Go.nx R1 S1 g
theorem zag (h1 : ISt X Wx st A) (h2 : ISs X Wx rest B) : ISs X Wx (st :: rest) (mSeq A B) := PSs.imp (pss_cons h1 h2) fun D σ H h => by
 obtain ⟨s, eta, e1, R1, S1, g⟩ := h
 refine ⟨s, eta, e1, R1, S1, Go.bind g fun f fv s' A' R' f' _ g' => ?_⟩
 cases f <;> cases fv <;> first | exact f'.elim | skip
 ·exact ⟨s', _, rfl, R', f', g'⟩
 ·exact Go.rt (D := D) R' f' g'
 ·exact Go.bk (D := D) R' f' g'
 ·exact Go.ct (D := D) R' f' g'
theorem zao (h1 : ISt X Wx st A) : ISs X Wx [st] A := pss_one h1
theorem zau (he : IE X Wx e F) : ISt X Wx (.Return (some e) pos) (mRet F) := PS.imp (ps_ret he) fun D σ H h =>
 tM.bind1 (R := fun (x : V) (H1 : Hp) => D.rt x H1) (k := fun (a : W) _ hp => .ok (Fl.rt a) hp) h fun s eta a b R1 _ f1 g => Go.rt R1 f1 g
theorem st_expr (he : IE X Wx e F) (hs : swapsWith e none pos.line X.env = pure false := by rfl) : ISt X Wx (.Expr e pos) (mDrop F) := PS.imp (ps_expr he hs) fun D σ H h =>
 tM.bind1 (R := fun (x : V) (H1 : Hp) => D.nx σ H1) (k := fun (a : W) eta hp => .ok (Fl.nx eta) hp) h fun s eta a b R1 S1 f1 g => Go.nx R1 S1 g
theorem zc1 (hc : IT X Wx c T) (ha : ISs X Wx sts A) (hb : ISs X Wx sts' B) : ISt X Wx (.If c sts sts' pos) (mIf T A B) := PS.imp (ps_if hc ha hb) fun D σ H h =>
 t_cond (R := fun (b : Bool) (H1 : Hp) => if b = true then tS X.K X.w Wx A D σ H1 else tS X.K X.w Wx B D σ H1) (k := fun b eta h1 => if b then A eta h1 else B eta h1) h fun s eta b R1 S1 g => by
  cases b with
  | true => exact ⟨s, eta, rfl, R1, S1, g⟩
  | false => exact ⟨s, eta, rfl, R1, S1, g⟩
end
structure TgOk (K : PySem.W.Frag) (ω : World) (g : TG) (G : W → IS → Option IS) (vs : List Nat) : Prop where
 run : ∀ (s : S4) (w : W) (v : V) (eta : IS) (σ : St) (eta' : IS), Rel K ω s → Rw K s w v → Sl K s eta σ → G w eta = some eta' →
  ∃ σ', Sl K s eta' σ' ∧ (∀ us : List Nat, (∀ i ∈ vs, i ∈ us) → wipe σ' us = wipe σ us) ∧ ∀ Q : St → Hp → Prop, Q σ' s.H → g v σ s.H Q
structure TgsOk (K : PySem.W.Frag) (ω : World) (g : TGs) (G : List W → IS → Option IS) (vs : List Nat) : Prop where
 run : ∀ (s : S4) (ws : List W) (xs : List V) (eta : IS) (σ : St) (eta' : IS), Rel K ω s → RwL K s ws xs → Sl K s eta σ → G ws eta = some eta' →
  ∃ σ', Sl K s eta' σ' ∧ (∀ us : List Nat, (∀ i ∈ vs, i ∈ us) → wipe σ' us = wipe σ us) ∧ ∀ Q : St → Hp → Prop, Q σ' s.H → g xs σ s.H Q
def gN (i : Nat) : W → IS → Option IS := fun w eta => some Yga
theorem wipe_get {σ : St} {j : Nat} : ∀ {us : List Nat}, j ∉ us → (wipe σ us)[j]? = σ[j]?
 | [], _ => rfl
 | u :: us, h => by
  simp only [List.mem_cons, not_or] at h
  unfold wipe
  rw [List.getElem?_set_ne (Ne.symm h.1)]
  exact wipe_get h.2
theorem wipe_in {σ : St} {j : Nat} : ∀ {us : List Nat}, j ∈ us → j < σ.length → (wipe σ us)[j]? = some none
 | u :: us, h, hl => by
  unfold wipe
  by_cases e : u = j
  ·subst e
   rw [List.getElem?_set_self (by rw [wipe_length]; exact hl)]
  ·rw [List.getElem?_set_ne e]
   rcases List.mem_cons.mp h with h | h
   ·exact absurd h.symm e
   ·exact wipe_in h hl
theorem wipe_set {σ : St} {i : Nat} {x : Option V} {us : List Nat} (h : i ∈ us) : wipe (σ.set i x) us = wipe σ us := by
 apply List.ext_getElem?
 intro j
 by_cases hj : j ∈ us
 ·by_cases hl : j < σ.length
  ·rw [wipe_in hj (by simpa using hl), wipe_in hj hl]
  ·rw [List.getElem?_eq_none Ygb, List.getElem?_eq_none Ygb]
 ·rw [wipe_get hj, wipe_get hj, List.getElem?_set_ne (fun e => hj (by rw [← e]; exact h))]
theorem zat {K : PySem.W.Frag} {ω : World} (i : Nat) : TgOk K ω (gName i) (gN i) [i] := ⟨fun s w v eta σ eta' R1 r S1 e => by
 simp only [gN, Option.some.injEq] at e
 subst e
 exact ⟨σ.set i (some v), S1.set i r, fun us h => wipe_set (h i Yae), fun Q q => q⟩⟩
def gsN : List W → IS → Option IS := fun ws eta => match ws with | [] => some eta | _ :: _ => none
def gsC (G : W → IS → Option IS) (Gs : List W → IS → Option IS) : List W → IS → Option IS := fun ws eta => match ws with
 | [] => none
 | w :: ws => (G w eta).bind fun eta' => Gs ws eta'
def gT (n : Nat) (Gs : List W → IS → Option IS) : W → IS → Option IS := fun w eta => match w with
 | .t (.tup ts) => if ts.length = n then Gs Yo eta else none
 | .t (.pr ts) => if ts.length = n then Gs Yo eta else none
 | _ => none
theorem tgs_nil {K : PySem.W.Frag} {ω : World} : TgsOk K ω gNil gsN [] := ⟨fun s ws xs eta σ eta' R1 r S1 e => by
 cases ws with
 | nil =>
  simp only [gsN, Option.some.injEq] at e
  subst e
  exact ⟨σ, S1, fun _ _ => rfl, fun Q q => ⟨r, q⟩⟩
 | cons _ _ => simp [gsN] at e⟩
theorem zcs {K : PySem.W.Frag} {ω : World} {g : TG} {gs : TGs} {G : W → IS → Option IS} {Gs : List W → IS → Option IS} {vs us : List Nat} (h1 : TgOk K ω g G vs) (h2 : TgsOk K ω gs Gs us) : TgsOk K ω (gCons g gs) (gsC G Gs) (vs ++ us) := ⟨fun s ws xs eta σ eta' R1 r S1 e => by
 cases ws with
 | nil => simp [gsC] at e
 | cons w ws =>
  simp only [gsC, Option.bind_eq_some_iff] at e
  obtain ⟨eta1, e1, e2⟩ := e
  obtain ⟨v, xr, ex, rv, rr⟩ := r
  obtain ⟨σ1, S2, w1, q1⟩ := h1.run s w v eta σ eta1 R1 rv S1 e1
  obtain ⟨σ2, S3, w2, q2⟩ := h2.run s ws xr eta1 σ1 eta' R1 rr S2 e2
  refine ⟨σ2, S3, fun u hu => ?_, fun Q q => ⟨v, xr, ex, q1 _ (q2 Q q)⟩⟩
  rw [w2 u fun i hi => hu i (List.mem_append_right _ hi), w1 u fun i hi => hu i (List.mem_append_left _ hi)]⟩
theorem tg_tup {K : PySem.W.Frag} {ω : World} {n : Nat} {gs : TGs} {Gs : List W → IS → Option IS} {vs : List Nat} (h : TgsOk K ω gs Gs vs) : TgOk K ω (gTup K n gs) (gT n Gs) vs := ⟨fun s w v eta σ eta' R1 r S1 e => by
 unfold gT at e
 split at e
 ·rename_i ts
  split at e
  ·rename_i hn
   obtain ⟨a, xs, ev, t, l⟩ : ∃ a vs, v = .ref a ∧ FTup K s.fz s.H a vs ∧ RfL K s.fz s.H ts vs := by simpa only [Rw, Rf] using r
   obtain ⟨σ', S2, w2, q2⟩ := h.run s Yo xs eta σ eta' R1 (RwL.of_trees.mpr l) S1 e
   exact ⟨σ', S2, w2, fun Q q => ⟨a, xs, ev, t.sq, by rw [← RfL.length l]; exact hn, q2 Q q⟩⟩
  ·cases e
 ·rename_i ts
  split at e
  ·rename_i hn
   obtain ⟨a, xs, ev, t, l⟩ : ∃ a vs, v = .ref a ∧ FPr s.fz s.H a vs ∧ RfL K s.fz s.H ts vs := by simpa only [Rw, Rf] using r
   obtain ⟨σ', S2, w2, q2⟩ := h.run s Yo xs eta σ eta' R1 (RwL.of_trees.mpr l) S1 e
   exact ⟨σ', S2, w2, fun Q q => ⟨a, xs, ev, t.sq, by rw [← RfL.length l]; exact hn, q2 Q q⟩⟩
  ·cases e
 ·cases e⟩
def mAsg (F : M W) (G : W → IS → Option IS) : M Fl := fun eta hp => (F eta hp).bind fun a h1 => match G a eta with | some e => .ok (.nx e) h1 | none => .bad
def mSet (i : Nat) (F : M W) : M Fl := fun eta hp => (F eta hp).bind fun a h1 => .ok (.nx Ygc) h1
section
variable {X : Cx} {Wx : WX} {e tg : Expr} {F : M W} {pos : Pos} {g : TG} {G : W → IS → Option IS} {vs : List Nat}
theorem za8 (i : Nat) {x : Str} {pos' : Pos} (hN : X.N.Nodup) (he : IE X Wx e F) (hi : X.N[i]? = some x := by rfl) (hx : Loc X.env.scope x := by first | exact Or.inl rfl | exact Or.inr rfl) (hs : swapsWith e (some (.Name x pos')) pos.line X.env = pure false := by rfl) (hf : X.fn x = true ∨ X.env.scope.names.lookup x = some .local := by first | exact .inl rfl | exact .inr rfl | assumption) :
  ISt X Wx (.Assign [.Name x pos'] e pos) (mSet i F) := PS.imp (ps_set hN hi hx he hs hf) fun D σ H h =>
 tM.bind1 (R := fun (y : V) (H1 : Hp) => D.nx (σ.set i (some y)) H1) (k := fun (a : W) eta hp => .ok (Fl.nx Ygc) hp) h fun s eta a b R1 S1 f1 g1 => Go.nx R1 (S1.set i f1) g1
end
/-- a, b = x, y: all sides first -/
def mPar (is : List Nat) (F : M (List W)) : M Fl := fun eta hp => (F eta hp).bind fun ws h1 => if ws.length = is.length then .ok (.nx ((is.zip ws).foldl Yg2 eta)) h1 else .bad
section
variable {X : Cx} {Wx : WX} {F : M (List W)} {pos : Pos}
theorem st_par2 {i j : Nat} {x y : Str} {a b : Expr} {px py pt : Pos} {kt k2 pt2} (hc : X.calm = true) (hN : X.N.Nodup) (ha : IA X Wx [a, b] F)
  (hw : swappedStores [.Tuple [.Name x px, .Name y py] kt pt] (.Tuple [a, b] k2 pt2) X.env = pure (some [x, y]) := by rfl) (hi : X.N[i]? = some x := by rfl) (hj : X.N[j]? = some y := by rfl) (hij : i ≠ j := by decide)
  (hx : X.env.scope.names.lookup x = some .local := by rfl) (hy : X.env.scope.names.lookup y = some .local := by rfl)
  (hs : swapsWithSole [.Tuple [.Name x px, .Name y py] kt pt] (.Tuple [a, b] k2 pt2) pos.line X.env = pure false := by rfl) :
  ISt X Wx (.Assign [.Tuple [.Name x px, .Name y py] kt pt] (.Tuple [a, b] k2 pt2) pos) (mPar [i, j] F) := PS.imp (ps_par hc hN hi hj hij hx hy ha hw hs) fun D σ H h =>
 tM.bind1 (R := fun (vs : List V) (H1 : Hp) => ∃ v w, vs = [v, w] ∧ D.nx ((σ.set i (some v)).set j (some w)) H1) (k := fun (ws : List W) eta hp => if ws.length = [i, j].length then .ok (Fl.nx (([i, j].zip ws).foldl Yg2 eta)) hp else .bad) h fun s eta ws vs R1 S1 f1 g1 => by
  match ws, f1, g1 with
  | [w1, w2], ⟨v1, r1, e1, q1, v2, r2, e2, q2, e3⟩, g1 =>
   subst e3 e2 e1
   exact ⟨v1, v2, rfl, Go.nx R1 ((S1.set i q1).set j q2) g1⟩
  | [], _, g1 => exact g1.elim
  | [_], _, g1 => exact g1.elim
  | _ :: _ :: _ :: _, _, g1 =>
   rw [if_neg Yae] at g1
   exact g1.elim
end
/-- x op= e -/
def mAug (i : Nat) (f : Op2) (F : M W) : M Fl := fun eta hp => match eta[i]? with
 | some (some x) => (F eta hp).bind fun y h1 => (f x y h1).bind fun z h2 => .ok (.nx (eta.set i (some z))) h2
 | _ => .bad
def SrcF (K : PySem.W.Frag) (ω : World) (s : S4) (ws : List W) (J : It) : Prop := ∀ s', Aft s s' → Rel K ω s' → ∀ i : Nat,
 (∀ w, ws[i]? = some w → J.go i s'.H ∧ ∀ x H', J.yld i s'.H x H' → ∃ s2 : S4, s2.H = H' ∧ s2.hp = s'.hp ∧ Aft s' s2 ∧ Rel K ω s2 ∧ Rw K s2 w x) ∧ (i = ws.length → J.stop i s'.H)
def II (X : Cx) (Wx : WX) (tg e : Expr) (F : M (List W)) : Prop := PI X tg e (tM X.K X.w Wx (SrcF X.K X.w) F)
def forL (G : W → IS → Option IS) (B : M Fl) : List W → IS → IH → Res Fl
 | [], eta, hp => .ok Ydu hp
 | w :: ws, eta, hp => match G w eta with
  | none => .bad
  | some eta1 => (B eta1 hp).bind fun f h2 => match f with
   | .nx e => forL G B ws e h2
   | .ct e => forL G B ws e h2
   | .bk e => .ok (.nx e) h2
   | .rt w => .ok (.rt w) h2
def mFor (Fi : M (List W)) (G : W → IS → Option IS) (B : M Fl) : M Fl := fun eta hp => (Fi eta hp).bind fun ws h1 => forL G B ws eta h1
section
variable {X : Cx} {Wx : WX} {tg iter : Expr} {Fi : M (List W)} {pos : Pos} {g : TG} {G : W → IS → Option IS} {vs : List Nat} {body : List Stmt} {B : M Fl}
theorem st_for (hp : PassesOwn Ybc X.A X.env X.xe) (hc : X.calm = true) (hi : II X Wx tg iter Fi) (hg : PG X tg g) (ok : TgOk X.K X.w g G vs) (hb : ISs X Wx body B)
  (hs : ∀ x, foldedSetIterable iter X.env x = pure x := by intro _; rfl) : ISt X Wx (.For tg iter body [] pos) (mFor Fi G B) := PS.imp (ps_for hp hc hi hg hb hs) fun D σ H h =>
 tM.bind1 (R := fun (J : It) (H1 : Hp) => ∃ Wv : Nat → Nat → St → Hp → Prop, (∃ m, Wv 0 m σ H1) ∧ ∀ i m σ H, Wv i m σ H →
   (J.stop i H ∧ D.nx σ H) ∨ (J.go i H ∧ ∃ N : St → Hp → Prop, (∀ σ' H', N σ' H' → ∃ m', m' < m ∧ Wv (i + 1) m' σ' H') ∧ ∀ x H', J.yld i H x H' → g x σ H' fun σ2 H2 => tS X.K X.w Wx B { D with nx := N, ct := N, bk := D.nx } σ2 H2))
  (k := fun (ws : List W) eta hp => forL G B ws eta hp) h fun s eta ws J R1 S1 src g1 => by
  refine ⟨fun i m σ H => m = ws.length - i ∧ i ≤ ws.length ∧ ∃ s' eta', s'.H = H ∧ Aft s s' ∧ Rel X.K X.w s' ∧ Sl X.K s' eta' σ ∧ Go X.K X.w Wx (RFl X.K) s' (forL G B (ws.drop i) eta' s'.hp) (endQ D), ⟨ws.length, by simp, Nat.zero_le _, s, eta, rfl, Aft.refl s, R1, S1, by simpa using g1⟩, ?_⟩
  rintro i m σ H ⟨rfl, hi, s', eta', rfl, A1, R2, S2, g2⟩
  obtain ⟨q1, q2⟩ := src s' A1 R2 i
  by_cases hlt : i < ws.length
  ·obtain ⟨go, yl⟩ := q1 ws[i] (List.getElem?_eq_getElem hlt)
   refine .inr ⟨go, fun σ' H' => i + 1 ≤ ws.length ∧ ∃ s2 eta2, s2.H = H' ∧ Aft s s2 ∧ Rel X.K X.w s2 ∧ Sl X.K s2 eta2 σ' ∧ Go X.K X.w Wx (RFl X.K) s2 (forL G B (ws.drop (i + 1)) eta2 s2.hp) (endQ D), fun σ' H' n => ⟨ws.length - (i + 1), by omega, rfl, n⟩, fun x H' y => ?_⟩
   obtain ⟨s3, e3, hp3, A3, R3, rw3⟩ := yl x H' y
   subst e3
   rw [List.drop_eq_getElem_cons hlt] at g2
   simp only [forL] at g2
   cases hG : G ws[i] eta' with
   | none => simp only [hG] at g2; exact g2.elim
   | some eta1 =>
    simp only [hG] at g2
    obtain ⟨σ4, S4', _, q4⟩ := ok.run s3 ws[i] x eta' σ eta1 R3 rw3 (S2.aft A3 R2) hG
    refine q4 _ ⟨s3, eta1, rfl, R3, S4', ?_⟩
    have g3 := Go.aft g2 A3
    rw [← hp3] at g3
    refine Go.bind g3 fun f fv s5 A5 R5 f5 _ g5 => ?_
    cases f <;> cases fv <;> first | exact f5.elim | skip
    ·exact ⟨hlt, s5, _, rfl, (A1.trans A3).trans A5, R5, f5, g5⟩
    ·exact Go.rt (D := D) R5 f5 g5
    ·exact Go.nx (D := D) R5 f5 g5
    ·exact ⟨hlt, s5, _, rfl, (A1.trans A3).trans A5, R5, f5, g5⟩
  ·have e : i = ws.length := by omega
   subst e
   refine .inl ⟨q2 rfl, ?_⟩
   rw [List.drop_length] at g2
   exact Go.nx R2 S2 g2
end
def zdu (T : M Bool) (B : M Fl) : Nat → IS → IH → Res Fl
 | 0, _, _ => .bad
 | n + 1, eta, hp => (T eta hp).bind fun b h1 => if b then (B eta h1).bind fun f h2 => match f with
   | .nx e => zdu T B n e h2
   | .ct e => zdu T B n e h2
   | .bk e => .ok (.nx e) h2
   | .rt w => .ok (.rt w) h2
  else .ok Ydu h1
def mWhile (n : Nat) (T : M Bool) (B : M Fl) : M Fl := fun eta hp => zdu T B n eta hp
section
variable {X : Cx} {Wx : WX} {c : Expr} {T : M Bool} {pos : Pos} {body : List Stmt} {B : M Fl}
theorem st_while (n : Nat) (hp : PassesOwn Ybc X.A X.env X.xe) (hc : IT X Wx c T) (hb : ISs X Wx body B) : ISt X Wx (.While c body [] pos) (mWhile n T B) := PS.imp (ps_while hp hc hb) fun D σ H h => by
 obtain ⟨s, eta, e1, R1, S1, g⟩ := h
 refine ⟨fun m σ H => ∃ s' eta', s'.H = H ∧ Rel X.K X.w s' ∧ Sl X.K s' eta' σ ∧ Go X.K X.w Wx (RFl X.K) s' (zdu T B m eta' s'.hp) (endQ D), ⟨n, s, eta, e1, R1, S1, g⟩, ?_⟩
 rintro m σ H ⟨s', eta', rfl, R2, S2, g2⟩
 cases m with
 | zero => exact g2.elim
 | succ m =>
  simp only [zdu] at g2
  refine ⟨s', eta', rfl, R2, S2, Go.bind g2 fun b bv s3 A3 R3 f3 _ g3 => ?_⟩
  subst f3
  cases b with
  | false => exact Go.nx R3 (S2.aft A3 R2) g3
  | true =>
   simp only [if_true] at g3
   refine ⟨fun σ' H' => ∃ s' eta', s'.H = H' ∧ Rel X.K X.w s' ∧ Sl X.K s' eta' σ' ∧ Go X.K X.w Wx (RFl X.K) s' (zdu T B m eta' s'.hp) (endQ D), fun σ' H' n => ⟨m, Nat.lt_succ_self m, n⟩, ?_⟩
   refine ⟨s3, eta', rfl, R3, S2.aft A3 R2, Go.bind g3 fun f fv s5 A5 R5 f5 _ g5 => ?_⟩
   cases f <;> cases fv <;> first | exact f5.elim | skip
   ·exact ⟨s5, _, rfl, R5, f5, g5⟩
   ·exact Go.rt (D := D) R5 f5 g5
   ·exact Go.nx (D := D) R5 f5 g5
   ·exact ⟨s5, _, rfl, R5, f5, g5⟩
end
def W0 : WX := fun _ _ _ _ => False
def noEr {A : Type} (r : Res A) : Res A := match r with
 | .er _ _ _ => .bad
 | r => r
theorem noEr_bind {A B : Type} (r : Res A) (k : A → IH → Res B) : noEr (r.bind k) = (noEr r).bind fun a h => noEr (k a h) := by cases r <;> rfl
theorem Go.noEr {A B : Type} {K : PySem.W.Frag} {ω : World} {Wx Wx' : WX} {Fam : S4 → A → B → Prop} {s : S4} {r : Res A} {Q : B → Hp → Prop} (g : Go K ω Wx Fam s (noEr r) Q) : Go K ω Wx' Fam s r Q := by
 cases r with
 | ok a h => exact g
 | er e eta h => exact g.elim
 | bad => exact g
def turnL (G : W → IS → Option IS) (T : M Bool) (E : M W) (eta : IS) (w : W) (hp : IH) : Res (Option W) := match G w eta with
 | none => .bad
 | some eta1 => (T eta1 hp).bind fun b h1 => if b then (E eta1 h1).bind fun y h2 => .ok (some y) h2 else .ok none h1
def zc3 (G : W → IS → Option IS) (T : M Bool) (E : M W) (eta : IS) : List W → IH → Res (List W)
 | [], hp => .ok [] hp
 | w :: ws, hp => (noEr (turnL G T E eta w hp)).bind fun o h1 => (zc3 G T E eta ws h1).bind fun r h2 => .ok (match o with | some y => y :: r | none => r) h2
def wipeI (eta : IS) (vs : List Nat) : IS := vs.foldr (fun v e => e.set v none) eta
/-- fin: zaq (a tree), newL (a live list) -/
def zba (fin : OpN) (Fi : M (List W)) (G : W → IS → Option IS) (T : M Bool) (E : M W) (vs : List Nat) : M W := fun eta hp => (Fi eta hp).bind fun ws h1 => if ws.length ≤ 16777216 then (zc3 G T E (wipeI eta vs) ws h1).bind fun r h2 => fin r h2 else .bad
/-- an untracked-by-us object is changed (a comprehension's list while it is made) -/
def S4.setD (s : S4) (D : Addr) (o : HO) : S4 := ⟨s.rho, s.fz, s.hp, upd s.H D o⟩
section
variable {K : PySem.W.Frag} {ω : World}
mutual
theorem Rf.congr {fz fz' : Addr → Prop} {H H' : Hp} (hf : ∀ a, fz a → fz' a) (k : ∀ a, fz a → H' a = H a) : ∀ (x : T) (v : V), Rf K fz H x v → Rf K fz' H' x v
 | .non, _, h => by simpa [Rf] using h
 | .bl _, _, h => by simpa [Rf] using h
 | .int _, _, h => by simpa [Rf] using h
 | .str _, _, h => by simpa [Rf] using h
 | .ty _, _, h => by simpa [Rf] using h
 | .cls _, _, h => by simpa [Rf] using h
 | .exc _ _ _, _, h => by simp [Rf] at h
 | .tup xs, v, h => by
  simp only [Rf] at h ⊢
  obtain ⟨a, vs, e, t, l⟩ := h
  refine ⟨a, vs, e, ?_, RfL.congr hf k xs vs l⟩
  rcases t with ⟨f, o, t, d⟩ | t
  ·exact .inl ⟨hf a f, o, (k a f).trans t, d⟩
  ·exact .inr t
 | .pr xs, v, h => by
  simp only [Rf] at h ⊢
  obtain ⟨a, vs, e, t, l⟩ := h
  exact ⟨a, vs, e, ⟨hf a t.1, (k a t.1).trans t.2⟩, RfL.congr hf k xs vs l⟩
 | .dit ks xs, v, h => by
  simp only [Rf] at h ⊢
  obtain ⟨a, vs, e, t, n, l⟩ := h
  exact ⟨a, vs, e, ⟨hf a t.1, (k a t.1).trans t.2⟩, n, RfL.congr hf k xs vs l⟩
 | .lst xs, v, h => by
  simp only [Rf] at h ⊢
  obtain ⟨a, vs, e, t, l⟩ := h
  exact ⟨a, vs, e, ⟨hf a t.1, (k a t.1).trans t.2⟩, RfL.congr hf k xs vs l⟩
 | .scr xs, v, h => by
  simp only [Rf] at h ⊢
  obtain ⟨a, vs, e, t, l⟩ := h
  exact ⟨a, vs, e, t.imp (fun t => ⟨hf a t.1, let ⟨o, u⟩ := t.2; ⟨o, (k a t.1).trans u⟩⟩) id, RfL.congr hf k xs vs l⟩
 | .dic ks xs, v, h => by
  simp only [Rf] at h ⊢
  obtain ⟨a, vs, e, t, n, l⟩ := h
  exact ⟨a, vs, e, ⟨hf a t.1, let ⟨o, u⟩ := t.2; ⟨o, (k a t.1).trans u⟩⟩, n, RfL.congr hf k xs vs l⟩
 | .ins c ns xs, v, h => by
  simp only [Rf] at h ⊢
  obtain ⟨a, C, vs, e, cn, t, n, l⟩ := h
  exact ⟨a, C, vs, e, cn, ⟨hf a t.1, let ⟨o, u⟩ := t.2; ⟨o, (k a t.1).trans u⟩⟩, n, RfL.congr hf k xs vs l⟩
theorem RfL.congr {fz fz' : Addr → Prop} {H H' : Hp} (hf : ∀ a, fz a → fz' a) (k : ∀ a, fz a → H' a = H a) : ∀ (xs : List T) (vs : List V), RfL K fz H xs vs → RfL K fz' H' xs vs
 | [], _, h => by simpa [RfL] using h
 | x :: xs, vs, h => by
  simp only [RfL] at h ⊢
  obtain ⟨v, r, e, a, b⟩ := h
  exact ⟨v, r, e, Rf.congr hf k x v a, RfL.congr hf k xs r b⟩
end
theorem Rw.congr {s s' : S4} (hr : s'.rho = s.rho) (hf : ∀ a, s.fz a → s'.fz a) (k : ∀ a, s.fz a → s'.H a = s.H a) {w : W} {v : V} (h : Rw K s w v) : Rw K s' w v := by
 cases w with
 | t x => exact Rf.congr hf k x v h
 | r i => obtain ⟨a, e1, e2⟩ := h; exact ⟨a, by rw [hr]; exact e1, e2⟩
theorem RwL.congr {s s' : S4} (hr : s'.rho = s.rho) (hf : ∀ a, s.fz a → s'.fz a) (k : ∀ a, s.fz a → s'.H a = s.H a) : ∀ {ws : List W} {vs : List V}, RwL K s ws vs → RwL K s' ws vs
 | [], _, h => h
 | x :: xs, vs, h => by
  obtain ⟨v, r, e, a, b⟩ := h
  exact ⟨v, r, e, a.congr hr hf k, RwL.congr hr hf k b⟩
theorem RwK.congr {s s' : S4} (hr : s'.rho = s.rho) (hf : ∀ a, s.fz a → s'.fz a) (k : ∀ a, s.fz a → s'.H a = s.H a) : ∀ {ws : List (Key × W)} {vs : List (Key × V)}, RwK K s ws vs → RwK K s' ws vs
 | [], _, h => h
 | x :: xs, vs, h => by
  obtain ⟨v, r, e, a, b⟩ := h
  exact ⟨v, r, e, a.congr hr hf k, RwK.congr hr hf k b⟩
theorem RwF.congr {s s' : S4} (hr : s'.rho = s.rho) (hf : ∀ a, s.fz a → s'.fz a) (k : ∀ a, s.fz a → s'.H a = s.H a) : ∀ {ws : List (Str × W)} {vs : List (Str × V)}, RwF K s ws vs → RwF K s' ws vs
 | [], _, h => h
 | x :: xs, vs, h => by
  obtain ⟨v, r, e, a, b⟩ := h
  exact ⟨v, r, e, a.congr hr hf k, RwF.congr hr hf k b⟩
theorem RwD.congr {s s' : S4} (hr : s'.rho = s.rho) (hf : ∀ a, s.fz a → s'.fz a) (k : ∀ a, s.fz a → s'.H a = s.H a) : ∀ {ws : List (T × W)} {vs : List (NestedKey × Addr × V)}, RwD K s ws vs → RwD K s' ws vs
 | [], _, h => h
 | x :: xs, vs, h => by
  obtain ⟨q, b, v, r, e, h1, h2, h3, h4, h5⟩ := h
  exact ⟨q, b, v, r, e, h1, h2, Rf.congr hf k _ _ h3, h4.congr hr hf k, RwD.congr hr hf k h5⟩
theorem CellOk.congr {s s' : S4} (hr : s'.rho = s.rho) (hf : ∀ a, s.fz a → s'.fz a) (k : ∀ a, s.fz a → s'.H a = s.H a) {a : Addr} {c : Cell} {o : Option HO} (h : CellOk K ω s a c o) : CellOk K ω s' a c o := by
 cases c with
 | lst ws => obtain ⟨vs, e, l⟩ := h; exact ⟨vs, e, l.congr hr hf k⟩
 | dic kvs => obtain ⟨vs, e, l⟩ := h; exact ⟨vs, e, l.congr hr hf k⟩
 | ins c fs => obtain ⟨C, dx, vs, e, cn, l⟩ := h; exact ⟨C, dx, vs, e, cn, l.congr hr hf k⟩
 | dit kvs => obtain ⟨vs, e, l⟩ := h; exact ⟨vs, e, l.congr hr hf k⟩
 | tpl ws => obtain ⟨ob, vs, e, d, l⟩ := h; exact ⟨ob, vs, e, d, l.congr hr hf k⟩
variable {s s' : S4} {D : Addr} {o : HO}
theorem setD_k (nf : ¬ s.fz D) : ∀ a, s.fz a → (s.setD D o).H a = s.H a := fun a f => upd_ne fun z => nf (z ▸ f)
theorem rel_setD (R : Rel K ω s) (nr : D ∉ s.rho) (nf : ¬ s.fz D) : Rel K ω (s.setD D o) := by
 have tr : ∀ a, s.H a ≠ none → (s.setD D o).H a ≠ none := fun a h => by
  show upd s.H D o a ≠ none
  by_cases q : a = D
  ·rw [q, upd_same]; intro z; cases z
  ·rw [upd_ne q]; exact h
 refine ⟨R.len, R.nd, fun a m => tr a (R.trk a m), fun a f => tr a (R.ftrk a f), R.fz, fun i c a e1 e2 => ?_⟩
 have ne : a ≠ D := fun z => nr (z ▸ List.mem_of_getElem? e2)
 show CellOk K ω (s.setD D o) a c (upd s.H D o a)
 rw [upd_ne ne]
 exact CellOk.congr (s := s) (s' := s.setD D o) rfl (fun _ f => f) (setD_k nf) (R.cell i c a e1 e2)
/-- what is known of D stays behind a run -/
theorem Aft.away (A : Aft s s') (h : s.H D = some o) (nr : D ∉ s.rho) (nf : ¬ s.fz D) : s'.H D = some o ∧ D ∉ s'.rho ∧ ¬ s'.fz D := by
 have nl : ¬ Live s D := fun ⟨i, c, _, e⟩ => nr (List.mem_of_getElem? e)
 refine ⟨A.keep D o h nl, fun m => ?_, fun f => ?_⟩
 ·obtain ⟨ex, e, n⟩ := A.pre
  rw [e] at m
  rcases List.mem_append.mp m with m | m
  ·exact nr m
  ·rw [n D m] at h; cases h
 ·rcases A.fnew D f with f | f | f
  ·exact nf f
  ·rw [f] at h; cases h
  ·exact nl f
theorem Aft.setD {s0 : S4} (A : Aft s0 s) (h0 : s0.H D = none) {o' : HO} : Aft s0 (s.setD D o') := by
 refine ⟨A.pre, A.fz, fun a u e nl => ?_, A.fnew, A.live, fun a h => ?_⟩
 ·show upd s.H D o' a = some u
  rw [upd_ne (ne_of_none e h0)]; exact A.keep a u e nl
 ·show upd s.H D o' a ≠ none
  by_cases q : a = D
  ·rw [q, upd_same]; intro z; cases z
  ·rw [upd_ne q]; exact A.trk a h
theorem Go.bind0 {Wx : WX} {A B C E : Type} {Fam : S4 → A → B → Prop} {Gam : S4 → C → E → Prop} {s0 s : S4} {r : Res A} {k : A → IH → Res C} {Q : E → Hp → Prop} {R : B → Hp → Prop} (g : Go K ω Wx Gam s0 (r.bind k) Q) (A0 : Aft s0 s)
  (h : ∀ a b s', Aft s s' → Rel K ω s' → Fam s' a b → Go K ω Wx Gam s0 (k a s'.hp) Q → R b s'.H) : Go K ω Wx Fam s r R := by
 cases r with
 | ok x hp =>
  intro b s2 h1 h2 h3 h4
  subst h1
  exact h x b s2 h2 h3 h4 g
 | er e eta hp => exact Go.aft (Fam := Fam) (r := .er e eta hp) (Q := R) (show Go K ω Wx Fam s0 (.er e eta hp) R from g) A0
 | bad => exact g
end
/-- what the end of a comprehension asks: the list at D is handed on -/
def FinOk (K : PySem.W.Frag) (ω : World) (Wx : WX) (fin : OpN) : Prop := ∀ (s0 s : S4) (ws : List W) (vs : List V) (D : Addr) (Q : VK), Aft s0 s → Rel K ω s → s0.H D = none → D ∉ s.rho → ¬ s.fz D → s.H D = some (.lst vs) → RwL K s ws vs → Go K ω Wx (Rw K) s0 (fin ws s.hp) Q →
 Q (.ref D) s.H
theorem za5 {K : PySem.W.Frag} {ω : World} {Wx : WX} : FinOk K ω Wx zaq := by
 intro s0 s ws vs D Q A R h0 nr nf hD l g
 unfold zaq at g
 split at g
 ·rename_i ts ht
  split at g
  ·rename_i hz
   rw [zb4 ht] at l
   have R2 : Rel K ω ⟨s.rho, fun a => s.fz a ∨ a = D, s.hp, s.H⟩ := by
    refine ⟨R.len, R.nd, R.trk, fun a f => ?_, fun a l f => ?_, fun i c a e1 e2 => CellOk.congr (s := s) (s' := ⟨s.rho, fun a => s.fz a ∨ a = D, s.hp, s.H⟩) rfl (fun _ f => Or.inl f) Yai (R.cell i c a e1 e2)⟩
    ·rcases f with f | f
     ·exact R.ftrk a f
     ·rw [f, hD]; intro z; cases z
    ·rcases f with f | f
     ·exact R.fz a l f
     ·obtain ⟨i, c, _, e⟩ := l
      exact nr (f ▸ List.mem_of_getElem? e)
   refine g (.ref D) ⟨s.rho, fun a => s.fz a ∨ a = D, s.hp, s.H⟩ rfl ⟨A.pre, fun a f => .inl (A.fz a f), A.keep, fun a f => ?_, A.live, A.trk⟩ R2 ?_
   ·rcases f with f | f
    ·exact A.fnew a f
    ·exact .inr (.inl (by rw [f]; exact h0))
   ·simp only [Rw, Rf]
    exact ⟨D, vs, rfl, ⟨.inr rfl, hD⟩, RfL.congr (fun _ f => .inl f) Yai _ _ Yd7⟩
  ·exact g.elim
 ·exact g.elim
section
variable {X : Cx} {Wx : WX} {elt tg iter : Expr} {Fi : M (List W)} {pos : Pos} {g : TG} {G : W → IS → Option IS} {vs : List Nat} {T : M Bool} {E : M W} {fin : OpN} {own : List (Str × Nat)}
theorem t_comp (us : List Nat) (ok : TgOk X.K X.w g G vs) (hv : ∀ i ∈ vs, i ∈ us) (hf : FinOk X.K X.w Wx fin) : ∀ σ H Q, tE X.K X.w Wx (zba fin Fi G T E us) σ H Q →
  tLc (tM X.K X.w Wx (SrcF X.K X.w) Fi) g (tT X.K X.w W0 T) (tE X.K X.w W0 E) us σ H Q := fun σ H Q h =>
 tM.bind1 (R := fun (J : It) (H1 : Hp) => ∀ D, H1 D = none → ∃ Wv : Nat → Nat → Hp → Prop, (∃ m, Wv 0 m (upd H1 D (.lst []))) ∧ ∀ i m H, Wv i m H →
   (J.stop i H ∧ Q (.ref D) H) ∨ (J.go i H ∧ ∃ Nx : Hp → Prop, (∀ H', Nx H' → ∃ m', m' < m ∧ Wv (i + 1) m' H') ∧ ∀ x H', J.yld i H x H' → g x (wipe σ us) H' fun σ2 H2 => wipe σ2 us = wipe σ us ∧ tT X.K X.w W0 T σ2 H2 fun b H3 =>
    if b = true then tE X.K X.w W0 E σ2 H3 fun y H4 => ∃ acc, H4 D = some (.lst acc) ∧ acc.length < sizeLine ∧ Nx (upd H4 D (.lst (acc ++ [y]))) else Nx H3))
  (k := fun (ws : List W) eta hp => if ws.length ≤ 16777216 then (zc3 G T E (wipeI eta us) ws hp).bind fun r h2 => fin r h2 else .bad) h fun s0 eta ws J R0 S0 src g0 D hD => by
  split at g0
  ·rename_i hz
   have hz' : ws.length ≤ sizeLine := by rw [sizeLine_eq]; exact hz
   have hw : Sl X.K s0 (wipeI eta us) (wipe σ us) := S0.wipe us
   refine ⟨fun i m H => m = ws.length - i ∧ i ≤ ws.length ∧ ∃ (s : S4) (acc : List W) (xs : List V), s.H = H ∧ Aft s0 s ∧ Rel X.K X.w s ∧ D ∉ s.rho ∧ ¬ s.fz D ∧ s.H D = some (.lst xs) ∧ RwL X.K s acc xs ∧ acc.length ≤ i ∧
     Go X.K X.w Wx (Rw X.K) s0 ((zc3 G T E (wipeI eta us) (ws.drop i) s.hp).bind fun r h => fin (acc ++ r) h) Q, ⟨ws.length, by simp, Nat.zero_le _, s0.setD D (.lst []), [], [], rfl, (Aft.refl s0).setD hD, rel_setD R0 (R0.fresh hD).1 (R0.fresh hD).2, (R0.fresh hD).1, (R0.fresh hD).2, upd_same, rfl, Nat.le_refl _, g0⟩, ?_⟩
   rintro i m H ⟨rfl, hi, s, acc, xs, rfl, A1, R1, nr, nf, hDx, l1, hl1, g1⟩
   obtain ⟨q1, q2⟩ := src s A1 R1 i
   by_cases hlt : i < ws.length
   ·obtain ⟨go, yl⟩ := q1 ws[i] (List.getElem?_eq_getElem hlt)
    refine .inr ⟨go, fun H' => i + 1 ≤ ws.length ∧ ∃ (s : S4) (acc : List W) (xs : List V), s.H = H' ∧ Aft s0 s ∧ Rel X.K X.w s ∧ D ∉ s.rho ∧ ¬ s.fz D ∧ s.H D = some (.lst xs) ∧ RwL X.K s acc xs ∧ acc.length ≤ i + 1 ∧
     Go X.K X.w Wx (Rw X.K) s0 ((zc3 G T E (wipeI eta us) (ws.drop (i + 1)) s.hp).bind fun r h => fin (acc ++ r) h) Q, fun H' n => ⟨ws.length - (i + 1), by omega, rfl, n⟩, fun x H' y => ?_⟩
    obtain ⟨s3, e3, hp3, A3, R3, rw3⟩ := yl x H' y
    subst e3
    obtain ⟨hD3, nr3, nf3⟩ := A3.away hDx nr nf
    have l3 := RwL.aft A3 R1 _ _ l1
    have A03 := A1.trans A3
    rw [List.drop_eq_getElem_cons hlt] at g1
    rw [← hp3] at g1
    simp only [zc3, Res.bind_assoc, turnL] at g1
    cases hG : G ws[i] (wipeI eta us) with
    | none => simp only [hG, noEr] at g1; exact g1.elim
    | some eta1 =>
     simp only [hG, noEr_bind, Res.bind_assoc] at g1
     obtain ⟨σ2, S2, w2, q4⟩ := ok.run s3 ws[i] x (wipeI eta us) (wipe σ us) eta1 R3 rw3 ((hw.aft A03 R0)) hG
     have wi : wipe (wipe σ us) us = wipe σ us := by
      apply List.ext_getElem?
      intro j
      by_cases hj : j ∈ us
      ·by_cases hl : j < σ.length
       ·rw [wipe_in hj (by rw [wipe_length]; exact hl), wipe_in hj hl]
       ·rw [List.getElem?_eq_none (by rw [wipe_length, wipe_length]; simpa using hl), List.getElem?_eq_none Ygb]
      ·rw [wipe_get hj]
     refine q4 _ ⟨(w2 us hv).trans wi, s3, eta1, rfl, R3, S2, Go.noEr (Go.bind0 g1 A03 fun b bv s4 A4 R4 f4 g4 => ?_)⟩
     subst f4
     obtain ⟨hD4, nr4, nf4⟩ := A4.away hD3 nr3 nf3
     have l4 := RwL.aft A4 R3 _ _ l3
     have A04 := A03.trans A4
     cases b with
     | false =>
      simp only [Bool.false_eq_true, if_false, noEr, Res.bind] at g4
      rw [if_neg Bool.false_ne_true]
      exact ⟨hlt, s4, acc, xs, rfl, A04, R4, nr4, nf4, hD4, l4, by omega, g4⟩
     | true =>
      simp only [if_true, noEr_bind, Res.bind_assoc] at g4
      rw [if_pos rfl]
      refine ⟨s4, eta1, rfl, R4, S2.aft A4 R3, Go.noEr (Go.bind0 g4 A04 fun yw yv s5 A5 R5 f5 g5 => ?_)⟩
      obtain ⟨hD5, nr5, nf5⟩ := A5.away hD4 nr4 nf4
      have l5 := RwL.aft A5 R4 _ _ l4
      have A05 := A04.trans A5
      refine ⟨xs, hD5, by rw [← RwL.length l5]; omega, hlt, s5.setD D (.lst (xs ++ [yv])), acc ++ [yw], xs ++ [yv], rfl, A05.setD hD, rel_setD R5 nr5 nf5, nr5, nf5, upd_same, ?_, by simp; omega, ?_⟩
      ·exact RwL.append (RwL.congr (s := s5) (s' := s5.setD D _) rfl (fun _ f => f) (setD_k nf5) l5) ⟨yv, [], rfl, Rw.congr (s := s5) (s' := s5.setD D _) rfl (fun _ f => f) (setD_k nf5) f5, rfl⟩
      ·simp only [noEr, Res.bind] at g5
       have e : ∀ (r : Res (List W)), (r.bind fun r h2 => (Res.ok (yw :: r) h2).bind fun r h => fin (acc ++ r) h) = (r.bind fun r h => fin ((acc ++ [yw]) ++ r) h) := fun r => by cases r <;> simp [Res.bind]
       have e2 := e (zc3 G T E (wipeI eta us) (ws.drop (i + 1)) s5.hp)
       exact e2 ▸ g5
   ·have e : i = ws.length := by omega
    subst e
    refine .inl ⟨q2 rfl, ?_⟩
    rw [List.drop_length] at g1
    simp only [zc3, Res.bind, List.append_nil] at g1
    exact hf s0 s acc xs D Q A1 R1 hD nr nf hDx l1 g1
  ·exact g0.elim
end
end Mir
namespace Mir
open PySem PySem.Spec L2
open PyProof.Rows hiding St
structure FnG (P : Program) (w : World) (K : PySem.W.Frag) (mg : Str → Option Value) (base : Heap) (CX : CXT) (k : Nat) (f : Addr) (fd : FuncData) (ps : List Str) (sp : Sp) : Prop where
 len : ∀ vs H Q E, sp vs H Q E → vs.length = ps.length
 run : ∀ (A : Around) (outer : List Env) (s : Shared) (H : Hp) (args : Args) (us : List Value) (vs : List V) (Q : VK) (E : XK), Room k A → A.guards = some [] → Env0 P w K mg base A outer s H → BindsTo s fd args (ps.zip us) → Vals vs us →
  sp vs H Q E → codeAny Ydl A (.call (.ref f) args) (CR CX outer P w H s Q E) s
section
variable {P : Program} {w : World} {K : PySem.W.Frag} {mg : Str → Option Value} {base : Heap} {CX : CXT} {f : Addr} {fd : FuncData} {ps : List Str} {sp : Sp}
theorem FnG.mono {j k : Nat} (F : FnG P w K mg base CX j f fd ps sp) (h : j ≤ k) : FnG P w K mg base CX k f fd ps sp :=
 ⟨F.len, fun A outer s H args us vs Q E hr hg => F.run A outer s H args us vs Q E (hr.mono h) hg⟩
/-- a def by its body -/
theorem Fun.okG {k : Nat} {x qual : Str} {st : Stmt} {N : List Str} {dvs : List V} {kws : List Yc2} (F : FunD K x qual (defArgs st) Ygv Ybh dvs kws f fd) (S : FnScope N ps Ybh) (len : ∀ vs H Q E, sp vs H Q E → vs.length = ps.length)
  (hb : ∀ (cdv : Value) (A : Around) (outer : List Env) (s : Shared) (H : Hp) (vs : List V) (Q : VK) (E : XK), Room k Ya9 → A.guards = some [] → sp vs H Q E →
   ∃ t, PSs Ydv Ygv t ∧ t { nx := fun _ H' => Q .non H', rt := Q } (L2.start N vs) H) : FnG P w K mg base CX (k + 1) f fd ps sp := by
 obtain ⟨oc, od, dV, kV, doc, pm, an, cdv, ct, osl, rfl, lk, hcd, _, _⟩ := F.ex
 refine ⟨len, fun A outer s H args us vs Q E hr hgd e0 hbd r hsp => ?_⟩
 have hl := len _ _ _ _ hsp
 have keep : ∀ b o, base.get? b = some o → s.heap.get? b = some o := fun b o e => (e0.bs b o e).1
 have KX : K.In s.heap := e0.mod.kin.keeps keep
 have bound : ∀ y ∈ ps.zip us, (defScope st).names.lookup y.1 = some .local ∨ ((defScope st).names.lookup y.1 = some .cell ∧ ((cellsFrom Yaz (defScope st).names []).lookup y.1).isSome = true) := by
  rintro ⟨n, v⟩ hy
  refine (S.par n (List.of_mem_zip hy).1).imp id fun q => ⟨q, ?_⟩
  exact PySem.W.cellsFrom_some _ _ _ (.inl q)
 refine codeAny_call_function hr.depth (KX _ _ lk) rfl S.co S.gen rfl (PySem.W.codeRec_of KX hcd) (hbd _ _ _ _ ?_)
 refine wpAny_newFunctionEnv_cells S.kind bound ?_
 rintro env rfl s1 x
 refine ⟨(e0.mod.nolimit.keeps keep).keeps x.toInCall.keep, codeAny_func ?_⟩
 obtain ⟨t, ht, hq⟩ := hb cdv A outer s H vs Q E (hr.deeper _) hgd hsp
 have I := inv_start (CX := CX) (N := N) (E := E) S hr.hd e0 hl r x
 refine wpAny_mono (ht.run [] s1 (L2.start N vs) H _ I hq) ?_ fun e s' hs => hs
 have fin : ∀ {s' : Shared} {σ' : L2.St} {H' : Hp} {v : V} {u : Value}, Inv Ydv [] σ' H' s' → RelV v u → Q v H' → CE outer P w H s Q u s' :=
  fun {s' σ' H' v u} J rv q => ⟨v, H', J.os, J.bare, J.base, J.hok, rv, q⟩
 intro fl s' hs
 cases fl with
 | ret u => obtain ⟨v, σ', H', J, rv, q⟩ := hs; exact fin J rv q
 | next => obtain ⟨σ', H', J, q⟩ := hs; exact fin (v := V.non) (u := Value.none) J rfl q
 | brk => obtain ⟨_, _, _, q⟩ := hs; exact q.elim
 | cont => obtain ⟨_, _, _, q⟩ := hs; exact q.elim
end
section
variable {X : Cx} {CX : CXT} {k : Nat} {f C : Addr} {fd : FuncData} {ps : List Str} {sp : Sp} {dvs : List V} {ds : List Value} {E : XK} {x m : Str} {p pos apos : Pos} {e o : Expr} {es : List Expr} {ta : TE} {t : TA}
theorem runG {pins : List Yfb} {σ : L2.St} {H : Hp} {s : Shared} {Q : VK} {us : List Value} {vs : List V} (F : FnG X.prog X.w X.K X.mg X.base CX k f fd ps sp) (hr : Room k X.A) (hgd : X.A.guards = some []) (hb : Binds X.K fd ps ds) (hd : Vals dvs ds) (hx : Passes CX X E)
  (I : Inv X pins σ H s) (r : Vals vs us) (h : sp (vs ++ dvs) H Q E) : wpAny Ybc X.A (call (.ref f) us) Yej X.xe s := by
 have r2 := r.append hd
 have hl : (us ++ ds).length = ps.length := r2.length.symm.trans (F.len _ _ _ _ h)
 refine wpAny_call (codeAny_mono (F.run X.A X.stack s H ⟨us, []⟩ (us ++ ds) (vs ++ dvs) Q E hr hgd I.env0 (hb s us I.kIn hl) r2 h) ?_)
 rintro (e | fl) s' hq
 ·exact hx pins σ H s e s' I hq
 ·cases fl <;> first | exact I.after hq | exact (show False from hq).elim
theorem pe_callG (F : FnG X.prog X.w X.K X.mg X.base CX k f fd ps sp) (hr : Room k X.A) (hgd : X.A.guards = some []) (hg : Gl X x) (hm : X.mg x = some (.ref f)) (hk : PySem.W.keepIn X.K (.ref f) = true) (hb : Binds X.K fd ps ds) (hd : Vals dvs ds) (hx : Passes CX X E)
  (ha : PA X Ya3 t) (hdb : (x == ("__debug__" : Str)) = false := by decide) (he : starEach Ya3 X.env = (false, eval e X.env) :: starEach es X.env := by rfl) (hpl : (backTo pos Yci).any (·.1) = false := by rfl) :
  PE X Yam (tCall sp dvs E t) := ⟨fun pins s σ H Q I h => by
 refine wpAny_Call_Name_kw (ld_glob I hg hm ?_ hdb)
 refine PySem.W.callWith_K (h₀ := X.base) I.ok.mod.kin hk (thn Ye6 ?_) he hpl
 rintro us s1 ⟨vs, H1, I1, r, q⟩
 exact ⟨I1.kIn, runG F hr hgd hb hd hx I1 r q⟩⟩
end
theorem law_callG {P : Program} {w : World} {K : PySem.W.Frag} {mg mb : Str → Option Value} {CX : CXT} {k : Nat} {fa a : Addr} {fd : FuncData} {x : Str} {sp : Sp} {s1 : Shared} {us : List Value} {ns : List Int}
  (KX : K.In s1.heap) (hns : s1.heap.Ns mainGlobals mg) (hb : s1.heap.Ns builtinsNs mb) (hbb : ∀ y : Str, y ≠ "__name__" → mb y = bootBuiltins y) (hlim : s1.heap.NoLimit) (hg : s1.gens = #[])
  (ha : s1.heap.get? a = some { cls := .type "list", data := .seq us.toArray }) (hi : IntsAre us ns) (hl : ns.length ≤ sizeLine) (hr : Room k callerA)
  (F : ∀ base : Heap, K.In base → base.Ns mainGlobals mg → FnG P w K mg base CX k fa fd [x] sp) (hbind : ∀ (s : Shared) (u : Value), BindsTo s fd ⟨[u], []⟩ [(x, u)])
  (hsp : ∀ H : Hp, ((∃ o, H a = some Ygn) ∨ (∃ (o : Obj) (its : Array Value) (n : Nat), K.lookup a = some o ∧ o.cls = .type "list" ∧ o.dict = none ∧ o.data = .seq its n ∧ its.size ≤ sizeLine ∧ Vals Yda its.toList)) → sp [.ref a] H (fun v _ => v = .bl true) fun _ _ _ => False)
  (hCX : ∀ H e s', CX [] H s1 Yey e s' → False) :
  codeAny Ydl callerA (.call (.ref fa) ⟨[.ref a], []⟩) Ydz s1 := by
 have rv := vals_ints hi
 have lenV := hi.length
 have main : ∀ H : Hp, Only H → ((∃ o, H a = some Ygn) ∨ (∃ (o : Obj) (its : Array Value) (n : Nat), K.lookup a = some o ∧ o.cls = .type "list" ∧ o.dict = none ∧ o.data = .seq its n ∧ its.size ≤ sizeLine ∧ Vals Yda its.toList)) → HOk P w H s1.heap →
   (∀ b, H b ≠ none → b = a) → (H a ≠ none → K.lookup a = none) →
   codeAny Ydl callerA (.call (.ref fa) ⟨[.ref a], []⟩) Ydz s1 := by
  intro H hO hS hok hA hK
  have isA : ∀ {b : Addr} {u : HO}, H b = some u → b = a := fun {b u} q => hA b (by rw [q]; exact Option.some_ne_none u)
  have free : ∀ {b : Addr} {o : Obj} {es : Array DictEntry} {ep : Nat}, s1.heap.get? b = some o → o.data = .dict es ep → H b = none := fun {b o es ep} e d => by
   cases q : H b with
   | none => rfl
   | some u =>
    rw [isA q, ha] at e
    cases e
    cases (show Data.seq us.toArray _ = Data.dict es ep from d)
  have nsK : ∀ {b : Addr} {m : Str → Option Value}, s1.heap.Ns b m → (hidT s1.heap H).Ns b m := fun {b m} ⟨o, es, ep, e, d, r⟩ => ⟨o, es, ep, hidT_get e (free e d), d, r⟩
  have hKb : K.In (hidT s1.heap H) := fun b o e => hidT_get (KX b o e) (by
   cases q : H b with
   | none => rfl
   | some u =>
    obtain rfl := isA q
    rw [hK (by rw [q]; exact Option.some_ne_none u)] at e
    cases e)
  have hM : Mod K mg (hidT s1.heap H) := by
   obtain ⟨mc, m1, m2⟩ := hlim
   exact ⟨hKb, nsK hns, ⟨mb, nsK hb, hbb⟩, mc, nsK m1, m2⟩
  have e0 : Env0 P w K mg (hidT s1.heap H) callerA [] s1 H :=
   { frames := rfl, mod := hM, bs := fun b o e => of_hidT e, bsz := Nat.le_of_eq (hidT_size _ _), funs := trivial, frf := fun b q => absurd (show b ∈ ([] : List Addr) from q) Yae, hok := hok, bare := .of_eq hg }
  refine codeAny_mono ((F _ hKb (nsK hns)).run callerA [] s1 H ⟨[.ref a], []⟩ [.ref a] [.ref a] _ _ hr rfl e0 (hbind s1 (.ref a)) (.cons rfl .nil) (hsp H hS)) ?_
  rintro (e | fl) s' h
  ·exact (hCX H e s' h).elim
  ·cases fl with
   | ret u =>
    obtain ⟨v, H', os, bare, un, hok', r', q⟩ := h
    obtain rfl : v = .bl true := q
    obtain rfl : u = Value.bool true := r'
    refine ⟨rfl, OldK.of_keep fun b o e => ?_, os, bare⟩
    rcases hO b with z | ⟨ob, xs, z⟩
    ·exact un.keep b o e z (fun m => nomatch (show b ∈ ([] : List Addr) from m)) (fun m => nomatch m)
    ·have z2 := un.frzs b ob _ z
     have e1 := (hok b _ z).1
     have e2 := (hok' b _ z2).1
     rw [e] at e1
     cases e1
     exact e2
   | next => exact (show False from h).elim
   | brk => exact (show False from h).elim
   | cont => exact (show False from h).elim
 cases hk : K.lookup a with
 | some o =>
  have e := KX a o hk
  rw [ha] at e
  cases e
  refine main (fun _ => none) (fun _ => .inl rfl) (.inr ⟨_, us.toArray, _, hk, rfl, rfl, rfl, by rw [List.size_toArray, lenV]; exact hl, by simpa using rv⟩) ?_ (fun b z => absurd rfl z) fun z => absurd rfl z
  intro b u z
  cases (show (none : Option HO) = some u from z)
 | none =>
  refine main (fun b => if b = a then some (.frz { cls := .type "list", data := .seq us.toArray } (.lst Yda)) else none) ?_ (.inl ⟨{ cls := .type "list", data := .seq us.toArray }, if_pos rfl⟩) ?_ ?_ fun _ => hk
  ·intro b
   by_cases hb : b = a
   ·exact .inr ⟨_, _, if_pos hb⟩
   ·exact .inl (if_neg hb)
  ·intro b u z
   by_cases hb : b = a
   ·cases (if_pos hb).symm.trans z
    subst hb
    exact ⟨ha, by rw [List.length_map]; exact hl, us, _, rv, ha⟩
   ·cases (if_neg hb).symm.trans z
  ·intro b z
   by_cases hb : b = a
   ·exact hb
   ·exact absurd (if_neg hb) z
/-- what k_head leaves, from the law's promise -/
theorem walkG {l : PySem.W.OpenLaw} {n k : Nat} {q : Program} {loose : List Str} {XP : (Str → Option Value) → Heap → Prop} {YP : World → Heap → Prop} {d : DefRec} {K : Params → PySem.W.Frag} {CX : World → CXT} {sp : World → Sp} {x : Str}
  (hn : l.most = some n) (hn2 : n ≤ sizeLine) (hdf : d.params.defaults = []) (hr : Room k callerA) (hY : ∀ (w : World) (h : Heap), YP w h → (K w.params).In h)
  (F : ∀ (w : World) (mg : Str → Option Value) (fa : Addr) (h : Heap), (K w.params).In h → h.Ns mainGlobals mg → mg d.name = some (.ref fa) →
   ∃ fd : FuncData, (∀ (s : Shared) (u : Value), BindsTo s fd ⟨[u], []⟩ [(x, u)]) ∧
    ∀ base : Heap, (K w.params).In base → base.Ns mainGlobals mg → FnG l.prog w (K w.params) mg base (CX w) k fa fd [x] (sp w))
  (hsp : ∀ (w : World) (H : Hp) (a : Addr) (ns : List Int), ns.length ≤ n → ((∃ o, H a = some Ygn) ∨ (∃ (o : Obj) (its : Array Value) (m : Nat), (K w.params).lookup a = some o ∧ o.cls = .type "list" ∧ o.dict = none ∧ o.data = .seq its m ∧ its.size ≤ sizeLine ∧ Vals Yda its.toList)) →
   sp w [.ref a] H (fun v _ => v = .bl true) fun _ _ _ => False)
  (hCX : ∀ (w : World) (H : Hp) (s : Shared) (e : Value) (s' : Shared), CX w [] H s Yey e s' → False) :
  PySem.W.WalkO q loose XP YP l.row.toRowW d [] (fun f vs => PySem.call f vs) := by
 refine Att.attach_call hn hdf ?_
 intro w s0 s1 mg mb fa o pm cd doc a us ns G Y ho hd hcd hmg hobj hints hlen hg
 have KX := hY w _ Y
 obtain ⟨fd, hb, hF⟩ := F w mg fa _ KX G.T.g hmg
 exact law_callG KX G.T.g G.T.b G.T.builtins G.T.nolimit hg hobj hints (Nat.le_trans hlen hn2) hr hF hb (fun H hS => hsp w H a ns hlen hS) fun H e s' => hCX w H s1 e s'
end Mir
namespace Mir
open PySem PySem.Spec L2
open PyProof.Rows hiding St
section
variable {K : PySem.W.Frag} {ω : World} {s : S4}
/-- a frozen sequence, as it lies -/
def FSq (K : PySem.W.Frag) (ω : World) (s : S4) (kd : Kd) (a : Addr) (ts : List T) : Prop := ∃ vs, Sq K s.H kd a vs ∧ RfL K s.fz s.H ts vs ∧ ∀ s', Aft s s' → Rel K ω s' → Sq K s'.H kd a vs
theorem fsq_of (R : Rel K ω s) {x : T} {v : V} (r : Rf K s.fz s.H x v) {ts : List T} (h : x = .tup ts ∨ x = .lst ts ∨ x = .scr ts) : ∃ kd a, v = .ref a ∧ FSq K ω s kd a ts := by
 rcases h with h | h | h <;> subst h
 ·obtain ⟨a, vs, e, t, l⟩ : ∃ a vs, v = .ref a ∧ FTup K s.fz s.H a vs ∧ RfL K s.fz s.H ts vs := by simpa only [Rf] using r
  exact ⟨.t, a, e, vs, t.sq, l, fun s' A _ => (t.aft A R).sq⟩
 ·obtain ⟨a, vs, e, t, l⟩ : ∃ a vs, v = .ref a ∧ FLst s.fz s.H a vs ∧ RfL K s.fz s.H ts vs := by simpa only [Rf] using r
  exact ⟨.l, a, e, vs, t.sq, l, fun s' A _ => (t.aft A R).sq⟩
 ·obtain ⟨a, vs, e, t, l⟩ : ∃ a vs, v = .ref a ∧ FScr K s.fz s.H a vs ∧ RfL K s.fz s.H ts vs := by simpa only [Rf] using r
  exact ⟨.l, a, e, vs, t.sq, l, fun s' A _ => (t.aft A R).sq⟩
/-- what a value walks, frozen -/
def seqT : W → Option (List T)
 | .t (.tup ts) => some ts
 | .t (.lst ts) => some ts
 | .t (.scr ts) => some ts
 | _ => none
theorem seqT_of {w : W} {ts : List T} (h : seqT w = some ts) : ∃ x, w = .t x ∧ (x = .tup ts ∨ x = .lst ts ∨ x = .scr ts) := by
 unfold seqT at h
 split at h <;> simp only [Option.some.injEq, reduceCtorEq] at h <;> subst h
 ·exact ⟨_, rfl, .inl rfl⟩
 ·exact ⟨_, rfl, .inr (.inl rfl)⟩
 ·exact ⟨_, rfl, .inr (.inr rfl)⟩
theorem fsq (R : Rel K ω s) {w : W} {v : V} {ts : List T} (h : seqT w = some ts) (r : Rw K s w v) : ∃ kd a, v = .ref a ∧ FSq K ω s kd a ts := by
 obtain ⟨x, rfl, hx⟩ := seqT_of h
 exact fsq_of R r hx
/-- plainly -/
theorem src_sq (R : Rel K ω s) {kd : Kd} {a : Addr} {ts : List T} (h : FSq K ω s kd a ts) : SrcF K ω s Yo (ItQ K kd a) := by
 obtain ⟨vs, _, l, st⟩ := h
 intro s' A' R' i
 have q := st s' A' R'
 have l' := RfL.aft A' R _ _ l
 have hl := RfL.length l
 refine ⟨fun w hw => ?_, fun e => ?_⟩
 ·obtain ⟨t, ht, rfl⟩ : ∃ t, ts[i]? = some t ∧ W.t t = w := by simpa using hw
  obtain ⟨v, hv, rv⟩ := RfL.get l' ht
  cases kd with
  | l => exact ⟨⟨vs, v, q, hv⟩, fun x H' y => ⟨s', y.1.symm, rfl, Aft.refl _, R', by
    have := y.2 vs q
    rw [hv] at this
    cases this
    exact rv⟩⟩
  | t => exact ⟨⟨vs, v, q, hv⟩, fun x H' y => ⟨s', y.1.symm, rfl, Aft.refl _, R', by
    have := y.2 vs q
    rw [hv] at this
    cases this
    exact rv⟩⟩
 ·cases kd with
  | l => exact ⟨vs, q, by rw [e, List.length_map, hl]; exact Nat.le_refl _⟩
  | t => exact ⟨vs, q, by rw [e, List.length_map, hl]; exact Nat.le_refl _⟩
theorem src_rng (lo : Int) (n : Nat) : SrcF K ω s ((List.range n).map fun i => W.t (.int (lo + (i : Nat)))) (Itr lo n) := by
 intro s' A' R' i
 refine ⟨fun w hw => ?_, fun e => ?_⟩
 ·have hi : i < n := by
   have := (List.getElem?_eq_some_iff.mp hw).1
   simpa using this
  refine ⟨hi, fun x H' y => ⟨s', y.1.symm, rfl, Aft.refl _, R', ?_⟩⟩
  have e : W.t (.int (lo + (i : Nat))) = w := by
   rw [List.getElem?_map, List.getElem?_range hi] at hw
   simpa using hw
  subst e
  simp only [Rw, Rf]
  exact y.2
 ·show n ≤ i
  rw [e]
  simp
/-- enumerate -/
def enumT : Nat → List T → List W
 | _, [] => []
 | i, t :: ts => .t (.pr [.int (i : Nat), t]) :: enumT (i + 1) ts
theorem enumT_get : ∀ (ts : List T) (j i : Nat), (enumT j ts)[i]? = (ts[i]?).map fun t => W.t (.pr [.int ((j + i : Nat)), t])
 | [], _, i => by simp [enumT]
 | t :: ts, j, 0 => by simp [enumT]
 | t :: ts, j, i + 1 => by
  simp only [enumT, List.getElem?_cons_succ]
  rw [enumT_get ts (j + 1) i, show j + 1 + i = j + (i + 1) by omega]
theorem enumT_length : ∀ (ts : List T) (j : Nat), (enumT j ts).length = ts.length
 | [], _ => rfl
 | t :: ts, j => by simp [enumT, enumT_length ts]
theorem src_en (R : Rel K ω s) {kd : Kd} {a : Addr} {ts : List T} (h : FSq K ω s kd a ts) : SrcF K ω s (enumT 0 ts) (ItEn K kd a) := by
 obtain ⟨vs, _, l, st⟩ := h
 intro s' A' R' i
 have q := st s' A' R'
 have l' := RfL.aft A' R _ _ l
 have hl := RfL.length l
 refine ⟨fun w hw => ?_, fun e => ⟨vs, q, by rw [e, enumT_length, hl]⟩⟩
 rw [enumT_get, Option.map_eq_some_iff] at hw
 obtain ⟨t, ht, rfl⟩ := hw
 obtain ⟨v, hv, rv⟩ := RfL.get l' ht
 refine ⟨⟨vs, v, q, hv⟩, fun x H' y => ?_⟩
 obtain ⟨p, x', ex, np, eH, hx⟩ := y
 have ev : x' = v := Option.some.inj ((hx vs q).symm.trans hv)
 subst ex eH ev
 refine ⟨s'.addF p (.tup [.int (i : Nat), x']), rfl, rfl, za9 R' np, zb2 R' np, addF_pr R' np ?_⟩
 rw [Nat.zero_add]
 exact ⟨_, _, rfl, by simp [Rf], x', [], rfl, rv, by simp [RfL]⟩
/-- zip -/
def zipT : List T → List T → List W
 | t :: ts, u :: us => .t (.pr [t, u]) :: zipT ts us
 | _, _ => []
/-- a text, sign by sign -/
def signs (x : Str) : List W := x.cps.toList.map fun c => .t (.str ⟨#[c]⟩)
theorem src_str (x : Str) : SrcF K ω s (signs x) (Its x) := by
 intro s' A' R' i
 refine ⟨fun w hw => ?_, fun e => ?_⟩
 ·unfold signs at hw
  rw [List.getElem?_map, Option.map_eq_some_iff] at hw
  obtain ⟨c, hc, rfl⟩ := hw
  have hc' : x.cps[i]? = some c := by simpa using hc
  refine ⟨(Array.getElem?_eq_some_iff.mp hc').1, fun v H' y => ⟨s', y.1.symm, rfl, Aft.refl _, R', ?_⟩⟩
  obtain ⟨_, c', h1, h2⟩ := y
  rw [hc'] at h1
  cases h1
  simp only [Rw, Rf]
  exact h2
 ·show x.cps.size ≤ i
  rw [e]
  simp [signs]
end
def rng1 (ws : List W) (hp : IH) : Res (List W) := match ws with
 | [.t (.int j)] => if -(2 ^ 62) ≤ j ∧ j < 2 ^ 62 then .ok ((List.range j.toNat).map fun i => W.t (.int (0 + (i : Nat)))) hp else .bad
 | _ => .bad
def rng2 (ws : List W) (hp : IH) : Res (List W) := match ws with
 | [.t (.int i), .t (.int j)] => if -(2 ^ 62) ≤ i ∧ i < 2 ^ 62 ∧ -(2 ^ 62) ≤ j ∧ j < 2 ^ 62 then .ok Ygm hp else .bad
 | _ => .bad
def enum1 (ws : List W) (hp : IH) : Res (List W) := match ws with
 | [a] => (match seqT a with | some ts => .ok (enumT 0 ts) hp | none => .bad)
 | _ => .bad
def zip2 (ws : List W) (hp : IH) : Res (List W) := match ws with
 | [a, b] => (match seqT a, seqT b with | some ts, some us => .ok (zipT ts us) hp | _, _ => .bad)
 | _ => .bad
def sqI (a : W) (hp : IH) : Res (List W) := match seqT a with | some ts => .ok Yo hp | none => .bad
def strI (a : W) (hp : IH) : Res (List W) := match a with | .t (.str x) => .ok (signs x) hp | _ => .bad
def mSq (F : M W) : M (List W) := fun eta hp => (F eta hp).bind sqI
def mStrI (F : M W) : M (List W) := fun eta hp => (F eta hp).bind strI
def mSrc (f : List W → IH → Res (List W)) (Fs : M (List W)) : M (List W) := fun eta hp => (Fs eta hp).bind f
section
variable {X : Cx} {Wx : WX} {tg a b e : Expr} {F : M W} {Fs : M (List W)} {p pos tpos : Pos} {elts : List Expr} {kk : Nat}
theorem Go.src {s : S4} {ws : List W} {J : It} {Q : It → Hp → Prop} (R : Rel X.K X.w s) (g : Go X.K X.w Wx (SrcF X.K X.w) s (.ok ws s.hp) Q) (h : SrcF X.K X.w s ws J) : Q J s.H := g J s rfl Yh R h
/-- a list or a tuple -/
theorem zdo (he : IE X Wx e F) : II X Wx tg e (mSq F) := PI.imp (pi_sq he) fun σ H Q h =>
 tM.bind1 (R := fun (x : V) (H1 : Hp) => ∃ kd a xs, x = .ref a ∧ Sq X.K H1 kd a xs ∧ Q (ItQ X.K kd a) H1) (k := fun (a : W) _ h1 => sqI a h1) h fun s eta w v R1 S1 f1 g => by
  unfold sqI at g
  cases hq : seqT w with
  | none => simp only [hq] at g; exact g.elim
  | some ts =>
   simp only [hq] at g
   obtain ⟨kd, a, ev, fs⟩ := fsq R1 hq f1
   exact ⟨kd, a, _, ev, fs.choose_spec.1, Go.src R1 g (src_sq R1 fs)⟩
theorem ii_str (he : IE X Wx e F) : II X Wx tg e (mStrI F) := PI.imp (pi_str he) fun σ H Q h =>
 tM.bind1 (R := fun (x : V) (H1 : Hp) => ∃ z, x = .str z ∧ Q (Its z) H1) (k := fun (a : W) _ h1 => strI a h1) h fun s eta w v R1 S1 f1 g => by
  unfold strI at g
  split at g
  ·rename_i x
   simp only [Rw, Rf] at f1
   exact ⟨x, f1, Go.src R1 g (src_str x)⟩
  ·exact g.elim
theorem rwl1 {K : PySem.W.Frag} {s : S4} {a : W} {vs : List V} (h : RwL K s [a] vs) : ∃ v, vs = [v] ∧ Rw K s a v := by
 obtain ⟨v, r, e, q, n⟩ := h
 rw [show r = [] from n] at e
 exact ⟨v, e, q⟩
theorem ii_rng1 (hg : Gl X "range") (hm : X.mg "range" = none) (ha : IA X Wx [a] Fs) (hs : starEach [a] X.env = [(false, eval a X.env)] := by rfl) : II X Wx tg (.Call (.Name "range" p) [a] [] pos) (mSrc rng1 Fs) := PI.imp (pi_range1 hg hm ha hs) fun σ H Q h =>
 tM.bind1 (R := fun (vs : List V) (H1 : Hp) => ∃ j : Int, vs = [.int j] ∧ -(2 ^ 62) ≤ j ∧ j < 2 ^ 62 ∧ Q (Itr 0 j.toNat) H1) (k := fun (ws : List W) _ h1 => rng1 ws h1) h fun s eta ws vs R1 S1 f1 g => by
  unfold rng1 at g
  split at g
  ·rename_i j
   split at g
   ·rename_i hj
    obtain ⟨v, ev, rv⟩ := rwl1 f1
    simp only [Rw, Rf] at rv
    subst rv
    exact ⟨j, ev, hj.1, hj.2, Go.src R1 g (src_rng 0 _)⟩
   ·exact g.elim
  ·exact g.elim
theorem ii_en (hg : Gl X "enumerate") (hm : X.mg "enumerate" = none) (ha : IA X Wx [a] Fs) (hs : starEach [a] X.env = [(false, eval a X.env)] := by rfl) : II X Wx (.Tuple elts kk tpos) (.Call (.Name "enumerate" p) [a] [] pos) (mSrc enum1 Fs) := PI.imp (pi_en hg hm ha hs) fun σ H Q h =>
 tM.bind1 (R := fun (vs : List V) (H1 : Hp) => ∃ kd a xs, vs = [.ref a] ∧ Sq X.K H1 kd a xs ∧ Q (ItEn X.K kd a) H1) (k := fun (ws : List W) _ h1 => enum1 ws h1) h fun s eta ws vs R1 S1 f1 g => by
  unfold enum1 at g
  split at g
  ·rename_i w
   cases hq : seqT w with
   | none => simp only [hq] at g; exact g.elim
   | some ts =>
    simp only [hq] at g
    obtain ⟨v, ev, rv⟩ := rwl1 f1
    obtain ⟨kd, a, ev2, fs⟩ := fsq R1 hq rv
    subst ev2
    exact ⟨kd, a, _, ev, fs.choose_spec.1, Go.src R1 g (src_en R1 fs)⟩
  ·exact g.elim
end
section
variable {X : Cx} {Wx : WX} {elt tg iter : Expr} {ifs : List Expr} {scope : Scope} {own : List (Str × Nat)} {Fi : M (List W)} {pos : Pos} {g : TG} {G : W → IS → Option IS} {vs : List Nat} {tt : TT} {T : M Bool} {E : M W} {fin : OpN}
def mYes : M Bool := fun _ hp => .ok true hp
/-- a clause's tests -/
def ITs (X : Cx) (ifs : List Expr) (T : M Bool) : Prop := PTs X ifs (tT X.K X.w W0 T)
theorem PTs.imp {t t' : TT} (h : PTs X ifs t) (i : ∀ σ H Q, t' σ H Q → t σ H Q) : PTs X ifs t' := ⟨fun pins s σ H Q I hw => h.run pins s σ H Q I Yfs⟩
theorem zbq : ITs X [] mYes := PTs.imp pts_nil fun σ H Q h => by
 obtain ⟨s, eta, e1, R1, S1, g⟩ := h
 subst e1
 exact g true s rfl Yh R1 rfl
theorem its_one {c : Expr} (h : IT X W0 c T) : ITs X [c] T := pts_one h
theorem zbr (hc : X.calm = true) (hN : X.N.Nodup) (hi : II X Wx tg iter Fi) (ok : BlkOk X.N X.env.scope scope own)
  (hg : ∀ (s : Shared) (H : Hp) (C : Addr) (cl : List (Str × Addr)) (fp : List Addr), PG Yao tg g) (tok : TgOk X.K X.w g G vs)
  (ht : ∀ (s : Shared) (H : Hp) (C : Addr) (cl : List (Str × Addr)) (fp : List Addr), ITs Yao ifs T)
  (he : ∀ (s : Shared) (H : Hp) (C : Addr) (cl : List (Str × Addr)) (fp : List Addr), IE Yao W0 elt E) (hf : FinOk X.K X.w Wx fin) (hv : ∀ i ∈ vs, i ∈ own.map (·.2) := by decide) (hs : ∀ x, foldedSetIterable iter X.env x = pure x := by intro _; rfl) :
  IE X Wx Yee (zba fin Fi G T E (own.map (·.2))) := PE.imp (pe_lc (tt := tT X.K X.w W0 T) (te := tE X.K X.w W0 E) hc hN hi ok hg ht he hs) (t_comp _ tok hv hf)
theorem st_comp {i : Nat} {y : Str} {py spos : Pos} (hc : X.calm = true) (hN : X.N.Nodup) (hy : X.N[i]? = some y) (hyl : X.env.scope.names.lookup y = some .local)
  (hsw : swapsWith Yee (some (.Name y py)) spos.line X.env = pure true) (hi : II X Wx tg iter Fi) (ok : BlkOk X.N X.env.scope scope own)
  (hg : ∀ (s : Shared) (H : Hp) (C : Addr) (cl : List (Str × Addr)) (fp : List Addr), PG Yao tg g) (tok : TgOk X.K X.w g G vs)
  (ht : ∀ (s : Shared) (H : Hp) (C : Addr) (cl : List (Str × Addr)) (fp : List Addr), ITs Yao ifs T)
  (he : ∀ (s : Shared) (H : Hp) (C : Addr) (cl : List (Str × Addr)) (fp : List Addr), IE Yao W0 elt E) (hf : FinOk X.K X.w Wx fin) (hv : ∀ i ∈ vs, i ∈ own.map (·.2) := by decide) (hs : ∀ x, foldedSetIterable iter X.env x = pure x := by intro _; rfl) :
  ISt X Wx (.Assign [.Name y py] Yee spos) (mSet i (zba fin Fi G T E (own.map (·.2)))) := PS.imp (ps_setLc (tt := tT X.K X.w W0 T) (te := tE X.K X.w W0 E) hc hN hy hyl hsw hi ok hg ht he hs) fun D σ H h => by
 have h' : tE X.K X.w Wx (zba fin Fi G T E (own.map (·.2))) σ H (fun x H1 => D.nx (σ.set i (some x)) H1) :=
  tM.bind1 (R := fun (y : V) (H1 : Hp) => D.nx (σ.set i (some y)) H1) (k := fun (a : W) eta hp => .ok (Fl.nx Ygc) hp) h fun s eta a b R1 S1 f1 g1 => Go.nx R1 (S1.set i f1) g1
 exact t_comp _ tok hv hf σ H _ h'
end
/-- a def's function: its body at its parameters; a live result may not be younger than the call -/
def fnM (n nn : Nat) (B : M Fl) : OpN := fun ws hp => if ws.length = n then (match B Ye3 hp with
  | .ok (.rt w) h => .ok w h
  | .ok (.nx _) h => .ok Yco h
  | .er e _ h => .er e [] h
  | _ => .bad) else .bad
/-- .. of trees alone: its own cells are dropped -/
def fnP (n nn : Nat) (B : M Fl) : OpN := fun ws hp => if ws.length = n ∧ (allT ws).isSome = true then (match B Ye3 [] with
  | .ok (.rt (.t x)) _ => .ok (.t x) hp
  | .ok (.nx _) _ => .ok Yco hp
  | _ => .bad) else .bad
/-- the promise made of a function -/
def spM (K : PySem.W.Frag) (ω : World) (f : OpN) (n : Nat) : Sp := fun vs H Q _ => ∃ (s : S4) (ws : List W), s.H = H ∧ Rel K ω s ∧ RwL K s ws vs ∧ ws.length = n ∧ Go K ω W0 (Rw K) s (noEr (f ws s.hp)) Q
section
variable {K : PySem.W.Frag} {ω : World}
theorem spM_len {f : OpN} {n : Nat} {vs : List V} {H : Hp} {Q : VK} {E : XK} (h : spM K ω f n vs H Q E) : vs.length = n := by
 obtain ⟨s, ws, _, _, l, e, _⟩ := h
 rw [← RwL.length l, e]
theorem sl_start {s : S4} {N : List Str} {ws : List W} {vs : List V} (l : RwL K s ws vs) : Sl K s (ws.map some ++ List.replicate (N.length - ws.length) none) (L2.start N vs) := by
 have hl := RwL.length l
 refine ⟨by simp [L2.start, hl], fun i w e => ?_⟩
 by_cases hi : i < ws.length
 ·rw [List.getElem?_append_left (by simpa using hi), List.getElem?_map] at e
  cases q : ws[i]? with
  | none => rw [q] at e; cases e
  | some w' =>
   rw [q] at e
   cases e
   obtain ⟨v, h1, h2⟩ := RwL.get l q
   refine ⟨v, ?_, h2⟩
   unfold L2.start
   rw [List.getElem?_append_left (by rw [List.length_map, ← hl]; exact hi), List.getElem?_map, h1]
   rfl
 ·rw [List.getElem?_append_right (by simpa using hi), List.getElem?_replicate] at e
  split at e <;> cases e
/-- a run over the caller's heap without its cells -/
def S4.bare (s : S4) : S4 := ⟨[], s.fz, [], s.H⟩
theorem rel_bare {s : S4} (R : Rel K ω s) : Rel K ω s.bare := ⟨rfl, List.nodup_nil, fun a m => absurd m (by simp [S4.bare]), R.ftrk, fun a l => by obtain ⟨i, c, e, _⟩ := l; simp [S4.bare] at e, fun i c a e => by simp [S4.bare] at e⟩
theorem Rf.bare {s : S4} {x : T} {v : V} (h : Rw K s (.t x) v) : Rw K s.bare (.t x) v := h
theorem aft_bare {s s' : S4} (R : Rel K ω s) (A : Aft s.bare s') : Aft s ⟨s.rho, s'.fz, s.hp, s'.H⟩ ∧ (Rel K ω s' → Rel K ω ⟨s.rho, s'.fz, s.hp, s'.H⟩) := by
 have nl : ∀ a, ¬ Live s.bare a := fun a l => by obtain ⟨i, c, e, _⟩ := l; simp [S4.bare] at e
 have A1 : Aft s ⟨s.rho, s'.fz, s.hp, s'.H⟩ := by
  refine ⟨⟨[], by simp, by simp⟩, A.fz, fun a o e _ => A.keep a o e (nl a), fun a f => ?_, fun a l => .inl l, A.trk⟩
  rcases A.fnew a f with f | f | f
  ·exact .inl f
  ·exact .inr (.inl f)
  ·exact (nl a f).elim
 refine ⟨A1, fun R' => ⟨R.len, R.nd, fun a m => A.trk a (R.trk a m), R'.ftrk, fun a l f => ?_, fun i c a e1 e2 => ?_⟩⟩
 ·rcases A.fnew a f with f | f | f
  ·exact R.fz a l f
  ·obtain ⟨i, c, e1, e2⟩ := l
   exact R.liveH e1 e2 f
  ·exact nl a f
 ·have q := R.cell i c a e1 e2
  have ha : s.H a ≠ none := R.liveH e1 e2
  cases hq : s.H a with
  | none => exact absurd hq ha
  | some o =>
   show CellOk K ω _ a c (s'.H a)
   rw [A.keep a o hq (nl a), ← hq]
   exact q.aft A1 R
variable {P : Program} {w : World} {mg : Str → Option Value} {base : Heap}
theorem okM {x qual : Str} {st : Stmt} {f : Addr} {fd : FuncData} {N ps : List Str} {k : Nat} {B : M Fl} {dfs : List V} {kws : List Yc2} (F : FunD K x qual (defArgs st) Ygv Ybh dfs kws f fd) (S : FnScope N ps Ybh)
  (hb : ∀ (cdv : Value) (A : Around) (outer : List Env) (s : Shared) (H : Hp) (E : XK), Room k Ya9 → A.guards = some [] → ISs (cxOf Yj P w K mg base N qual Ybh f cdv A outer s H E).nox W0 Ygv B) :
  FnG P w K mg base Yj (k + 1) f fd ps (spM K w (fnM ps.length N.length B) ps.length) := by
 refine Fun.okG F S (fun vs H Q E h => spM_len h) fun cdv A outer s H vs Q E hr hgd h => ⟨_, PSs.nox (hb cdv A outer s H E hr hgd), ?_⟩
 obtain ⟨s0, ws, e1, R1, l, el, g⟩ := h
 refine ⟨s0, _, e1, R1, sl_start l, ?_⟩
 unfold fnM at g
 rw [if_pos el] at g
 rw [el]
 cases hB : B (ws.map some ++ List.replicate (N.length - ps.length) none) s0.hp with
 | ok fl hp =>
  rw [hB] at g
  cases fl with
  | rt wr => exact fun b s' h1 h2 h3 h4 => by cases b <;> first | exact h4.elim | exact g _ s' h1 h2 h3 h4
  | nx e => exact fun b s' h1 h2 h3 h4 => by cases b <;> first | exact h4.elim | exact g .non s' h1 h2 h3 (by simp [Rw, Rf])
  | bk e => exact g.elim
  | ct e => exact g.elim
 | er e eta hp => rw [hB] at g; exact g.elim
 | bad => rw [hB] at g; exact g.elim
theorem okP {x qual : Str} {st : Stmt} {f : Addr} {fd : FuncData} {N ps : List Str} {k : Nat} {B : M Fl} {dfs : List V} {kws : List Yc2} (F : FunD K x qual (defArgs st) Ygv Ybh dfs kws f fd) (S : FnScope N ps Ybh)
  (hb : ∀ (cdv : Value) (A : Around) (outer : List Env) (s : Shared) (H : Hp) (E : XK), Room k Ya9 → A.guards = some [] → ISs (cxOf Yj P w K mg base N qual Ybh f cdv A outer s H E).nox W0 Ygv B) :
  FnG P w K mg base Yj (k + 1) f fd ps (spM K w (fnP ps.length N.length B) ps.length) := by
 refine Fun.okG F S (fun vs H Q E h => spM_len h) fun cdv A outer s H vs Q E hr hgd h => ⟨_, PSs.nox (hb cdv A outer s H E hr hgd), ?_⟩
 obtain ⟨s0, ws, e1, R1, l, el, g⟩ := h
 unfold fnP at g
 cases ht : allT ws with
 | none => simp only [ht, Option.isSome_none, Bool.false_eq_true, and_false, if_false] at g; exact g.elim
 | some ts =>
  rw [if_pos ⟨el, by rw [ht]; rfl⟩] at g
  have lb : RwL K s0.bare ws vs := by
   rw [zb4 ht] at l ⊢
   exact (RwL.of_trees (s := s0.bare)).mpr ((RwL.of_trees (s := s0)).mp l)
  refine ⟨s0.bare, _, e1, rel_bare R1, sl_start lb, ?_⟩
  rw [el]
  show Go K w W0 (RFl K) s0.bare (B _ []) _
  cases hB : B (ws.map some ++ List.replicate (N.length - ps.length) none) [] with
  | ok fl hp =>
   rw [hB] at g
   cases fl with
   | rt wr =>
    cases wr with
    | t y =>
     intro b s' h1 h2 h3 h4
     cases b <;> first | exact h4.elim | exact g _ ⟨s0.rho, s'.fz, s0.hp, s'.H⟩ rfl (aft_bare R1 h2).1 ((aft_bare R1 h2).2 h3) h4
    | r i => exact g.elim
   | nx e =>
    intro b s' h1 h2 h3 h4
    cases b <;> first | exact h4.elim | exact g .non ⟨s0.rho, s'.fz, s0.hp, s'.H⟩ rfl (aft_bare R1 h2).1 ((aft_bare R1 h2).2 h3) (by simp [Rw, Rf])
   | bk e => exact g.elim
   | ct e => exact g.elim
  | er e eta hp => rw [hB] at g; exact g.elim
  | bad => rw [hB] at g; exact g.elim
end
theorem zbf {n nn : Nat} {B : M Fl} : ∀ ws hp, ws.length ≠ n → fnM n nn B ws hp = .bad := fun ws hp h => by unfold fnM; rw [if_neg h]
theorem zas {n nn : Nat} {B : M Fl} : ∀ ws hp, ws.length ≠ n → fnP n nn B ws hp = .bad := fun ws hp h => by unfold fnP; rw [if_neg fun z => h z.1]
/-- f(e, ..), then the defaults -/
def zaz (f : OpN) (ds : List T) (Fs : M (List W)) : M W := fun eta hp => (Fs eta hp).bind fun ws h1 => noEr (f (ws ++ ds.map W.t) h1)
section
variable {X : Cx} {Wx : WX} {k : Nat} {f : Addr} {fd : FuncData} {ps : List Str} {m : OpN} {n : Nat} {x : Str} {p pos : Pos} {e : Expr} {es : List Expr} {Fs : M (List W)} {dvs : List V} {ds : List Value} {dts : List T}
theorem zar (Fk : FnG X.prog X.w X.K X.mg X.base Yb7 k f fd ps Yc3) (hr : Room k X.A) (hgd : X.A.guards = some []) (hg : Gl X x) (hm : X.mg x = some (.ref f)) (hk : PySem.W.keepIn X.K (.ref f) = true) (hb : Binds X.K fd ps ds) (hd : Vals dvs ds) (hdt : ∀ s, RwL X.K s (dts.map W.t) dvs) (hl : ∀ ws hp, ws.length ≠ n → m ws hp = .bad) (ha : IA X Wx Ya3 Fs)
  (hdb : (x == ("__debug__" : Str)) = false := by decide) (he : starEach Ya3 X.env = (false, eval e X.env) :: starEach es X.env := by rfl) (hpl : (backTo pos Yci).any (·.1) = false := by rfl) : IE X Wx Yam (zaz m dts Fs) :=
 PE.imp (pe_callG Fk hr hgd hg hm hk hb hd passL ha hdb he hpl) fun σ H Q h =>
  tM.bind1 (R := fun (vs : List V) (H1 : Hp) => spM X.K X.w m n (vs ++ dvs) H1 Q E0) (k := fun (ws : List W) _ h1 => noEr (m (ws ++ dts.map W.t) h1)) h fun s eta ws vs R1 S1 f1 g => by
   refine ⟨s, ws ++ dts.map W.t, rfl, R1, RwL.append f1 (hdt s), ?_, ?_⟩
   ·by_cases e : (ws ++ dts.map W.t).length = n
    ·exact e
    ·rw [hl _ _ e] at g; exact g.elim
   ·cases hq : m (ws ++ dts.map W.t) s.hp with
    | ok a h => rw [hq] at g; exact g
    | er e eta h => rw [hq] at g; exact g.elim
    | bad => rw [hq] at g; exact g.elim
end
end Mir
namespace Mir
open PySem PySem.Spec L2
open PyProof.Rows hiding St
def opI (C : Int → Int → Bool) (g : Int → Int → Int) : Op2 := fun a b hp => match a, b with
 | .t (.int i), .t (.int j) => if C i j = true then .ok (.t (.int (g i j))) hp else .bad
 | _, _ => .bad
def opC (g : Int → Int → Bool) : Op2 := fun a b hp => match a, b with
 | .t (.int i), .t (.int j) => .ok (.t (.bl (g i j))) hp
 | _, _ => .bad
def cYes : Int → Int → Bool := fun _ _ => true
def cMul : Int → Int → Bool := fun i j => decide (i.natAbs.log2 + j.natAbs.log2 < 1000000)
def cDiv : Int → Int → Bool := fun _ j => decide (0 < j ∧ j.natAbs.log2 < 9000)
def cMod : Int → Int → Bool := fun _ j => decide (0 < j)
def cPow : Int → Int → Bool := fun i j => decide (0 ≤ j ∧ j ≤ 1000000 ∧ i.natAbs < 2 ^ 64)
section
variable {K : PySem.W.Frag} {ω : World} {Wx : WX}
theorem ok_opI {C : Int → Int → Bool} {g : Int → Int → Int} {P : Int → Int → Prop} (h : ∀ i j, C i j = true → P i j) : zc6 K ω Wx (opI C g) (rI P fun i j => .int (g i j)) := by
 intro s a b x y Q R ra rb go
 unfold opI at go
 split at go
 ·rename_i i j
  split at go
  ·rename_i hc
   simp only [Rw, Rf] at ra rb
   exact ⟨i, j, ra, rb, h i j hc, go _ s rfl Yh R Yg⟩
  ·exact go.elim
 ·exact go.elim
theorem ok_opI0 {g : Int → Int → Int} : zc6 K ω Wx (opI cYes g) (rI0 fun i j => .int (g i j)) := by
 intro s a b x y Q R ra rb go
 unfold opI at go
 split at go
 ·rename_i i j
  rw [if_pos (show cYes i j = true from rfl)] at go
  simp only [Rw, Rf] at ra rb
  exact ⟨i, j, ra, rb, go _ s rfl Yh R Yg⟩
 ·exact go.elim
theorem ok_opC {g : Int → Int → Bool} : zc6 K ω Wx (opC g) (rI0 fun i j => .bl (g i j)) := by
 intro s a b x y Q R ra rb go
 unfold opC at go
 split at go
 ·rename_i i j
  simp only [Rw, Rf] at ra rb
  exact ⟨i, j, ra, rb, go _ s rfl Yh R Yg⟩
 ·exact go.elim
end
abbrev iSub : Op2 := opI cYes fun i j => i - j
abbrev iDiv : Op2 := opI cDiv fun i j => i / j
abbrev iMod : Op2 := opI cMod fun i j => i % j
abbrev iPow : Op2 := opI cPow fun i j => i ^ j.toNat
abbrev iLe : Op2 := opC fun i j => decide (i ≤ j)
abbrev iGt : Op2 := opC fun i j => decide (j < i)
abbrev iGe : Op2 := opC fun i j => decide (j ≤ i)
section
variable {X : Cx} {Wx : WX} {a b c e : Expr} {Fa Fb Fc F : M W} {pos : Pos}
theorem ie_sub (ha : IE X Wx a Fa) (hb : IE X Wx b Fb) : IE X Wx (.BinOp a .Sub b pos) (mBin iSub Fa Fb) := ie_bin op_sub ok_opI0 ha hb
theorem ie_div (ha : IE X Wx a Fa) (hb : IE X Wx b Fb) : IE X Wx (.BinOp a .FloorDiv b pos) (mBin iDiv Fa Fb) := ie_bin op_fdivW (ok_opI fun i j h => by simpa [cDiv, CDivW] using h) ha hb
theorem ie_mod (ha : IE X Wx a Fa) (hb : IE X Wx b Fb) : IE X Wx (.BinOp a .Mod b pos) (mBin iMod Fa Fb) := ie_bin op_mod (ok_opI fun i j h => by simpa [cMod] using h) ha hb
theorem ie_pow (ha : IE X Wx a Fa) (hb : IE X Wx b Fb) : IE X Wx (.BinOp a .Pow b pos) (mBin iPow Fa Fb) := ie_bin op_pow (ok_opI fun i j h => by simpa [cPow, CPow] using h) ha hb
theorem it_gt (ha : IE X Wx a Fa) (hb : IE X Wx b Fb) : IT X Wx (.Compare a [.Gt] [b] pos) (zai asB (mBin iGt Fa Fb)) := it_cmp op_gt ok_opC ha hb Yfz
theorem it_ge (ha : IE X Wx a Fa) (hb : IE X Wx b Fb) : IT X Wx (.Compare a [.GtE] [b] pos) (zai asB (mBin iGe Fa Fb)) := it_cmp op_ge ok_opC ha hb Yfz
def iNeg : Op1 := fun a hp => match a with | .t (.int i) => .ok (.t (.int (-i))) hp | _ => .bad
theorem ie_neg (ha : IE X Wx a Fa) : IE X Wx (.UnaryOp .USub a pos) (mUn iNeg Fa) := ie_un un_neg (fun s a x Q R ra go => by
 unfold iNeg at go
 split at go
 ·simp only [Rw, Rf] at ra
  exact ⟨_, ra, go _ s rfl Yh R Yg⟩
 ·exact go.elim) ha
end
def eqW (neg : Bool) : Op2 := fun a b hp => match asT hp a, asT hp b with
 | some x, some y => if fit x 60 = true ∧ fit y 60 = true then .ok (.t (.bl (if neg then !eqT x y else eqT x y))) hp else .bad
 | _, _ => .bad
def isN (neg : Bool) : Op2 := fun a b hp => match b with
 | .t .non => (match a with
  | .t .non => .ok (.t (.bl (!neg))) hp
  | _ => .ok (.t (.bl neg)) hp)
 | _ => .bad
def isB (neg : Bool) : Op2 := fun a b hp => match a, b with
 | .t (.bl i), .t (.bl j) => .ok Yhj hp
 | _, _ => .bad
def inW (neg : Bool) : Op2 := fun a b hp => match asT hp a, (items hp b).bind allT with
 | some x, some ys => if fit x 60 = true ∧ fitL ys 60 = true then .ok (.t (.bl (if neg then !(ys.any fun y => eqT y x) else ys.any fun y => eqT y x))) hp else .bad
 | _, _ => .bad
section
variable {K : PySem.W.Frag} {ω : World} {Wx : WX}
theorem ok_eq : zc6 K ω Wx Y0 (rEqP K) := by
 intro s a b x y Q R ra rb go
 unfold eqW at go
 cases h1 : asT s.hp a with
 | none => simp only [h1] at go; exact go.elim
 | some u =>
  cases h2 : asT s.hp b with
  | none => simp only [h1, h2] at go; exact go.elim
  | some v =>
   simp only [h1, h2] at go
   split at go
   ·rename_i hf
    have p1 := zdi u 60 hf.1
    have p2 := zdi v 60 hf.2
    refine ⟨dat u, dat v, asT_dp R h1 ra hf.1, asT_dp R h2 rb hf.2, p1.1, p2.1, p1.2, ?_⟩
    rw [eqT_dat u v 60 60 hf.1 hf.2]
    exact go _ s rfl Yh R Yg
   ·exact go.elim
theorem ok_ne : zc6 K ω Wx Yac (rNeP K) := by
 intro s a b x y Q R ra rb go
 unfold eqW at go
 cases h1 : asT s.hp a with
 | none => simp only [h1] at go; exact go.elim
 | some u =>
  cases h2 : asT s.hp b with
  | none => simp only [h1, h2] at go; exact go.elim
  | some v =>
   simp only [h1, h2] at go
   split at go
   ·rename_i hf
    have p1 := zdi u 60 hf.1
    have p2 := zdi v 60 hf.2
    refine ⟨dat u, dat v, asT_dp R h1 ra hf.1, asT_dp R h2 rb hf.2, p1.1, p2.1, p1.2, ?_⟩
    rw [eqT_dat u v 60 60 hf.1 hf.2]
    exact go _ s rfl Yh R Yg
   ·exact go.elim
theorem rf_non {s : S4} {w : W} {v : V} (r : Rw K s w v) : (v = .non ↔ w = .t .non) := by
 cases w with
 | r i => obtain ⟨a, _, e⟩ := r; subst e; simp
 | t x =>
  cases x <;> simp only [Rw, Rf] at r <;> first
   | (subst r; simp)
   | (obtain ⟨a, _, e, _⟩ := r; subst e; simp)
   | (obtain ⟨a, _, _, e, _⟩ := r; subst e; simp)
   | (obtain ⟨a, e, _⟩ := r; subst e; simp)
   | exact r.elim
theorem ok_isN : zc6 K ω Wx (isN false) (fun x y H Q => y = .non ∧ Q (.bl (decide (x = .non))) H) := by
 intro s a b x y Q R ra rb go
 unfold isN at go
 split at go
 ·refine ⟨by simpa only [Rw, Rf] using rb, ?_⟩
  split at go
  ·have e : x = .non := by simpa only [Rw, Rf] using ra
   rw [decide_eq_true e]
   exact go _ s rfl Yh R Yg
  ·rename_i hn
   have e : ¬ x = .non := fun e => hn ((rf_non ra).mp e)
   rw [decide_eq_false e]
   exact go _ s rfl Yh R Yg
 ·exact go.elim
theorem ok_notN : zc6 K ω Wx (isN true) (fun x y H Q => y = .non ∧ Q (.bl (!decide (x = .non))) H) := by
 intro s a b x y Q R ra rb go
 unfold isN at go
 split at go
 ·refine ⟨by simpa only [Rw, Rf] using rb, ?_⟩
  split at go
  ·have e : x = .non := by simpa only [Rw, Rf] using ra
   rw [decide_eq_true e]
   exact go _ s rfl Yh R Yg
  ·rename_i hn
   have e : ¬ x = .non := fun e => hn ((rf_non ra).mp e)
   rw [decide_eq_false e]
   exact go _ s rfl Yh R Yg
 ·exact go.elim
theorem items_dp {s : S4} (R : Rel K ω s) {w : W} {v : V} {ys : List T} {n : Nat} (h : (items s.hp w).bind allT = some ys) (r : Rw K s w v) (f : fitL ys n = true) : Dp K s.H v (.list (datL ys)) ∨ Dp K s.H v (.tuple (datL ys)) := by
 rw [Option.bind_eq_some_iff] at h
 obtain ⟨ws, h1, h2⟩ := h
 obtain ⟨p, xs, e, q, l⟩ := items_sq R h1 r
 subst e
 rw [zb4 h2] at l
 have d := RfL.dp ys xs n f Yd7
 rcases q with q | q
 ·exact .inr (.tup q d)
 ·exact .inl (.lst q d)
theorem any_dat {x : T} {n m : Nat} (fx : fit x n = true) : ∀ (ys : List T), fitL ys m = true → (datL ys).any (fun z => PyData.eqv z (dat x)) = ys.any fun y => eqT y x
 | [], _ => rfl
 | y :: ys, f => by
  simp only [fitL, Bool.and_eq_true] at f
  simp only [datL, List.any_cons, eqT_dat y x m n f.1 fx, any_dat fx ys f.2]
theorem ok_in {neg : Bool} : zc6 K ω Wx (inW neg) (rInP K neg) := by
 intro s a b x y Q R ra rb go
 unfold inW at go
 cases h1 : asT s.hp a with
 | none => simp only [h1] at go; exact go.elim
 | some u =>
  cases h2 : (items s.hp b).bind allT with
  | none => simp only [h1, h2] at go; exact go.elim
  | some ys =>
   simp only [h1, h2] at go
   split at go
   ·rename_i hf
    have p1 := zdi u 60 hf.1
    have p2 := fit_plainL ys 60 hf.2
    refine ⟨dat u, datL ys, asT_dp R h1 ra hf.1, items_dp R h2 rb hf.2, p1.1, p2.1, p1.2, ?_⟩
    rw [any_dat hf.1 ys hf.2]
    exact go _ s rfl Yh R Yg
   ·exact go.elim
end
section
variable {X : Cx} {Wx : WX} {a b c e : Expr} {Fa Fb Fc F : M W} {pos : Pos}
theorem ie_eq (hu : X.A.units + 64 < cLine) (ha : IE X Wx a Fa) (hb : IE X Wx b Fb) : IE X Wx (.Compare a [.Eq] [b] pos) (mBin Y0 Fa Fb) := ie_cmp (op_eqP hu) ok_eq ha hb Yfz
theorem it_eq (hu : X.A.units + 64 < cLine) (ha : IE X Wx a Fa) (hb : IE X Wx b Fb) : IT X Wx (.Compare a [.Eq] [b] pos) (zai asB (mBin Y0 Fa Fb)) := it_cmp (op_eqP hu) ok_eq ha hb Yfz
theorem it_ne (hu : X.A.units + 64 < cLine) (ha : IE X Wx a Fa) (hb : IE X Wx b Fb) : IT X Wx (.Compare a [.NotEq] [b] pos) (zai asB (mBin Yac Fa Fb)) := it_cmp (op_neP hu) ok_ne ha hb Yfz
theorem it_isN (ha : IE X Wx a Fa) (hb : IE X Wx b Fb) : IT X Wx (.Compare a [.Is] [b] pos) (zai asB (mBin (isN false) Fa Fb)) := it_cmp op_isN ok_isN ha hb Yfz
theorem it_notN (ha : IE X Wx a Fa) (hb : IE X Wx b Fb) : IT X Wx (.Compare a [.IsNot] [b] pos) (zai asB (mBin (isN true) Fa Fb)) := it_cmp op_notN ok_notN ha hb Yfz
theorem it_in (hu : X.A.units + 64 < cLine) (ha : IE X Wx a Fa) (hb : IE X Wx b Fb) (hm : behindInMarks .In b = false := by rfl) : IT X Wx (.Compare a [.In] [b] pos) (zai asB (mBin (inW false) Fa Fb)) := it_cmp (op_inP hu) ok_in ha hb hm
theorem it_nin (hu : X.A.units + 64 < cLine) (ha : IE X Wx a Fa) (hb : IE X Wx b Fb) (hm : behindInMarks .NotIn b = false := by rfl) : IT X Wx (.Compare a [.NotIn] [b] pos) (zai asB (mBin (inW true) Fa Fb)) := it_cmp (op_ninP hu) ok_in ha hb hm
end
def ixW : Op2 := fun a b hp => match b with
 | .t (.int i) => (match a with
  | .t (.str z) => (match atI z.cps.toList i with | some c => if z.length ≤ 16777216 then .ok (.t (.str ⟨#[c]⟩)) hp else .bad | none => .bad)
  | a => (match (items hp a).bind fun ws => atI ws i with | some w => .ok w hp | none => .bad))
 | _ => .bad
section
variable {K : PySem.W.Frag} {ω : World} {Wx : WX}
theorem atI_rw {s : S4} {ws : List W} {vs : List V} {i : Int} {w : W} (l : RwL K s ws vs) (h : atI ws i = some w) : ∃ v, atI vs i = some v ∧ Rw K s w v := by
 unfold atI at h ⊢
 rw [Option.bind_eq_some_iff] at h
 obtain ⟨j, h1, h2⟩ := h
 obtain ⟨v, q1, q2⟩ := RwL.get l h2
 exact ⟨v, by rw [← RwL.length l, h1]; exact q1, q2⟩
theorem ok_ix : zc6 K ω Wx ixW (rIx K) := by
 intro s a b x y Q R ra rb go
 unfold ixW at go
 split at go
 ·rename_i i
  have ey : y = .int i := by simpa only [Rw, Rf] using rb
  split at go
  ·rename_i z
   have ex : x = .str z := by simpa only [Rw, Rf] using ra
   split at go
   ·rename_i c hc
    split at go
    ·rename_i hz
     exact .inr (.inr ⟨z, i, c, ex, ey, by rw [sizeLine_eq]; exact hz, hc, go _ s rfl Yh R Yg⟩)
    ·exact go.elim
   ·exact go.elim
  ·split at go
   ·rename_i w hw
    rw [Option.bind_eq_some_iff] at hw
    obtain ⟨ws, h1, h2⟩ := hw
    obtain ⟨p, xs, e, q, l⟩ := items_sq R h1 ra
    obtain ⟨v, h3, h4⟩ := atI_rw l h2
    rcases q with q | q
    ·exact .inr (.inl ⟨p, xs, i, v, e, ey, q, h3, go _ s rfl Yh R h4⟩)
    ·exact .inl ⟨p, xs, i, v, e, ey, q, h3, go _ s rfl Yh R h4⟩
   ·exact go.elim
 ·exact go.elim
end
section
variable {X : Cx} {Wx : WX} {a b c e : Expr} {Fa Fb Fc F : M W} {pos : Pos}
theorem zam (ha : IE X Wx a Fa) (hb : IE X Wx b Fb) (hs : PlainIx b := by intro _ _; rfl) : IE X Wx (.Subscript a b pos) (mBin ixW Fa Fb) := ie_ix ix_seq ok_ix ha hb hs
end
abbrev MO := M (Option Int)
def zbb : MO := fun _ hp => .ok none hp
def zc8 (F : M W) : MO := fun eta hp => (F eta hp).bind fun a h1 => match a with | .t (.int i) => .ok (some i) h1 | _ => .bad
def IO (X : Cx) (Wx : WX) (e : Option Expr) (F : MO) : Prop := PO X e (tM X.K X.w Wx Ygo F)
def cutL {A : Type} (xs : List A) (lo hi : Option Int) : List A := (xs.drop (HT.sIx xs.length 0 lo)).take (HT.sIx xs.length xs.length hi - HT.sIx xs.length 0 lo)
/-- a slice: of a frozen list a frozen one, of a live list a frozen one -/
def slW (a : W) (lo hi : Option Int) (hp : IH) : Res W := match a with
 | .t (.str z) => if z.length ≤ 16777216 then .ok (.t (.str (cutS z lo hi))) hp else .bad
 | .t (.tup ts) => .ok (.t (.tup Yft)) hp
 | .t (.lst ts) => .ok (.t (.lst Yft)) hp
 | .t (.scr ts) => .ok (.t (.lst Yft)) hp
 | .r i => (match (getL hp i).bind allT with | some ts => .ok (.t (.lst Yft)) hp | none => .bad)
 | _ => .bad
def mSl (Fa : M W) (Fl Fh : MO) : M W := fun eta hp => (Fa eta hp).bind fun a h1 => (Fl eta h1).bind fun l h2 => (Fh eta h2).bind fun h h3 => slW a l h h3
section
variable {X : Cx} {Wx : WX} {a b c e : Expr} {lo hi : Option Expr} {Fa Fb Fc F : M W} {Fl Fh : MO} {pos p2 : Pos}
theorem PO.imp {e : Option Expr} {t t' : TO} (h : PO X e t) (i : ∀ σ H Q, t' σ H Q → t σ H Q) : PO X e t' := ⟨fun pins s σ H Q I hw => h.run pins s σ H Q I Yfs⟩
theorem zd7 : IO X Wx none zbb := PO.imp po_none fun σ H Q h => by
 obtain ⟨s, eta, e1, R1, S1, g⟩ := h
 subst e1
 exact g none s rfl Yh R1 rfl
theorem zcn (h : IE X Wx e F) : IO X Wx (some e) (zc8 F) := PO.imp (po_some h) fun σ H Q h =>
 tM.bind1 (R := fun (x : V) (H1 : Hp) => ∃ i, x = .int i ∧ Q (some i) H1) (k := fun (a : W) _ h1 => (match a with | .t (.int i) => .ok (some i) h1 | _ => .bad : Res (Option Int))) h fun s eta a b R1 _ f1 g => by
  split at g
  ·rename_i i
   simp only [Rw, Rf] at f1
   exact ⟨i, f1, g (some i) s rfl Yh R1 rfl⟩
  ·exact g.elim
theorem cut_rf {K : PySem.W.Frag} {s : S4} : ∀ {ts : List T} {vs : List V} (n m : Nat), RfL K s.fz s.H ts vs → RfL K s.fz s.H ((ts.drop n).take m) ((vs.drop n).take m) := by
 intro ts vs n
 induction n generalizing ts vs with
 | zero =>
  intro m
  induction m generalizing ts vs with
  | zero => intro _; simp [RfL]
  | succ m ih =>
   intro h
   cases ts with
   | nil => simp only [RfL] at h; subst h; simp [RfL]
   | cons t ts =>
    simp only [RfL] at h
    obtain ⟨v, r, e, a, b⟩ := h
    subst e
    simp only [List.drop_zero, List.take_succ_cons, RfL]
    exact ⟨v, _, rfl, a, by simpa using ih b⟩
 | succ n ih =>
  intro m h
  cases ts with
  | nil => simp only [RfL] at h; subst h; simp [RfL]
  | cons t ts =>
   simp only [RfL] at h
   obtain ⟨v, r, e, a, b⟩ := h
   subst e
   simpa using ih m b
theorem cutL_rf {K : PySem.W.Frag} {s : S4} {ts : List T} {vs : List V} (lo hi : Option Int) (h : RfL K s.fz s.H ts vs) : RfL K s.fz s.H Yft (cutV vs lo hi) := by
 unfold cutL cutV
 rw [RfL.length h]
 exact cut_rf _ _ h
theorem cutL_whole {A : Type} {ts : List A} {lo hi : Option Int} (h : HT.sIx ts.length 0 lo = 0 ∧ HT.sIx ts.length ts.length hi = ts.length) : cutL ts lo hi = ts := by
 unfold cutL
 rw [h.1, h.2]
 simp
theorem SlR.or3 {r1 r2 r3 : V → Option Int → Option Int → Hp → VK → Prop} (h1 : SlR X r1) (h2 : SlR X r2) (h3 : SlR X r3) : SlR X (fun x lo hi H Q => r1 x lo hi H Q ∨ (r2 x lo hi H Q ∨ r3 x lo hi H Q)) := h1.or (h2.or h3)
/-- t[lo:hi]: the whole of it is t itself; the object of a new one is known -/
def rSlB (K : PySem.W.Frag) : V → Option Int → Option Int → Hp → VK → Prop := fun x l u H Q => ∃ a xs, x = .ref a ∧ SqT K H a xs ∧
 (HT.sIx xs.length 0 l = 0 ∧ HT.sIx xs.length xs.length u = xs.length → Q (.ref a) H) ∧
 (¬ (HT.sIx xs.length 0 l = 0 ∧ HT.sIx xs.length xs.length u = xs.length) → ∀ (p : Addr) (o : Obj), H p = none → o.dict = none → Q (.ref p) (upd H p (.frz o (.tup (cutV xs l u)))))
theorem sl_tupB : SlR X (rSlB X.K) := by
 intro pn s0 σ H x v vl vu l u sl Q J rx hs pl pu h
 obtain ⟨a, xs, ex, hx, q1, q2⟩ := h
 subst ex
 cases rx
 obtain ⟨its, r, ht, hz⟩ := J.tuple hx
 have hlen : its.toArray.size = xs.length := by rw [List.size_toArray]; exact r.length.symm
 by_cases hw : HT.sIx xs.length 0 l = 0 ∧ HT.sIx xs.length xs.length u = xs.length
 ·exact ⟨"tuple", _, PyProof.Rows.slot_tuple_getitem.lookup, ht.typeIs, getItem_tuple_whole ht hs pl pu (by rw [hlen]; exact hw) ⟨.ref a, H, J, rfl, q1 hw⟩⟩
 ·refine ⟨"tuple", _, PyProof.Rows.slot_tuple_getitem.lookup, ht.typeIs, HT.getItem_tuple_cut ht hs pl pu (by rw [hlen]; exact hw) ?_ (by rw [hlen]; exact hz)⟩
  rw [hlen]
  exact laid_tup (t' := s0.toks) J ((r.drop (HT.sIx xs.length 0 l)).take (HT.sIx xs.length xs.length u - HT.sIx xs.length 0 l)) (Nat.le_trans (cutV_length xs l u) hz) (q2 hw)
theorem zce (ha : IE X Wx a Fa) (hl : IO X Wx lo Fl) (hh : IO X Wx hi Fh) : IE X Wx (.Subscript a (.Slice lo hi none p2) pos) (mSl Fa Fl Fh) :=
 PE.imp (pe_slice (SlR.or3 sl_list sl_tupB sl_str) ha hl hh) fun σ H Q h =>
  tM.bind1 (R := fun (x : V) (H1 : Hp) => tM X.K X.w Wx Ygo Fl σ H1 fun l H2 => tM X.K X.w Wx Ygo Fh σ H2 fun u H3 => rSlL X.K x l u H3 Q ∨ (rSlB X.K x l u H3 Q ∨ rSlS x l u H3 Q))
   (k := fun (w : W) eta h1 => (Fl eta h1).bind fun l h2 => (Fh eta h2).bind fun h h3 => slW w l h h3) h fun s eta w v R1 S1 f1 g => by
   refine ⟨s, eta, rfl, R1, S1, Go.bind g fun l l' s2 A2 R2 e2 _ g2 => ?_⟩
   subst e2
   refine ⟨s2, eta, rfl, R2, S1.aft A2 R1, Go.bind g2 fun u u' s3 A3 R3 e3 _ g3 => ?_⟩
   subst e3
   have f3 := (f1.aft A2 R1).aft A3 R2
   unfold slW at g3
   split at g3
   ·rename_i z
    split at g3
    ·rename_i hz
     simp only [Rw, Rf] at f3
     exact .inr (.inr ⟨z, f3, by rw [sizeLine_eq]; exact hz, g3 _ s3 rfl (Aft.refl s3) R3 Yg⟩)
    ·exact g3.elim
   ·rename_i ts
    obtain ⟨p, xs, e, t, q⟩ : ∃ a vs, v = .ref a ∧ FTup X.K s3.fz s3.H a vs ∧ RfL X.K s3.fz s3.H ts vs := by simpa only [Rw, Rf] using f3
    have hl := RfL.length q
    refine .inr (.inl ⟨p, xs, e, t.sq, fun hw => ?_, fun hw p' o np d => ?_⟩)
    ·refine g3 (.ref p) s3 rfl (Aft.refl s3) R3 ?_
     rw [← hl] at hw
     rw [cutL_whole hw]
     simp only [Rw, Rf]
     exact ⟨p, xs, rfl, t, q⟩
    ·exact g3 (.ref p') (s3.addF p' (.frz o (.tup (cutV xs l u)))) rfl (za9 R3 np) (zb2 R3 np) (addF_tup R3 np d (cutL_rf l u q))
   ·rename_i ts
    obtain ⟨p, xs, e, t, q⟩ : ∃ a vs, v = .ref a ∧ FLst s3.fz s3.H a vs ∧ RfL X.K s3.fz s3.H ts vs := by simpa only [Rw, Rf] using f3
    exact .inl ⟨p, xs, e, t.sq, fun p' np => g3 (.ref p') Yg3 rfl (za9 R3 np) (zb2 R3 np) (zds R3 np (cutL_rf l u q))⟩
   ·rename_i ts
    obtain ⟨p, xs, e, t, q⟩ : ∃ a vs, v = .ref a ∧ FScr X.K s3.fz s3.H a vs ∧ RfL X.K s3.fz s3.H ts vs := by simpa only [Rw, Rf] using f3
    exact .inl ⟨p, xs, e, t.sq, fun p' np => g3 (.ref p') Yg3 rfl (za9 R3 np) (zb2 R3 np) (zds R3 np (cutL_rf l u q))⟩
   ·rename_i i
    split at g3
    ·rename_i ts hq
     rw [Option.bind_eq_some_iff] at hq
     obtain ⟨ws, h1, h2⟩ := hq
     obtain ⟨p, xs, e', _, e2, l', _⟩ := R3.lst h1 f3
     rw [zb4 h2] at l'
     exact .inl ⟨p, xs, e', .inl (.inl e2), fun p' np => g3 (.ref p') Yg3 rfl (za9 R3 np) (zb2 R3 np) (zds R3 np (cutL_rf l u (RwL.of_trees.mp l')))⟩
    ·exact g3.elim
   ·exact g3.elim
end
end Mir
namespace Mir
open PySem PySem.Spec L2
open PyProof.Rows hiding St
def zdj (hp : IH) : W → Option (List W)
 | .t (.lst xs) => some (xs.map W.t)
 | .t (.scr xs) => some (xs.map W.t)
 | .t _ => none
 | .r i => getL hp i
def asI : W → Option Int | .t (.int i) => some i | _ => none
def asBl : W → Option Bool | .t (.bl b) => some b | _ => none
def asS : W → Option Str | .t (.str b) => some b | _ => none
def allW {A : Type} (f : W → Option A) : List W → Option (List A)
 | [] => some []
 | w :: ws => (f w).bind fun a => (allW f ws).map fun r => a :: r
section
variable {K : PySem.W.Frag} {ω : World} {s : S4}
theorem litems_sq (R : Rel K ω s) {w : W} {v : V} {ws : List W} (h : zdj s.hp w = some ws) (r : Rw K s w v) : ∃ p xs, v = .ref p ∧ SqL K s.H p xs ∧ RwL K s ws xs := by
 unfold zdj at h
 split at h
 ·simp only [Option.some.injEq] at h
  subst h
  obtain ⟨p, xs, e, t, q⟩ : ∃ a vs, v = .ref a ∧ FLst s.fz s.H a vs ∧ RfL K s.fz s.H _ vs := by simpa only [Rw, Rf] using r
  exact ⟨p, xs, e, t.sq, RwL.of_trees.mpr q⟩
 ·simp only [Option.some.injEq] at h
  subst h
  obtain ⟨p, xs, e, t, q⟩ : ∃ a vs, v = .ref a ∧ FScr K s.fz s.H a vs ∧ RfL K s.fz s.H _ vs := by simpa only [Rw, Rf] using r
  exact ⟨p, xs, e, t.sq, RwL.of_trees.mpr q⟩
 ·cases h
 ·obtain ⟨a, vs, e, _, e2, l, _⟩ := R.lst h r
  exact ⟨a, vs, e, .inl (.inl e2), l⟩
theorem allB_eq : ∀ {ws : List W} {ns : List Bool} {vs : List V}, allW asBl ws = some ns → RwL K s ws vs → vs = ns.map V.bl
 | [], ns, vs, h, r => by
  simp only [allW, Option.some.injEq] at h
  subst h
  exact r
 | w :: ws, ns, vs, h, r => by
  simp only [allW, Option.bind_eq_some_iff, Option.map_eq_some_iff] at h
  obtain ⟨a, h1, m, h2, h3⟩ := h
  subst h3
  obtain ⟨v, t, e, rv, rt⟩ := r
  subst e
  rw [allB_eq h2 rt]
  unfold asBl at h1
  split at h1
  ·simp only [Option.some.injEq] at h1
   subst h1
   simp only [Rw, Rf] at rv
   rw [rv]; rfl
  ·cases h1
theorem RwL.one {w : W} {vs : List V} (r : RwL K s [w] vs) : ∃ v, vs = [v] ∧ Rw K s w v := by
 obtain ⟨v, t, e, a, b⟩ := r
 rw [show t = [] from b] at e
 exact ⟨v, e, a⟩
theorem RwL.two {w u : W} {vs : List V} (r : RwL K s [w, u] vs) : ∃ v x, vs = [v, x] ∧ Rw K s w v ∧ Rw K s u x := by
 obtain ⟨v, t, e, a, b⟩ := r
 obtain ⟨x, e2, b2⟩ := RwL.one b
 exact ⟨v, x, by rw [e, e2], a, b2⟩
/-- ints, texts, as trees -/
theorem ints_rf {fz : Addr → Prop} {H : Hp} : ∀ ns : List Int, RfL K fz H (ns.map T.int) Yda
 | [] => by simp [RfL]
 | n :: ns => by simp only [List.map_cons, RfL]; exact ⟨_, _, rfl, by simp [Rf], ints_rf ns⟩
theorem strs_rf {fz : Addr → Prop} {H : Hp} : ∀ ns : List Str, RfL K fz H (ns.map T.str) (ns.map V.str)
 | [] => by simp [RfL]
 | n :: ns => by simp only [List.map_cons, RfL]; exact ⟨_, _, rfl, by simp [Rf], strs_rf ns⟩
end
def oLen : OpN := fun ws hp => match ws with
 | [.t (.str z)] => if z.length ≤ 16777216 then .ok (.t (.int z.length)) hp else .bad
 | [w] => (match items hp w with | some xs => .ok (.t (.int xs.length)) hp | none => .bad)
 | _ => .bad
def oInt : OpN := fun ws hp => match ws with
 | [.t (.int i)] => .ok Yah hp
 | [.t (.bl b)] => .ok (.t (.int (if b then 1 else 0))) hp
 | _ => .bad
def oAbs : OpN := fun ws hp => match ws with
 | [.t (.int i)] => .ok (.t Yhh) hp
 | _ => .bad
def oMax2 : OpN := fun ws hp => match ws with
 | [.t (.int i), .t (.int j)] => .ok (.t (.int (if j > i then j else i))) hp
 | _ => .bad
def oMin2 : OpN := fun ws hp => match ws with
 | [.t (.int i), .t (.int j)] => .ok (.t (.int (if j < i then j else i))) hp
 | _ => .bad
def oOnL {A : Type} (f : W → Option A) (g : List A → IH → Res W) : OpN := fun ws hp => match ws with
 | [w] => (match (zdj hp w).bind (allW f) with | some ns => g ns hp | none => .bad)
 | _ => .bad
abbrev oAll : OpN := oOnL asBl fun bs hp => .ok (.t (.bl (bs.all id))) hp
def oListF : OpN := fun ws hp => match ws with
 | [w] => (match (items hp w).bind allT with | some ts => .ok Y8 hp | none => .bad)
 | _ => .bad
def oListL : OpN := fun ws hp => match ws with
 | [w] => (match items hp w with | some xs => .ok Ycn (hp ++ [some (.lst xs)]) | none => .bad)
 | _ => .bad
def oTup : OpN := fun ws hp => match ws with
 | [.t (.tup ts)] => .ok Yag hp
 | [w] => (match (zdj hp w).bind allT with | some ts => .ok Yag hp | none => .bad)
 | _ => .bad
def oStr : OpN := fun ws hp => match ws with
 | [.t (.str z)] => .ok (.t (.str z)) hp
 | [.t (.int i)] => if i.natAbs.log2 < 1920 then .ok (.t (.str (toString i))) hp else .bad
 | _ => .bad
section
variable {K : PySem.W.Frag} {ω : World} {Wx : WX}
theorem zcf : OpNOk K ω Wx oLen (fun xs H Q => ∃ x n, xs = [x] ∧ LenV K x H n ∧ Q (.int n) H) := by
 intro s ws xs Q R r go
 unfold oLen at go
 split at go
 ·obtain ⟨v, e, rv⟩ := RwL.one r
  subst e
  simp only [Rw, Rf] at rv
  subst rv
  split at go
  ·rename_i hz
   exact ⟨_, _, rfl, ⟨by rw [sizeLine_eq]; exact hz, rfl⟩, go _ s rfl Yh R Yg⟩
  ·exact go.elim
 ·obtain ⟨v, e, rv⟩ := RwL.one r
  subst e
  split at go
  ·rename_i ys hi
   obtain ⟨p, zs, e, q, l⟩ := items_sq R hi rv
   subst e
   refine ⟨_, zs.length, rfl, ?_, by rw [← RwL.length l]; exact go _ s rfl Yh R Yg⟩
   rcases q with q | q
   ·exact .inr ⟨zs, q, rfl⟩
   ·exact .inl ⟨zs, q, rfl⟩
  ·exact go.elim
 ·exact go.elim
theorem ok_int : OpNOk K ω Wx oInt (fun xs H Q => (∃ i, xs = [.int i] ∧ Q (.int i) H) ∨ ∃ k, xs = [.bl k] ∧ Q (.int (if k then 1 else 0)) H) := by
 intro s ws xs Q R r go
 unfold oInt at go
 split at go
 ·obtain ⟨v, e, rv⟩ := RwL.one r
  simp only [Rw, Rf] at rv
  subst e rv
  exact .inl ⟨_, rfl, go _ s rfl Yh R Yg⟩
 ·obtain ⟨v, e, rv⟩ := RwL.one r
  simp only [Rw, Rf] at rv
  subst e rv
  exact .inr ⟨_, rfl, go _ s rfl Yh R Yg⟩
 ·exact go.elim
theorem ok_abs : OpNOk K ω Wx oAbs (fun xs H Q => ∃ i, xs = [.int i] ∧ Q Yhh H) := by
 intro s ws xs Q R r go
 unfold oAbs at go
 split at go
 ·obtain ⟨v, e, rv⟩ := RwL.one r
  simp only [Rw, Rf] at rv
  subst e rv
  exact ⟨_, rfl, go _ s rfl Yh R Yg⟩
 ·exact go.elim
theorem ok_max2 : OpNOk K ω Wx oMax2 (fun xs H Q => ∃ i j, xs = [.int i, .int j] ∧ Q (.int (if j > i then j else i)) H) := by
 intro s ws xs Q R r go
 unfold oMax2 at go
 split at go
 ·obtain ⟨v, u, e, rv, ru⟩ := RwL.two r
  simp only [Rw, Rf] at rv ru
  subst e rv ru
  exact ⟨_, _, rfl, go _ s rfl Yh R Yg⟩
 ·exact go.elim
theorem ok_min2 : OpNOk K ω Wx oMin2 (fun xs H Q => ∃ i j, xs = [.int i, .int j] ∧ Q (.int (if j < i then j else i)) H) := by
 intro s ws xs Q R r go
 unfold oMin2 at go
 split at go
 ·obtain ⟨v, u, e, rv, ru⟩ := RwL.two r
  simp only [Rw, Rf] at rv ru
  subst e rv ru
  exact ⟨_, _, rfl, go _ s rfl Yh R Yg⟩
 ·exact go.elim
theorem onL {A : Type} {f : W → Option A} {g : List A → IH → Res W} {s : S4} {ws : List W} {xs : List V} {Q : VK} (R : Rel K ω s) (r : RwL K s ws xs) (go : Go K ω Wx (Rw K) s (oOnL f g ws s.hp) Q) :
  ∃ p zs ys ns, xs = [V.ref p] ∧ SqL K s.H p zs ∧ RwL K s ys zs ∧ allW f ys = some ns ∧ Go K ω Wx (Rw K) s (g ns s.hp) Q := by
 unfold oOnL at go
 split at go
 ·obtain ⟨v, e, rv⟩ := RwL.one r
  split at go
  ·rename_i ns hn
   rw [Option.bind_eq_some_iff] at hn
   obtain ⟨ys, h1, h2⟩ := hn
   obtain ⟨p, zs, ev, q, l⟩ := litems_sq R h1 rv
   subst e ev
   exact ⟨p, zs, ys, ns, rfl, q, l, h2, go⟩
  ·exact go.elim
 ·exact go.elim
theorem ok_all : OpNOk K ω Wx oAll (rAll K) := by
 intro s ws xs Q R r go
 obtain ⟨p, zs, ys, ns, e, q, l, h, go⟩ := onL R r go
 rw [allB_eq h l] at q
 exact ⟨p, ns, e, q, go _ s rfl Yh R Yg⟩
theorem ok_listF : OpNOk K ω Wx oListF Ych := by
 intro s ws xs Q R r go
 unfold oListF at go
 split at go
 ·obtain ⟨v, e, rv⟩ := RwL.one r
  split at go
  ·rename_i ts ht
   rw [Option.bind_eq_some_iff] at ht
   obtain ⟨ys, h1, h2⟩ := ht
   obtain ⟨p, zs, ev, q, l⟩ := items_sq R h1 rv
   subst e ev
   rw [zb4 h2] at l
   exact ⟨p, zs, rfl, q.symm, fun p' np => go (.ref p') (s.addF p' (.lst zs)) rfl (za9 R np) (zb2 R np) (zds R np Yd7)⟩
  ·exact go.elim
 ·exact go.elim
theorem ok_listL : OpNOk K ω Wx oListL Ych := by
 intro s ws xs Q R r go
 unfold oListL at go
 split at go
 ·obtain ⟨v, e, rv⟩ := RwL.one r
  split at go
  ·rename_i ys h1
   obtain ⟨p, zs, ev, q, l⟩ := items_sq R h1 rv
   subst e ev
   exact ⟨p, zs, rfl, q.symm, fun p' np => go (.ref p') (s.addL p' (.lst ys) (.lst zs)) rfl (aft_addL R np) (rel_addL R np ⟨zs, rfl, l⟩) (addL_r R)⟩
  ·exact go.elim
 ·exact go.elim
end
/-- tuple(x), the object of a new one known -/
def rTupS (K : PySem.W.Frag) : List V → Hp → VK → Prop := fun xs H Q => ∃ p ys, xs = [.ref p] ∧ ((SqL K H p ys ∧ ∀ (q : Addr) (o : Obj), H q = none → o.dict = none → Q (.ref q) (upd H q (.frz o (.tup ys)))) ∨ (SqT K H p ys ∧ Q (.ref p) H))
theorem zbs {X : Cx} : CallR X Yb0 (rTupS X.K) := by
 intro pn s0 σ H xs us Q J r h
 obtain ⟨p, ys, rfl, h⟩ := h
 obtain ⟨u, rfl, rx⟩ := vals1 r
 cases rx
 rcases h with ⟨hq, q⟩ | ⟨hq, q⟩
 ·obtain ⟨its, rv, pl, hz⟩ := J.list hq
  refine call_tuple_list pl.isList (fun h' kp => ?_) (by rw [List.size_toArray, ← rv.length]; exact hz)
  exact laid_tup (s := { s0 with heap := h' }) (t' := s0.toks) (J.kept (t' := s0.toks) kp) rv hz q
 ·obtain ⟨its, rv, pl, hz⟩ := J.tuple hq
  exact call_tuple_same pl ⟨.ref p, H, J, rfl, q⟩
section
variable {K : PySem.W.Frag} {ω : World} {Wx : WX}
theorem ok_tup : OpNOk K ω Wx oTup (rTupS K) := by
 intro s ws xs Q R r go
 unfold oTup at go
 split at go
 ·obtain ⟨v, e, rv⟩ := RwL.one r
  subst e
  have rv' := rv
  obtain ⟨a, vs, ev, t, l⟩ : ∃ a vs, v = .ref a ∧ FTup K s.fz s.H a vs ∧ RfL K s.fz s.H _ vs := by simpa only [Rw, Rf] using rv
  subst ev
  exact ⟨a, vs, rfl, .inr ⟨t.sq, go _ s rfl Yh R rv'⟩⟩
 ·obtain ⟨v, e, rv⟩ := RwL.one r
  split at go
  ·rename_i ts ht
   rw [Option.bind_eq_some_iff] at ht
   obtain ⟨ys, h1, h2⟩ := ht
   obtain ⟨p, zs, ev, q, l⟩ := litems_sq R h1 rv
   subst e ev
   rw [zb4 h2] at l
   exact ⟨p, zs, rfl, .inl ⟨q, fun p' o np d => go (.ref p') (s.addF p' (.frz o (.tup zs))) rfl (za9 R np) (zb2 R np) (addF_tup R np d Yd7)⟩⟩
  ·exact go.elim
 ·exact go.elim
theorem call_strS {X : Cx} : CallR X Ycf Ycb := CallR.or SkE.call_str_str call_str_int
theorem ok_str : OpNOk K ω Wx oStr Ycb := by
 intro s ws xs Q R r go
 unfold oStr at go
 split at go
 ·obtain ⟨v, e, rv⟩ := RwL.one r
  simp only [Rw, Rf] at rv
  subst e rv
  exact .inl ⟨_, rfl, go _ s rfl Yh R Yg⟩
 ·obtain ⟨v, e, rv⟩ := RwL.one r
  simp only [Rw, Rf] at rv
  subst e rv
  split at go
  ·rename_i hz
   exact .inr ⟨_, rfl, hz, go _ s rfl Yh R Yg⟩
  ·exact go.elim
 ·exact go.elim
end
section
variable {X : Cx} {Wx : WX} {e : Expr} {es : List Expr} {Fs : M (List W)} {pos p : Pos} {x : Str} {id Ty : String} {f : OpN} {r : List V → Hp → VK → Prop}
theorem t_app (hf : OpNOk X.K X.w Wx f r) : ∀ σ H Q, tE X.K X.w Wx (mApp f Fs) σ H Q → tCB r (tA X.K X.w Wx Fs) σ H Q := fun σ H Q h =>
 tM.bind1 (R := fun (xs : List V) (H1 : Hp) => r xs H1 Q) (k := fun (a : List W) _ hp => f a hp) h fun s eta a b R1 _ f1 g => hf s a b Q R1 f1 g
theorem zbn (hc : CallR X (.builtin id) r) (hf : OpNOk X.K X.w Wx f r) (ha : IA X Wx Ya3 Fs) (hm : X.mg x = none) (hg : Gl X x := by rfl) (hv : bootBuiltins x = some (.builtin id) := by with_unfolding_all rfl) (hn : x ≠ "__name__" := by decide) (hdb : (x == ("__debug__" : Str)) = false := by decide)
  (he : starEach Ya3 X.env = (false, eval e X.env) :: starEach es X.env := by rfl) (hpl : (backTo pos Yci).any (·.1) = false := by rfl) : IE X Wx Yam (mApp f Fs) :=
 PE.imp (pe_callB hc hg hm hv ha hn hdb he hpl) (t_app hf)
theorem zb5 (hc : CallR X (.type Ty) r) (hf : OpNOk X.K X.w Wx f r) (ha : IA X Wx Ya3 Fs) (hm : X.mg x = none) (hg : Gl X x := by rfl) (hv : bootBuiltins x = some (.type Ty) := by with_unfolding_all rfl) (hn : x ≠ "__name__" := by decide) (hdb : (x == ("__debug__" : Str)) = false := by decide)
  (he : starEach Ya3 X.env = (false, eval e X.env) :: starEach es X.env := by rfl) (hpl : (backTo pos Yci).any (·.1) = false := by rfl) : IE X Wx Yam (mApp f Fs) :=
 PE.imp (pe_callTy hc hg hm hv ha hn hdb he hpl) (t_app hf)
end
end Mir
namespace Mir
open PySem PySem.Spec L2
open PyProof.Rows hiding St
abbrev OpM := W → List W → IH → Res W
def OpMOk (K : PySem.W.Frag) (ω : World) (Wx : WX) (f : OpM) (r : V → List V → Hp → VK → Prop) : Prop :=
 ∀ (s : S4) (w : W) (ws : List W) (x : V) (xs : List V) (Q : VK), Rel K ω s → Rw K s w x → RwL K s ws xs → Go K ω Wx (Rw K) s (f w ws s.hp) Q → r x xs s.H Q
def mMeth0 (ty : W → IH → Bool) (f : OpM) (Fo : M W) : M W := fun eta hp => (Fo eta hp).bind fun w h1 => if ty w h1 = true then f w [] h1 else .bad
def mMeth (ty : W → IH → Bool) (f : OpM) (Fo : M W) (Fa : M (List W)) : M W := fun eta hp => (Fo eta hp).bind fun w h1 => if ty w h1 = true then (Fa eta h1).bind fun ws h2 => f w ws h2 else .bad
def isL (w : W) (hp : IH) : Bool := (zdj hp w).isSome
def isTp (w : W) (hp : IH) : Bool := match w with | .t (.tup _) => true | _ => false
section
variable {X : Cx} {Wx : WX} {o e : Expr} {es : List Expr} {Fo : M W} {Fs : M (List W)} {name : Str} {apos cpos : Pos} {id : String} {f : OpM} {r : V → List V → Hp → VK → Prop}
theorem isL_ty {K : PySem.W.Frag} {ω : World} {s : S4} {w : W} {v : V} (R : Rel K ω s) (r : Rw K s w v) (h : isL w s.hp = true) : tyV K "list" v s.H := by
 unfold isL at h
 obtain ⟨ws, hw⟩ := Option.isSome_iff_exists.mp h
 obtain ⟨p, xs, e, q, _⟩ := litems_sq R hw r
 subst e
 exact .inl ⟨rfl, xs, q⟩
theorem ie_lm0 (slot : Slot "list" name id) (hty : typeOf (.builtin id) = pure (.type "method_descriptor")) (hm : MtR X id r) (hf : OpMOk X.K X.w Wx f r) (ho : IE X Wx o Fo)
  (hbase : attributeBase o name X.env Yes = eval o X.env := by rfl) (hline : (apos.endLine == cpos.line) = true := by rfl) : IE X Wx (.Call (.Attribute o name apos) [] [] cpos) (mMeth0 isL f Fo) :=
 PE.imp (pe_bm0 F.plainAttrs_list slot hty hm ho hbase hline) fun σ H Q h =>
  tM.bind1 (R := fun (x : V) (H1 : Hp) => tyV X.K "list" x H1 ∧ r x [] H1 Q) (k := fun (w : W) _ h1 => if isL w h1 = true then f w [] h1 else .bad) h fun s eta a b R1 _ f1 g => by
   split at g
   ·rename_i ht
    exact ⟨isL_ty R1 f1 ht, hf s a [] b [] Q R1 f1 rfl g⟩
   ·exact g.elim
theorem ie_lm (slot : Slot "list" name id) (hty : typeOf (.builtin id) = pure (.type "method_descriptor")) (hm : MtR X id r) (hf : OpMOk X.K X.w Wx f r) (ho : IE X Wx o Fo) (ha : IA X Wx Ya3 Fs)
  (hbase : attributeBase o name X.env Yes = eval o X.env := by rfl)
  (hfew : ((backTo cpos (starEach Ya3 X.env)).all (fun x => !x.1) && (backToKw cpos (keywordEach [] X.env)).all (fun x => x.1.isSome) && decide ((e :: es).length + ([] : List Keyword).length + (if ([] : List Keyword).isEmpty then 0 else 1) < 30)) = true := by rfl)
  (hline : (apos.endLine == cpos.line) = true := by rfl) (hs : starEach Ya3 X.env = (false, eval e X.env) :: starEach es X.env := by rfl) (hp : (backTo cpos Yci).any (·.1) = false := by rfl) :
  IE X Wx (.Call (.Attribute o name apos) Ya3 [] cpos) (mMeth isL f Fo Fs) :=
 PE.imp (pe_bm F.plainAttrs_list slot hty hm ho ha hbase hfew hline hs hp) fun σ H Q h =>
  tM.bind1 (R := fun (x : V) (H1 : Hp) => tyV X.K "list" x H1 ∧ tA X.K X.w Wx Fs σ H1 fun xs H2 => r x xs H2 Q) (k := fun (w : W) eta h1 => if isL w h1 = true then (Fs eta h1).bind fun ws h2 => f w ws h2 else .bad) h fun s eta a b R1 S1 f1 g => by
   split at g
   ·rename_i ht
    exact ⟨isL_ty R1 f1 ht, s, eta, rfl, R1, S1, Go.bind g fun ws xs s' A' R' r' _ g' => hf s' a ws b xs Q R' (f1.aft A' R1) r' g'⟩
   ·exact g.elim
end
def zbl : OpM := fun w ws hp => match w, ws with
 | .r i, [x] => (match getL hp i with | some xs => if xs.length < 16777216 then .ok Yco (hp.set i (some (.lst (xs ++ [x])))) else .bad | none => .bad)
 | _, _ => .bad
/-- what is a list of its own in the heap -/
def hitems (hp : IH) : W → Option (List W)
 | .t (.lst xs) => some (xs.map W.t)
 | .t _ => none
 | .r i => getL hp i
def oPop : OpM := fun w ws hp => match w, ws with
 | .r i, [] => (match getL hp i with | some xs => (match xs[xs.length - 1]? with | some y => .ok y (hp.set i (some (.lst xs.dropLast))) | none => .bad) | none => .bad)
 | _, _ => .bad
def oPopAt : OpM := fun w ws hp => match w, ws with
 | .r i, [.t (.int k)] => (match getL hp i with
  | some xs => if -(2 ^ 63) ≤ k ∧ k < 2 ^ 63 then (match seqIndex? k xs.length with | some j => (match xs[j]? with | some y => .ok y (hp.set i (some (.lst (xs.eraseIdx j)))) | none => .bad) | none => .bad) else .bad
  | none => .bad)
 | _, _ => .bad
section
variable {K : PySem.W.Frag} {ω : World} {Wx : WX}
theorem RwL.dropLast {s : S4} : ∀ {ws : List W} {vs : List V}, RwL K s ws vs → RwL K s ws.dropLast vs.dropLast
 | [], _, h => by rw [show _ = [] from h]; rfl
 | [x], _, h => by
  obtain ⟨v, r, e, a, b⟩ := h
  rw [show r = [] from b] at e
  subst e
  rfl
 | x :: y :: ws, _, h => by
  obtain ⟨v, r, e, a, b⟩ := h
  subst e
  have b' := b
  obtain ⟨v2, r2, e2, a2, b2⟩ := b'
  subst e2
  exact ⟨v, _, rfl, a, RwL.dropLast b⟩
theorem RwL.eraseIdx {s : S4} : ∀ {ws : List W} {vs : List V} (j : Nat), RwL K s ws vs → RwL K s (ws.eraseIdx j) (vs.eraseIdx j)
 | [], _, _, h => by rw [show _ = [] from h]; rfl
 | x :: ws, _, 0, h => by
  obtain ⟨v, r, e, a, b⟩ := h
  subst e
  exact b
 | x :: ws, _, j + 1, h => by
  obtain ⟨v, r, e, a, b⟩ := h
  subst e
  exact ⟨v, _, rfl, a, RwL.eraseIdx j b⟩
theorem RwL.setL {s : S4} : ∀ {ws : List W} {vs : List V} (j : Nat) {w : W} {v : V}, RwL K s ws vs → Rw K s w v → RwL K s (ws.set j w) (vs.set j v)
 | [], _, _, _, _, h, _ => by rw [show _ = [] from h]; rfl
 | x :: ws, _, 0, w, v, h, r => by
  obtain ⟨u, t, e, a, b⟩ := h
  subst e
  exact ⟨v, t, rfl, r, b⟩
 | x :: ws, _, j + 1, w, v, h, r => by
  obtain ⟨u, t, e, a, b⟩ := h
  subst e
  exact ⟨u, _, rfl, a, RwL.setL j b r⟩
/-- the items are set anew -/
theorem go_set {s : S4} {i : Nat} {a : Addr} {xs ys : List W} {us : List V} {w : W} {v : V} {Q : VK} (R : Rel K ω s) (h0 : getL s.hp i = some xs) (ha : s.rho[i]? = some a) (l : RwL K s ys us) (rv : Rw K s w v)
  (g : Go K ω Wx (Rw K) s (.ok w (s.hp.set i (some (.lst ys)))) Q) : Q v (upd s.H a (.lst us)) := by
 have A := aft_setL R (zbo h0) ha (c := .lst ys) (o := .lst us)
 exact g v (s.setL i a (.lst ys) (.lst us)) rfl A (rel_setL R (zbo h0) ha ⟨us, rfl, l⟩) (rv.aft A R)
theorem ok_append : OpMOk K ω Wx zbl rAppend := by
 intro s w ws x xs Q R rx rxs go
 unfold zbl at go
 split at go
 ·rename_i i y
  obtain ⟨u, e, ru⟩ := RwL.one rxs
  subst e
  split at go
  ·rename_i zs hz
   split at go
   ·rename_i hn
    obtain ⟨a, vs, ex, e1, e2, l, _⟩ := R.lst hz rx
    exact ⟨a, vs, u, ex, rfl, e2, by rw [← RwL.length l, sizeLine_eq]; exact hn, go_set R hz e1 (RwL.append l (show RwL K s [_] [u] from ⟨u, [], rfl, ru, rfl⟩)) Yg go⟩
   ·exact go.elim
  ·exact go.elim
 ·exact go.elim
theorem hitems_eq {s : S4} (R : Rel K ω s) {w : W} {v : V} {ws : List W} (h : hitems s.hp w = some ws) (r : Rw K s w v) : ∃ p xs, v = .ref p ∧ s.H p = some (.lst xs) ∧ RwL K s ws xs := by
 unfold hitems at h
 split at h
 ·simp only [Option.some.injEq] at h
  subst h
  obtain ⟨p, xs, e, t, q⟩ : ∃ a vs, v = .ref a ∧ FLst s.fz s.H a vs ∧ RfL K s.fz s.H _ vs := by simpa only [Rw, Rf] using r
  exact ⟨p, xs, e, t.2, RwL.of_trees.mpr q⟩
 ·cases h
 ·obtain ⟨a, vs, e, _, e2, l, _⟩ := R.lst h r
  exact ⟨a, vs, e, e2, l⟩
theorem ok_pop : OpMOk K ω Wx oPop rPop := by
 intro s w ws x xs Q R rx rxs go
 unfold oPop at go
 split at go
 ·rename_i i
  have e : xs = [] := rxs
  subst e
  split at go
  ·rename_i zs hz
   split at go
   ·rename_i y hy
    obtain ⟨a, vs, ex, e1, e2, l, _⟩ := R.lst hz rx
    obtain ⟨u, hu, ru⟩ := RwL.get l hy
    exact ⟨a, vs, u, ex, rfl, e2, by rw [← RwL.length l]; exact hu, go_set R hz e1 (RwL.dropLast l) ru go⟩
   ·exact go.elim
  ·exact go.elim
 ·exact go.elim
theorem ok_popAt : OpMOk K ω Wx oPopAt rPopAt := by
 intro s w ws x xs Q R rx rxs go
 unfold oPopAt at go
 split at go
 ·rename_i i k
  obtain ⟨u, e, ru⟩ := RwL.one rxs
  simp only [Rw, Rf] at ru
  subst e ru
  split at go
  ·rename_i zs hz
   split at go
   ·rename_i hk
    split at go
    ·rename_i j hj
     split at go
     ·rename_i y hy
      obtain ⟨a, vs, ex, e1, e2, l, _⟩ := R.lst hz rx
      obtain ⟨u, hu, ru⟩ := RwL.get l hy
      exact ⟨a, vs, k, j, u, ex, rfl, e2, hk.1, hk.2, by rw [← RwL.length l]; exact hj, hu, go_set R hz e1 (RwL.eraseIdx j l) ru go⟩
     ·exact go.elim
    ·exact go.elim
   ·exact go.elim
  ·exact go.elim
 ·exact go.elim
end
section
variable {X : Cx} {Wx : WX} {o e : Expr} {Fo : M W} {Fs : M (List W)} {apos cpos : Pos}
theorem zdx (ho : IE X Wx o Fo) (ha : IA X Wx [e] Fs) (hb : attributeBase o "append" X.env Yes = eval o X.env := by rfl)
  (hfew : ((backTo cpos (starEach [e] X.env)).all (fun x => !x.1) && (backToKw cpos (keywordEach [] X.env)).all (fun x => x.1.isSome) && decide ([e].length + ([] : List Keyword).length + (if ([] : List Keyword).isEmpty then 0 else 1) < 30)) = true := by rfl)
  (hline : (apos.endLine == cpos.line) = true := by rfl) (hs : starEach [e] X.env = (false, eval e X.env) :: starEach [] X.env := by rfl) : IE X Wx (.Call (.Attribute o "append" apos) [e] [] cpos) (mMeth isL zbl Fo Fs) :=
 ie_lm F.slot_list_append F.type_list_append mt_append ok_append ho ha hb hfew hline hs rfl
theorem ie_pop (ho : IE X Wx o Fo) (hb : attributeBase o "pop" X.env Yes = eval o X.env := by rfl) (hline : (apos.endLine == cpos.line) = true := by rfl) :
  IE X Wx (.Call (.Attribute o "pop" apos) [] [] cpos) (mMeth0 isL oPop Fo) := ie_lm0 F.slot_list_pop F.type_list_pop mt_pop ok_pop ho hb hline
theorem ie_popAt (ho : IE X Wx o Fo) (ha : IA X Wx [e] Fs) (hb : attributeBase o "pop" X.env Yes = eval o X.env := by rfl)
  (hfew : ((backTo cpos (starEach [e] X.env)).all (fun x => !x.1) && (backToKw cpos (keywordEach [] X.env)).all (fun x => x.1.isSome) && decide ([e].length + ([] : List Keyword).length + (if ([] : List Keyword).isEmpty then 0 else 1) < 30)) = true := by rfl)
  (hline : (apos.endLine == cpos.line) = true := by rfl) (hs : starEach [e] X.env = (false, eval e X.env) :: starEach [] X.env := by rfl) : IE X Wx (.Call (.Attribute o "pop" apos) [e] [] cpos) (mMeth isL oPopAt Fo Fs) :=
 ie_lm F.slot_list_pop F.type_list_pop mt_popAt ok_popAt ho ha hb hfew hline hs rfl
end
end Mir
namespace Mir
open PySem PySem.Spec L2
open PyProof.Rows hiding St
def asK : W → Option Key | .t (.int i) => some (.inl i) | .t (.str x) => some (.inr x) | _ => none
def getD (hp : IH) (i : Nat) : Option (List Ye1) := match hp[i]? with
 | some (some (.dic kvs)) => some kvs
 | _ => none
def valW (kvs : List Ye1) (k : Key) : Option W := (kvs.find? fun kv => decide (kv.1 = k)).map (·.2)
def putW (kvs : List Ye1) (k : Key) (w : W) : List Ye1 :=
 if (kvs.any fun kv => decide (kv.1 = k)) = true then kvs.map (fun kv => if kv.1 = k then (kv.1, w) else kv) else kvs ++ [(k, w)]
def mergeW (kvs more : List Ye1) : List Ye1 := more.foldl (fun acc kv => putW acc kv.1 kv.2) kvs
section
variable {K : PySem.W.Frag} {ω : World} {s : S4}
theorem getD_eq {hp : IH} {i : Nat} {ws : List Ye1} (h : getD hp i = some ws) : hp[i]? = some (some (.dic ws)) := by
 unfold getD at h
 split at h
 ·rename_i kvs e
  simp only [Option.some.injEq] at h
  rw [e, h]
 ·cases h
theorem Rel.dic (R : Rel K ω s) {i : Nat} {v : V} {ws : List Ye1} (g : getD s.hp i = some ws) (r : Rw K s (.r i) v) : ∃ a vs, v = .ref a ∧ s.rho[i]? = some a ∧ s.H a = some (.dK vs) ∧ RwK K s ws vs ∧ ¬ s.fz a := by
 obtain ⟨a, e1, e2⟩ := r
 obtain ⟨vs, h1, h2⟩ := R.cell i _ a (getD_eq g) e1
 exact ⟨a, vs, e2, e1, h1, h2, R.fz a ⟨i, _, getD_eq g, e1⟩⟩
theorem RwK.val (k : Key) : ∀ {ws : List (Key × W)} {vs : List (Key × V)} {w : W}, RwK K s ws vs → valW ws k = some w → ∃ v, valV vs k = some v ∧ Rw K s w v
 | [], _, _, _, h => by simp [valW] at h
 | x :: ws, _, w, r, h => by
  obtain ⟨v, t, e, a, b⟩ := r
  subst e
  by_cases q : x.1 = k
  ·refine ⟨v, valV_pos (p := (x.1, v)) q, ?_⟩
   have : x.2 = w := by simpa [valW, List.find?_cons, q] using h
   rw [← this]; exact a
  ·have h' : valW ws k = some w := by simpa [valW, List.find?_cons, q] using h
   obtain ⟨u, h1, h2⟩ := RwK.val k b h'
   exact ⟨u, by rw [valV_neg (p := (x.1, v)) q]; exact h1, h2⟩
theorem RwK.none (k : Key) : ∀ {ws : List (Key × W)} {vs : List (Key × V)}, RwK K s ws vs → valW ws k = none → valV vs k = none
 | [], _, r, _ => by rw [show _ = [] from r]; rfl
 | x :: ws, _, r, h => by
  obtain ⟨v, t, e, a, b⟩ := r
  subst e
  by_cases q : x.1 = k
  ·simp [valW, List.find?_cons, q] at h
  ·have h' : valW ws k = Option.none := by simpa [valW, List.find?_cons, q] using h
   rw [valV_neg (p := (x.1, v)) q]
   exact RwK.none k b h'
theorem RwK.any (k : Key) : ∀ {ws : List (Key × W)} {vs : List (Key × V)}, RwK K s ws vs → (vs.any fun kv => decide (kv.1 = k)) = ws.any fun kv => decide (kv.1 = k)
 | [], _, r => by rw [show _ = [] from r]; rfl
 | x :: ws, _, r => by
  obtain ⟨v, t, e, a, b⟩ := r
  subst e
  rw [List.any_cons, List.any_cons, RwK.any k b]
theorem RwK.repl (k : Key) {w : W} {v : V} (rv : Rw K s w v) : ∀ {ws : List (Key × W)} {vs : List (Key × V)}, RwK K s ws vs → RwK K s (ws.map fun kv => if kv.1 = k then (kv.1, w) else kv) (vs.map fun kv => if kv.1 = k then (kv.1, v) else kv)
 | [], _, r => by rw [show _ = [] from r]; rfl
 | x :: ws, _, r => by
  obtain ⟨u, t, e, a, b⟩ := r
  subst e
  rw [List.map_cons, List.map_cons]
  by_cases q : x.1 = k
  ·rw [if_pos q, if_pos q]
   exact ⟨v, _, rfl, rv, RwK.repl k rv b⟩
  ·rw [if_neg q, if_neg q]
   exact ⟨u, _, rfl, a, RwK.repl k rv b⟩
theorem RwK.snoc {k : Key} {w : W} {v : V} (rv : Rw K s w v) : ∀ {ws : List (Key × W)} {vs : List (Key × V)}, RwK K s ws vs → RwK K s (ws ++ [(k, w)]) (vs ++ [(k, v)])
 | [], _, r => by rw [show _ = [] from r]; exact ⟨v, [], rfl, rv, rfl⟩
 | x :: ws, _, r => by
  obtain ⟨u, t, e, a, b⟩ := r
  subst e
  exact ⟨u, _, rfl, a, RwK.snoc rv b⟩
theorem RwK.put (k : Key) {w : W} {v : V} (rv : Rw K s w v) {ws : List Ye1} {vs : List (Key × V)} (r : RwK K s ws vs) : RwK K s (putW ws k w) (putK vs k v) := by
 unfold putW putK
 rw [r.any k]
 split
 ·exact r.repl k rv
 ·exact r.snoc rv
theorem RwK.length : ∀ {ws : List (Key × W)} {vs : List (Key × V)}, RwK K s ws vs → ws.length = vs.length
 | [], _, r => by rw [show _ = [] from r]; rfl
 | x :: ws, _, r => by
  obtain ⟨u, t, e, a, b⟩ := r
  subst e
  rw [List.length_cons, List.length_cons, RwK.length b]
end
/-- d[k] -/
def dGet : Op2 := fun a b hp => match a, asK b with
 | .r i, some k => (match (getD hp i).bind fun kvs => valW kvs k with | some w => .ok w hp | none => .bad)
 | _, _ => .bad
/-- d[k] = v: the value, the dict, the key -/
def mDPut (Fd Fk Fv : M W) : M Fl := fun eta hp => (Fv eta hp).bind fun v h1 => (Fd eta h1).bind fun d h2 => (Fk eta h2).bind fun k h3 => match d, asK k with
 | .r i, some k => (match getD h3 i with | some kvs => if kvs.length < 16777216 then .ok Ydu (h3.set i (some (.dic (putW kvs k v)))) else .bad | none => .bad)
 | _, _ => .bad
def mVals : List (Key × M W) → M (List Ye1)
 | [] => fun _ hp => .ok [] hp
 | (k, F) :: r => fun eta hp => (F eta hp).bind fun w h1 => (mVals r eta h1).bind fun ws h2 => .ok ((k, w) :: ws) h2
def mDisp (ps : List (Key × M W)) : M W := fun eta hp => (mVals ps eta (hp ++ [some (.dic [])])).bind fun kvs h1 => match getD h1 hp.length with
 | some [] => if kvs.length ≤ 15 then .ok Ycn (h1.set hp.length (some (.dic (mergeW [] kvs)))) else .bad
 | _ => .bad
end Mir
namespace Mir
open PySem PySem.Spec L2
open PyProof.Rows hiding St
/-- t + u of tuples, the object of a new one known -/
def rCatB (K : PySem.W.Frag) : R2 := fun x y H Q => ∃ a b xs ys, x = .ref a ∧ y = .ref b ∧ SqT K H a xs ∧ SqT K H b ys ∧ xs.length + ys.length ≤ sizeLine ∧
 (xs = [] → Q (.ref b) H) ∧ (xs ≠ [] → ys = [] → Q (.ref a) H) ∧ (xs ≠ [] → ys ≠ [] → ∀ (p : Addr) (o : Obj), H p = none → o.dict = none → Q (.ref p) (upd H p (.frz o (.tup (xs ++ ys)))))
theorem op_catB {X : Cx} : OpR X (binaryOp .Add) (rCatB X.K) := by
 intro pn s0 σ H x y v u Q J rx ry h
 obtain ⟨a, b, xs, ys, ex, ey, ha, hb, hz, q0, q1, q2⟩ := h
 subst ex ey
 by_cases hx : xs = []
 ·exact op_catA pn s0 σ H _ _ v u Q J rx ry ⟨a, b, xs, ys, rfl, rfl, ha, hb, hz, q0, fun c => absurd hx c, fun c => absurd hx c⟩
 ·cases rx
  cases ry
  obtain ⟨its, r1, p1, _⟩ := J.tuple ha
  obtain ⟨its2, r2, p2, _⟩ := J.tuple hb
  refine HT.cat_tup p1 p2 (fun z => hx (r1.nil_iff.mp z)) (fun z => ⟨.ref a, H, J, rfl, q1 hx (r2.nil_iff.mp z)⟩) (fun z => ?_) (by rw [← r1.length, ← r2.length]; exact hz)
  exact laid_tup (t' := s0.toks) J (r1.append r2) (by rw [List.length_append]; exact hz) (q2 hx fun c => z (r2.nil_iff.mpr c))
def wAdd : Op2 := fun a b hp => match a, b with
 | .t (.int i), .t (.int j) => .ok (.t (.int (i + j))) hp
 | .t (.str x), .t (.str y) => if x.length + y.length ≤ 16777216 then .ok (.t (.str (x ++ y))) hp else .bad
 | .t (.tup xs), .t (.tup ys) => if xs.length + ys.length ≤ 16777216 then .ok (.t (.tup (xs ++ ys))) hp else .bad
 | a, b => (match (hitems hp a).bind allT, (hitems hp b).bind allT with
  | some xs, some ys => if xs.length + ys.length ≤ 16777216 then .ok (.t (.lst (xs ++ ys))) hp else .bad
  | _, _ => .bad)
abbrev rAdd (K : PySem.W.Frag) : R2 := fun x y H Q => rI0 (fun i j => .int (i + j)) x y H Q ∨ (fun x y H Q => ∃ i j, x = .str i ∧ y = .str j ∧ i.length + j.length ≤ sizeLine ∧ Q (.str (i ++ j)) H : R2) x y H Q ∨ rCatB K x y H Q ∨ rCat x y H Q
theorem op_addA {X : Cx} : OpR X (binaryOp .Add) (rAdd X.K) := OpR.or op_add (OpR.or op_add_str (OpR.or op_catB op_cat))
section
variable {K : PySem.W.Frag} {ω : World} {Wx : WX}
theorem RfL.append {fz : Addr → Prop} {H : Hp} : ∀ {ws ws' : List T} {vs vs' : List V}, RfL K fz H ws vs → RfL K fz H ws' vs' → RfL K fz H (ws ++ ws') (vs ++ vs')
 | [], _, _, _, h, h' => by simp only [RfL] at h; subst h; exact h'
 | x :: xs, _, vs, _, h, h' => by
  simp only [RfL] at h
  obtain ⟨v, r, e, a, b⟩ := h
  subst e
  simp only [List.cons_append, RfL]
  exact ⟨v, _, rfl, a, RfL.append b h'⟩
theorem RfL.nil_of {fz : Addr → Prop} {H : Hp} {ts : List T} (h : RfL K fz H ts []) : ts = [] := by
 cases ts with
 | nil => rfl
 | cons t ts =>
  simp only [RfL] at h
  obtain ⟨v, r, e, _⟩ := h
  cases e
theorem ok_add : zc6 K ω Wx wAdd (rAdd K) := by
 intro s a b x y Q R ra rb go
 unfold wAdd at go
 split at go
 ·simp only [Rw, Rf] at ra rb
  exact .inl ⟨_, _, ra, rb, go _ s rfl Yh R Yg⟩
 ·split at go
  ·rename_i hz
   simp only [Rw, Rf] at ra rb
   exact .inr (.inl ⟨_, _, ra, rb, by rw [sizeLine_eq]; exact hz, go _ s rfl Yh R Yg⟩)
  ·exact go.elim
 ·split at go
  ·rename_i xs ys hz
   obtain ⟨p, us, e1, t1, q1⟩ : ∃ a vs, x = .ref a ∧ FTup K s.fz s.H a vs ∧ RfL K s.fz s.H xs vs := by simpa only [Rw, Rf] using ra
   obtain ⟨p2, us2, e2, t2, q2⟩ : ∃ a vs, y = .ref a ∧ FTup K s.fz s.H a vs ∧ RfL K s.fz s.H ys vs := by simpa only [Rw, Rf] using rb
   refine .inr (.inr (.inl ⟨p, p2, us, us2, e1, e2, t1.sq, t2.sq, by rw [← RfL.length q1, ← RfL.length q2, sizeLine_eq]; exact hz, fun c => ?_, fun _ c => ?_, fun _ _ q o np d => ?_⟩))
   ·subst c
    rw [RfL.nil_of q1] at go
    rw [← e2]
    exact go _ s rfl Yh R rb
   ·subst c
    rw [RfL.nil_of q2, List.append_nil] at go
    rw [← e1]
    exact go _ s rfl Yh R ra
   ·exact go (.ref q) (s.addF q (.frz o (.tup (us ++ us2)))) rfl (za9 R np) (zb2 R np) (addF_tup R np d (RfL.append q1 q2))
  ·exact go.elim
 ·split at go
  ·rename_i xs ys hx hy
   split at go
   ·rename_i hz
    rw [Option.bind_eq_some_iff] at hx hy
    obtain ⟨ws, h1, h2⟩ := hx
    obtain ⟨ws2, h3, h4⟩ := hy
    obtain ⟨p, us, e1, t1, q1⟩ := hitems_eq R h1 ra
    obtain ⟨p2, us2, e2, t2, q2⟩ := hitems_eq R h3 rb
    rw [zb4 h2] at q1
    rw [zb4 h4] at q2
    have l1 := RwL.of_trees.mp q1
    have l2 := RwL.of_trees.mp q2
    exact .inr (.inr (.inr ⟨p, p2, us, us2, e1, e2, t1, t2, by rw [← RfL.length l1, ← RfL.length l2, sizeLine_eq]; exact hz, fun q np =>
     go (.ref q) (s.addF q (.lst (us ++ us2))) rfl (za9 R np) (zb2 R np) (zds R np (RfL.append l1 l2))⟩))
   ·exact go.elim
  ·exact go.elim
end
def repT (n : Nat) (ts : List T) : List T := (List.replicate n ts).flatten
def wMul : Op2 := fun a b hp => match a, b with
 | .t (.int i), .t (.int j) => if cMul i j = true then .ok (.t (.int (i * j))) hp else .bad
 | a, .t (.int k) => (match (hitems hp a).bind allT with
  | some ts => if -(2 ^ 63) ≤ k ∧ k < 2 ^ 63 ∧ ts.length * k.toNat ≤ 16777216 then .ok (.t (.lst (repT k.toNat ts))) hp else .bad
  | none => .bad)
 | _, _ => .bad
abbrev rMulA : R2 := fun x y H Q => rI CMulW (fun i j => .int (i * j)) x y H Q ∨ rRep x y H Q
theorem op_mulA {X : Cx} : OpR X (binaryOp .Mult) rMulA := OpR.or op_mulW op_rep
theorem rep_rf {K : PySem.W.Frag} {fz : Addr → Prop} {H : Hp} {ts : List T} {vs : List V} (h : RfL K fz H ts vs) : ∀ n : Nat, RfL K fz H (repT n ts) (List.replicate n vs).flatten
 | 0 => by simp [repT, RfL]
 | n + 1 => by
  have := RfL.append h (rep_rf h n)
  simpa [repT, List.replicate_succ] using this
theorem ok_mul {K : PySem.W.Frag} {ω : World} {Wx : WX} : zc6 K ω Wx wMul rMulA := by
 intro s a b x y Q R ra rb go
 unfold wMul at go
 split at go
 ·split at go
  ·rename_i hc
   simp only [Rw, Rf] at ra rb
   exact .inl ⟨_, _, ra, rb, by simpa [cMul, CMulW] using hc, go _ s rfl Yh R Yg⟩
  ·exact go.elim
 ·rename_i k _
  split at go
  ·rename_i ts hx
   split at go
   ·rename_i hz
    rw [Option.bind_eq_some_iff] at hx
    obtain ⟨ws, h1, h2⟩ := hx
    obtain ⟨p, us, e1, t1, q1⟩ := hitems_eq R h1 ra
    rw [zb4 h2] at q1
    have l1 := RwL.of_trees.mp q1
    have ey : y = .int k := by simpa only [Rw, Rf] using rb
    exact .inr ⟨p, k, us, e1, ey, t1, hz.1, hz.2.1, by rw [← RfL.length l1, sizeLine_eq]; exact hz.2.2, fun q np =>
     go (.ref q) (s.addF q (.lst (List.replicate k.toNat us).flatten)) rfl (za9 R np) (zb2 R np) (zds R np (rep_rf l1 k.toNat))⟩
   ·exact go.elim
  ·exact go.elim
 ·exact go.elim
def wLt : Op2 := fun a b hp => match a, b with
 | .t (.int i), .t (.int j) => .ok (.t (.bl (decide (i < j)))) hp
 | .t (.str x), .t (.str y) => .ok (.t (.bl (ltCps x.cps.toList y.cps.toList))) hp
 | _, _ => .bad
abbrev rLtA : R2 := fun x y H Q => rI0 (fun i j => .bl (decide (i < j))) x y H Q ∨ (fun x y H Q => ∃ i j, x = .str i ∧ y = .str j ∧ Q (.bl (decide (i.cps.toList < j.cps.toList))) H : R2) x y H Q
theorem op_ltA {X : Cx} : OpR X (compareOp .Lt) rLtA := OpR.or op_lt op_lt_str
theorem ok_lt {K : PySem.W.Frag} {ω : World} {Wx : WX} : zc6 K ω Wx wLt rLtA := by
 intro s a b x y Q R ra rb go
 unfold wLt at go
 split at go
 ·simp only [Rw, Rf] at ra rb
  exact .inl ⟨_, _, ra, rb, go _ s rfl Yh R Yg⟩
 ·simp only [Rw, Rf] at ra rb
  exact .inr ⟨_, _, ra, rb, go _ s rfl Yh R (by simp only [Rw, Rf, ltCps_eq])⟩
 ·exact go.elim
section
variable {X : Cx} {Wx : WX} {a b c e : Expr} {Fa Fb Fc F : M W} {pos : Pos}
theorem zb9 (ha : IE X Wx a Fa) (hb : IE X Wx b Fb) : IE X Wx (.BinOp a .Add b pos) (mBin wAdd Fa Fb) := ie_bin op_addA ok_add ha hb
theorem ie_mulA (ha : IE X Wx a Fa) (hb : IE X Wx b Fb) : IE X Wx (.BinOp a .Mult b pos) (mBin wMul Fa Fb) := ie_bin op_mulA ok_mul ha hb
theorem it_ltA (ha : IE X Wx a Fa) (hb : IE X Wx b Fb) : IT X Wx (.Compare a [.Lt] [b] pos) (zai asB (mBin wLt Fa Fb)) := it_cmp op_ltA ok_lt ha hb Yfz
theorem t_chain {f f' : Op2} {r r' : R2} (hf : zc6 X.K X.w Wx f r) (hf' : zc6 X.K X.w Wx f' r') : ∀ σ H Q, tE X.K X.w Wx (mChain f f' Fa Fb Fc) σ H Q → tChain r r' (tE X.K X.w Wx Fa) (tE X.K X.w Wx Fb) (tE X.K X.w Wx Fc) σ H Q := by
 intro σ H Q h
 refine tM.bind2 (Fam' := Rw X.K) (R := fun (x y : V) (H2 : Hp) => r x y H2 fun z H3 => ∃ k, z = .bl k ∧ (if k = true then tE X.K X.w Wx Fc σ H3 (fun w' H4 => r' y w' H4 Q) else Q Yx H3))
  (k := fun a b eta h2 => (f a b h2).bind fun z h3 => match z with
   | .t (.bl true) => (Fc eta h3).bind fun c h4 => f' b c h4
   | .t (.bl false) => .ok (.t Yx) h3
   | _ => .bad) Rw.keep h fun s eta a b a' b' R1 S1 f1 f2 g => ?_
 refine hf s a a' b b' _ R1 f1 f2 (Go.bind g fun z z' s2 A2 R2 r2 _ g2 => ?_)
 split at g2
 ·simp only [Rw, Rf] at r2
  subst r2
  refine ⟨true, rfl, ?_⟩
  rw [if_pos rfl]
  exact ⟨s2, eta, rfl, R2, S1.aft A2 R1, Go.bind g2 fun w w' s3 A3 R3 r3 _ g3 => hf' s3 a' w b' w' Q R3 ((f2.aft A2 R1).aft A3 R2) r3 g3⟩
 ·simp only [Rw, Rf] at r2
  subst r2
  refine ⟨false, rfl, ?_⟩
  rw [if_neg Ybr]
  exact g2 _ s2 rfl (Aft.refl s2) R2 Yg
 ·exact g2.elim
theorem it_chain {op op' : CmpOp} {f f' : Op2} {r r' : R2} (ho : OpR X (compareOp op) r) (hf : zc6 X.K X.w Wx f r) (ho' : OpR X (compareOp op') r') (hf' : zc6 X.K X.w Wx f' r') (ha : IE X Wx a Fa) (hb : IE X Wx b Fb) (hc : IE X Wx c Fc)
  (hm : lastMarks [op, op'] [b, c] = false := by with_unfolding_all rfl) : IT X Wx (.Compare a [op, op'] [b, c] pos) (zai asB (mChain f f' Fa Fb Fc)) := PT.imp (pt_chain ho ho' ha hb hc hm) fun σ H Q h => by
 have h' : tE X.K X.w Wx (mChain f f' Fa Fb Fc) σ H (fun x H1 => ∃ k, x = .bl k ∧ Q k H1) := tM.bind1 (R := fun (x : V) (H1 : Hp) => ∃ k, x = .bl k ∧ Q k H1) (k := fun (a : W) _ hp => asB a hp) h fun s eta a b R1 _ f1 g => go_asB R1 f1 g
 exact t_chain hf hf' σ H _ h'
end
end Mir
namespace Mir
open PySem PySem.Spec L2
open PyProof.Rows hiding St
def mParG (n : Nat) (Fs : M (List W)) (Gs : List W → IS → Option IS) : M Fl := fun eta hp => (Fs eta hp).bind fun ws h1 => if ws.length = n ∧ n ≤ 16777216 then (match Gs ws eta with | some e => .ok (.nx e) h1 | none => .bad) else .bad
section
variable {X : Cx} {Wx : WX} {e : Expr} {es tgs : List Expr} {Fs : M (List W)} {F : M W} {pos p1 p2 : Pos} {gs : TGs} {Gs : List W → IS → Option IS} {vs : List Nat} {n k1 k2 : Nat}
def gA (n : Nat) (Gs : List W → IS → Option IS) : W → IS → Option IS := fun w eta => match w with
 | .t (.tup ts) => if ts.length = n then Gs Yo eta else none
 | .t (.pr ts) => if ts.length = n then Gs Yo eta else none
 | .t (.lst ts) => if ts.length = n then Gs Yo eta else none
 | _ => none
theorem PG.or {t t' : TG} (h : PG X e t) (h' : PG X e t') : PG X e (fun v σ H Q => t v σ H Q ∨ t' v σ H Q) := ⟨fun pins s σ H v u Q I r hw => by
 rcases hw with q | q
 ·exact h.run pins s σ H v u Q I r q
 ·exact h'.run pins s σ H v u Q I r q⟩
end
def mIput (Fd Fk Fv : M W) : M Fl := fun eta hp => (Fv eta hp).bind fun v h1 => (Fd eta h1).bind fun d h2 => (Fk eta h2).bind fun k h3 => match d, k with
 | .r i, .t (.int k) => (match getL h3 i with | some xs => (match ixN xs.length k with | some j => .ok Ydu (h3.set i (some (.lst (xs.set j v)))) | none => .bad) | none => .bad)
 | _, _ => .bad
section
variable {X : Cx} {Wx : WX} {o i value : Expr} {Fo Fi Fv : M W} {pos pos' : Pos}
theorem st_iput (ho : IE X Wx o Fo) (hi : IE X Wx i Fi) (hv : IE X Wx value Fv)
  (ha : ∀ v, assign (.Subscript o i pos') X.env v = (do
   let ov ← holding [v] Yes
   let iv ← holding [v, ov] (eval i X.env)
   standAt pos'
   holding [v, ov, iv] (setItem ov iv v)
   release [v, ov, iv] []) := by intro _; rfl) (hs : swapsWithSole [.Subscript o i pos'] value pos.line X.env = pure false := by rfl) (hw : swappedStores [.Subscript o i pos'] value X.env = pure none := by rfl)
  (h1 : (assignEach [.Subscript o i pos'] X.env).map (·.2) = [assign (.Subscript o i pos') X.env] := by rfl) : ISt X Wx (.Assign [.Subscript o i pos'] value pos) (mIput Fo Fi Fv) :=
 PS.imp (ps_asg hv (pg_sub ho hi set_list ha) hs hw h1) fun D σ H h =>
  tM.bind1 (R := fun v H1 => tE X.K X.w Wx Fo σ H1 fun x H2 => tE X.K X.w Wx Fi σ H2 fun y H3 => rSetL x y v H3 fun H4 => D.nx σ H4)
   (k := fun v eta h1 => (Fo eta h1).bind fun d h2 => (Fi eta h2).bind fun k h3 => (match d, k with
    | .r i, .t (.int k) => (match getL h3 i with | some xs => (match ixN xs.length k with | some j => .ok (Fl.nx eta) (h3.set i (some (.lst (xs.set j v)))) | none => .bad) | none => .bad)
    | _, _ => .bad : Res Fl)) h fun s eta a b R1 S1 f1 g1 => by
   refine ⟨s, eta, rfl, R1, S1, Go.bind g1 fun d d' s2 A2 R2 r2 _ g2 => ?_⟩
   refine ⟨s2, eta, rfl, R2, S1.aft A2 R1, Go.bind g2 fun k k' s3 A3 R3 r3 _ g3 => ?_⟩
   have S3 := (S1.aft A2 R1).aft A3 R2
   have rd := r2.aft A3 R2
   have rv := (f1.aft A2 R1).aft A3 R2
   split at g3
   ·rename_i i k _ _
    split at g3
    ·rename_i xs hx
     split at g3
     ·rename_i j hj
      obtain ⟨p, vs, e, e1, e2, l, _⟩ := R3.lst hx rd
      have ek : k' = .int k := by simpa only [Rw, Rf] using r3
      have A := aft_setL R3 (zbo hx) e1 (c := .lst (xs.set j a)) (o := .lst (vs.set j b))
      exact ⟨p, vs, k, j, e, ek, e2, by rw [← RwL.length l]; exact hj, Go.nx (s := s3.setL i p (.lst (xs.set j a)) (.lst (vs.set j b))) (rel_setL R3 (zbo hx) e1 ⟨_, rfl, RwL.setL j l rv⟩) (S3.aft A R3) (Go.aft g3 A)⟩
     ·exact g3.elim
    ·exact g3.elim
   ·exact g3.elim
end
def mFz (i : Nat) (B : M Fl) : M Fl := fun eta hp => match eta[i]? with
 | some (some w) => (zcz w hp).bind fun w' h1 => B (eta.set i (some w')) h1
 | _ => .bad
section
variable {X : Cx} {Wx : WX} {rest : List Stmt} {B : M Fl}
theorem sl_same {K : PySem.W.Frag} {s : S4} {eta : IS} {σ : St} (S1 : Sl K s eta σ) (i : Nat) {w : W} {v : V} (h : σ[i]? = some (some v)) (r : Rw K s w v) : Sl K s Yga σ := by
 have q := S1.set i r
 have e : σ.set i (some v) = σ := by
  apply List.ext_getElem?
  intro j
  by_cases hj : i = j
  ·subst hj
   rw [List.getElem?_set_self (by exact (List.getElem?_eq_some_iff.mp h).1), h]
  ·rw [List.getElem?_set_ne hj]
 rw [e] at q
 exact q
theorem is_fz (i : Nat) (h : ISs X Wx rest B) : ISs X Wx rest (mFz i B) := PSs.imp h fun D σ H q => by
 obtain ⟨s, eta, e1, R1, S1, g⟩ := q
 unfold mFz at g
 split at g
 ·rename_i w hw
  obtain ⟨v, h1, h2⟩ := S1.2 i w hw
  cases w with
  | t x => exact ⟨s, _, e1, R1, sl_same S1 i h1 h2, g⟩
  | r j =>
   simp only [zcz] at g
   cases hl : (getL s.hp j).bind allT with
   | none => simp only [hl] at g; exact g.elim
   | some ts =>
    simp only [hl] at g
    rw [Option.bind_eq_some_iff] at hl
    obtain ⟨ws, q1, q2⟩ := hl
    obtain ⟨a, vs, e, ea, e2, l, _⟩ := R1.lst q1 h2
    subst e
    have A := aft_frz R1 (zbo q1) ea
    rw [zb4 q2] at l
    refine ⟨s.frz j a, _, e1, rel_frz R1 (zbo q1) ea, sl_same (S1.aft A R1) i h1 ?_, Go.aft g A⟩
    simp only [Rw, Rf]
    exact ⟨a, vs, rfl, ⟨.inr rfl, e2⟩, RfL.aft A R1 _ _ Yd7⟩
 ·exact g.elim
end
def oRepr : OpN := fun ws hp => match ws with
 | [w] => (match asT hp w with
  | some x => if fit x 60 = true ∧ (dat x).showable = true ∧ (dat x).shown.length ≤ 16777216 then .ok (.t (.str (dat x).shown)) hp else .bad
  | none => .bad)
 | _ => .bad
theorem fit_nodict : ∀ (x : T) (n : Nat), fit x n = true → (dat x).hasDict = false
 | .non, _, _ => rfl
 | .bl _, _, _ => rfl
 | .int _, _, _ => rfl
 | .str _, _, _ => rfl
 | .tup xs, 0, h => by simp [fit] at h
 | .tup xs, n + 1, h => by
  have : ∀ (xs : List T), fitL xs n = true → PyData.hasDictAll (datL xs) = false := by
   intro xs
   induction xs with
   | nil => intro _; rfl
   | cons x xs ih =>
    intro h
    simp only [fitL, Bool.and_eq_true] at h
    simp only [datL, PyData.hasDictAll, fit_nodict x n h.1, ih h.2, Bool.or_self]
  simpa [dat, PyData.hasDict] using this xs Ygt
 | .lst xs, 0, h => by simp [fit] at h
 | .lst xs, n + 1, h => by
  have : ∀ (xs : List T), fitL xs n = true → PyData.hasDictAll (datL xs) = false := by
   intro xs
   induction xs with
   | nil => intro _; rfl
   | cons x xs ih =>
    intro h
    simp only [fitL, Bool.and_eq_true] at h
    simp only [datL, PyData.hasDictAll, fit_nodict x n h.1, ih h.2, Bool.or_self]
  simpa [dat, PyData.hasDict] using this xs Ygt
 | .scr _, _, h => by simp [fit] at h
 | .pr _, _, h => by simp [fit] at h
 | .ty _, _, h => by simp [fit] at h
 | .dic _ _, _, h => by simp [fit] at h
 | .ins _ _ _, _, h => by simp [fit] at h
 | .cls _, _, h => by simp [fit] at h
 | .dit _ _, _, h => by simp [fit] at h
 | .exc _ _ _, _, h => by simp [fit] at h
termination_by _ n => n
def rRepr (K : PySem.W.Frag) : List V → Hp → VK → Prop := fun xs H Q => ∃ v d, xs = [v] ∧ Dp K H v d ∧ d.hasDict = false ∧ d.showable = true ∧ d.depth ≤ 60 ∧ d.shown.length ≤ sizeLine ∧ Q (.str d.shown) H
theorem call_reprD {X : Cx} (hgd : X.A.guards = some []) (hu : X.A.units + 64 < cLine) : CallR X (.builtin "repr") (rRepr X.K) := by
 intro pn s0 σ H xs us Q J r h
 obtain ⟨v, d, rfl, hd, hnd, hs, hdp, hz, q⟩ := h
 obtain ⟨u, rfl, rx⟩ := vals1 r
 obtain ⟨as, rd⟩ := Dp.reads J d v u hd rx
 have fin : ∀ (h' : Heap) (t : Tok) (tk : Nat), (∀ b o, s0.heap.get? b = some o → h'.get? b = some o) → EP X pn σ Q (.str d.shown t) { s0 with heap := h', toks := tk } := fun h' t tk hk => ⟨.str d.shown, H, J.kept (t' := tk) hk, ⟨t, rfl⟩, q⟩
 cases d with
 | none => cases rd; exact PySem.P.repr_of_none Yev
 | bool b =>
  cases rd
  cases b
  ·exact PySem.P.repr_of_bool Yev
  ·exact PySem.P.repr_of_bool Yev
 | int i =>
  cases rd
  exact PySem.P.repr_of_int (by simpa [PyData.showable] using hs) Yev
 | str x =>
  cases rd
  rw [PyData.shown_str] at hz
  exact PySem.P.repr_of_str (by have := fin s0.heap s0.toks (s0.toks + 1) fun _ _ e => e; rwa [PyData.shown_str] at this) hz
 | list xs =>
  obtain ⟨a, ea⟩ : ∃ a, u = .ref a := by cases rd; exact ⟨_, rfl⟩
  subst ea
  exact repr_of_reads' rd hs (fun z => by rw [hnd] at z; cases z) hgd Yc (fun _ _ e => e) fin hz
 | tuple xs =>
  obtain ⟨a, ea⟩ : ∃ a, u = .ref a := by cases rd; exact ⟨_, rfl⟩
  subst ea
  exact repr_of_reads' rd hs (fun z => by rw [hnd] at z; cases z) hgd Yc (fun _ _ e => e) fin hz
 | dict kvs => simp [PyData.hasDict] at hnd
theorem ok_repr {K : PySem.W.Frag} {ω : World} {Wx : WX} : OpNOk K ω Wx oRepr (rRepr K) := by
 intro s ws xs Q R r go
 unfold oRepr at go
 split at go
 ·obtain ⟨v, e, rv⟩ := RwL.one r
  subst e
  split at go
  ·rename_i x hx
   split at go
   ·rename_i hf
    exact ⟨v, dat x, rfl, asT_dp R hx rv hf.1, fit_nodict x 60 hf.1, hf.2.1, (zdi x 60 hf.1).2, by rw [sizeLine_eq]; exact hf.2.2, go _ s rfl Yh R Yg⟩
   ·exact go.elim
  ·exact go.elim
 ·exact go.elim
end Mir
namespace Mir
open PySem PySem.Spec L2
open PyProof.Rows hiding St
/-- xs[::-1], a list that lives on -/
def oRevL : Op1 := fun a hp => match zdj hp a with
 | some ws => .ok Ycn (hp ++ [some (.lst ws.reverse)])
 | none => .bad
theorem RwL.rev {K : PySem.W.Frag} {s : S4} : ∀ {ts : List W} {vs : List V}, RwL K s ts vs → RwL K s ts.reverse vs.reverse
 | [], _, h => by rw [show _ = [] from h]; rfl
 | x :: xs, vs, h => by
  obtain ⟨v, r, e, a, b⟩ := h
  subst e
  rw [List.reverse_cons, List.reverse_cons]
  exact RwL.append (RwL.rev b) (show RwL K s [x] [v] from ⟨v, [], rfl, a, rfl⟩)
section
variable {X : Cx} {Wx : WX} {e st a : Expr} {F : M W} {pos p3 p p1 pos1 : Pos} {live : Bool}
theorem t_revLv : ∀ σ H Q, tE X.K X.w Wx (mUn oRevL F) σ H Q → tRevL X.K (tE X.K X.w Wx F) σ H Q := fun σ H Q h =>
 tM.bind1 (R := fun (x : V) (H1 : Hp) => ∃ a xs, x = .ref a ∧ SqL X.K H1 a xs ∧ ∀ p, H1 p = none → Q (.ref p) (upd H1 p (.lst xs.reverse))) (k := fun (a : W) _ hp => oRevL a hp) h fun s eta a b R1 _ f1 g => by
  unfold oRevL at g
  split at g
  ·rename_i ws h1
   obtain ⟨p, us, e1, t1, q1⟩ := litems_sq R1 h1 f1
   exact ⟨p, us, e1, t1, fun q np => g (.ref q) (s.addL q (.lst ws.reverse) (.lst us.reverse)) rfl (aft_addL R1 np) (rel_addL R1 np ⟨_, rfl, RwL.rev q1⟩) (addL_r R1)⟩
  ·exact g.elim
theorem ie_revL {k : Nat} {p1 p2 : Pos} (he : IE X Wx e F) : IE X Wx (.Subscript e (.Slice none none (some (.UnaryOp .USub (.Constant (.int 1) k p1) p2)) p3) pos) (mUn oRevL F) := PE.imp (pe_revL he) t_revLv
end
end Mir
namespace Mir
open PySem PySem.Spec L2
open PyProof.Rows hiding St
end Mir
namespace Mir
open PySem PySem.Spec L2
open PyProof.Rows hiding St
theorem Sl.congr {K : PySem.W.Frag} {s s' : S4} {eta : IS} {σ : St} (hr : s'.rho = s.rho) (hf : ∀ a, s.fz a → s'.fz a) (k : ∀ a, s.fz a → s'.H a = s.H a) (h : Sl K s eta σ) : Sl K s' eta σ :=
 ⟨h.1, fun i w e => let ⟨v, a, b⟩ := h.2 i w e; ⟨v, a, b.congr hr hf k⟩⟩
end Mir
namespace Mir
open PySem PySem.Spec L2
open PyProof.Rows hiding St
end Mir
namespace Mir
open PySem PySem.Spec L2
open PyProof.Rows hiding St
end Mir
namespace Mir
open PySem PySem.Spec L2
open Sem (wp)
end Mir
namespace Mir
open PySem PySem.Spec L2
open PyProof.Rows hiding St
section
variable {K : PySem.W.Frag} {ω : World} {s : S4}
theorem RwK.split : ∀ {ws : List (Key × W)} {vs : List (Key × V)} {ts : List T}, RwK K s ws vs → allT (ws.map (·.2)) = some ts → RfL K s.fz s.H ts (vs.map (·.2)) ∧ vs = (ws.map (·.1)).zip (vs.map (·.2)) := by
 intro ws
 induction ws with
 | nil =>
  intro vs ts h e
  rw [show vs = [] from h]
  have e' : ts = [] := by simpa [allT] using e.symm
  subst e'
  exact ⟨by simp [RfL], rfl⟩
 | cons x xs ih =>
  intro vs ts h e
  obtain ⟨v, r, e1, a, b⟩ := h
  subst e1
  have q := zb4 e
  cases ts with
  | nil => cases q
  | cons t ts =>
   simp only [List.map_cons, List.cons.injEq] at q
   obtain ⟨q1, q2⟩ := q
   have e2 : allT (xs.map (·.2)) = some ts := by
    rw [q2]
    clear e ih q2 b
    induction ts with
    | nil => rfl
    | cons u us ih => simp [allT, ih]
   obtain ⟨i1, i2⟩ := ih b e2
   rw [q1] at a
   refine ⟨?_, ?_⟩
   ·simp only [List.map_cons, RfL]
    exact ⟨v, _, rfl, a, i1⟩
   ·simp only [List.map_cons, List.zip_cons_cons]
    rw [← i2]
end
def freezeD (w : W) (hp : IH) : Res W := match w with
 | .r i => (match getD hp i with
  | some kvs => (match allT (kvs.map (·.2)) with | some ts => .ok (.t (.dic (kvs.map (·.1)) ts)) (hp.set i none) | none => .bad)
  | none => .bad)
 | _ => .bad
def mFrzD (F : M W) : M W := fun eta hp => (F eta hp).bind fun a h1 => freezeD a h1
section
variable {X : Cx} {Wx : WX} {e m k v : Expr} {F Fd Fk Fv : M W} {pos : Pos}
theorem RwK.isSome {K : PySem.W.Frag} {s : S4} (k : Key) {ws : List Ye1} {vs : List (Key × V)} (r : RwK K s ws vs) : (valV vs k).isSome = (valW ws k).isSome := by
 cases h : valW ws k with
 | none => rw [r.none k h]; rfl
 | some w => obtain ⟨v, h1, _⟩ := r.val k h; rw [h1]; rfl
end
end Mir
namespace Mir
open PySem PySem.Spec L2
open PyProof.Rows hiding St
end Mir
namespace Mir
open PySem PySem.Spec L2
open PyProof.Rows hiding St
end Mir
namespace Mir
open PySem PySem.Spec L2
open PyProof.Rows hiding St
def keyT : T → Option Key
 | .int i => some (.inl i)
 | .str x => some (.inr x)
 | _ => none
def keysT : List T → Option (List Key)
 | [] => some []
 | t :: r => match keyT t, keysT r with
  | some k, some ks => some (k :: ks)
  | _, _ => none
def putG (kvs : List Yd9) (k : List Key) (v : T) : List Yd9 :=
 if (kvs.any fun kv => decide (kv.1 = k)) = true then kvs.map (fun kv => if kv.1 = k then (kv.1, v) else kv) else kvs ++ [(k, v)]
def valD2 (kvs : List Yd9) (k : List Key) : Option T := (kvs.find? fun kv => decide (kv.1 = k)).map (·.2)
section
variable {K : PySem.W.Frag} {ω : World} {Wx : WX} {s : S4}
abbrev RD (K : PySem.W.Frag) (fz : Addr → Prop) (H : Hp) : List Yd9 → List Ye0 → Prop := Paired fun e p => p.1 = e.1 ∧ Rf K fz H e.2 p.2
theorem RD.any {fz : Addr → Prop} {H : Hp} {l : List Yd9} {kvs : List Ye0} (r : RD K fz H l kvs) (k : List Key) : (kvs.any fun kv => decide (kv.1 = k)) = l.any fun kv => decide (kv.1 = k) := by
 induction r with
 | nil => rfl
 | cons h t ih => simp only [List.any_cons, ih, h.1]
theorem RD.repl {fz : Addr → Prop} {H : Hp} {l : List Yd9} {kvs : List Ye0} (r : RD K fz H l kvs) (k : List Key) {x : T} {v : V} (h : Rf K fz H x v) :
  RD K fz H (l.map fun kv => if kv.1 = k then (kv.1, x) else kv) (kvs.map fun kv => if kv.1 = k then (kv.1, v) else kv) := by
 induction r with
 | nil => exact .nil
 | @cons e p _ _ h1 t ih =>
  rw [List.map_cons, List.map_cons]
  refine .cons ?_ ih
  by_cases q : e.1 = k
  ·rw [if_pos q, if_pos (h1.1.trans q)]; exact ⟨h1.1, h⟩
  ·rw [if_neg q, if_neg (fun z => q (h1.1.symm.trans z))]; exact h1
theorem RD.put {fz : Addr → Prop} {H : Hp} {l : List Yd9} {kvs : List Ye0} (r : RD K fz H l kvs) (k : List Key) {x : T} {v : V} (h : Rf K fz H x v) : RD K fz H (putG l k x) (putK kvs k v) := by
 unfold putG putK
 rw [r.any k]
 split
 ·exact r.repl k h
 ·exact Paired.snoc r ⟨rfl, h⟩
theorem RD.zip {fz : Addr → Prop} {H : Hp} {l : List Yd9} {kvs : List Ye0} (r : RD K fz H l kvs) : kvs = (l.map (·.1)).zip (kvs.map (·.2)) ∧ RfL K fz H (l.map (·.2)) (kvs.map (·.2)) := by
 induction r with
 | nil => exact ⟨rfl, by simp [RfL]⟩
 | @cons e p _ _ h t ih =>
  refine ⟨?_, ?_⟩
  ·simp only [List.map_cons, List.zip_cons_cons]
   rw [← ih.1, ← h.1]
  ·simp only [List.map_cons, RfL]
   exact ⟨_, _, rfl, h.2, ih.2⟩
theorem RD.val {fz : Addr → Prop} {H : Hp} {l : List Yd9} {kvs : List Ye0} (r : RD K fz H l kvs) (k : List Key) : (valD2 l k = none ∧ valV kvs k = none) ∨ ∃ x v, valD2 l k = some x ∧ valV kvs k = some v ∧ Rf K fz H x v := by
 induction r with
 | nil => exact .inl ⟨rfl, rfl⟩
 | @cons e p _ _ h t ih =>
  by_cases q : e.1 = k
  ·refine .inr ⟨e.2, p.2, ?_, valV_pos (h.1.trans q), h.2⟩
   simp [valD2, List.find?_cons, q]
  ·have e1 : valV (p :: _) k = valV _ k := valV_neg (r := by assumption) (fun z => q (h.1.symm.trans z))
   have e2 : ∀ r, valD2 (e :: r) k = valD2 r k := fun r => by simp [valD2, List.find?_cons, q]
   rw [e1, e2]
   exact ih
theorem keys_rf {fz : Addr → Prop} {H : Hp} : ∀ {ts : List T} {vs : List V} {ks : List Key}, keysT ts = some ks → RfL K fz H ts vs → vs = ks.map kV
 | [], vs, ks, h, r => by
  simp only [keysT, Option.some.injEq] at h
  subst h
  simp only [RfL] at r
  exact r
 | t :: ts, vs, ks, h, r => by
  unfold keysT at h
  split at h
  ·rename_i k ks' h1 h2
   cases h
   simp only [RfL] at r
   obtain ⟨v, r', rfl, a, b⟩ := r
   rw [keys_rf h2 b, List.map_cons]
   refine congrArg (· :: _) ?_
   unfold keyT at h1
   split at h1
   ·cases h1; simp only [Rf] at a; exact a
   ·cases h1; simp only [Rf] at a; exact a
   ·cases h1
  ·cases h
end
end Mir
namespace Mir
open PySem PySem.Spec L2
open PyProof.Rows hiding St
section
variable {prog : Program} {w : World}
theorem SeqH.there {h : Heap} {kd : Kd} {a : Addr} {its : Array Value} (x : SeqH h kd a its) : ∃ o, h.get? a = some o := by
 cases kd with
 | l => obtain ⟨o, e, _⟩ := x; exact ⟨o, e⟩
 | t => obtain ⟨o, e, _⟩ := x; exact ⟨o, e⟩
theorem SeqH.kp {h h' : Heap} {kd : Kd} {a : Addr} {its : Array Value} (x : SeqH h kd a its) (k : ∀ o, h.get? a = some o → h'.get? a = some o) : SeqH h' kd a its := by
 cases kd with
 | l => obtain ⟨o, e, r⟩ := x; exact ⟨o, k o e, r⟩
 | t => obtain ⟨o, e, r⟩ := x; exact ⟨o, k o e, r⟩
end
end Mir
namespace Mir
open PySem PySem.Spec L2
open PyProof.Rows hiding St
section
variable {A B : Type} {eta : IS} {hp : IH}
@[simp] theorem zae {a : A} {k : A → IH → Res B} : (Res.ok a hp).bind k = k a hp := rfl
@[simp] theorem bind_bad {k : A → IH → Res B} : (Res.bad : Res A).bind k = .bad := rfl
@[simp] theorem bind_er {e : Ex} {k : A → IH → Res B} : (Res.er e eta hp : Res A).bind k = .er e eta hp := rfl
@[simp] theorem zb8 {a : A} : noEr (Res.ok a hp) = Res.ok a hp := rfl
@[simp] theorem noEr_bad : noEr (Res.bad : Res A) = .bad := rfl
@[simp] theorem then_nx {S : M Fl} {e : IS} : thenF S (.nx e) hp = S e hp := rfl
@[simp] theorem then_rt {S : M Fl} {w : W} : thenF S (.rt w) hp = .ok (.rt w) hp := rfl
@[simp] theorem then_bk {S : M Fl} {e : IS} : thenF S (.bk e) hp = .ok (.bk e) hp := rfl
@[simp] theorem then_ct {S : M Fl} {e : IS} : thenF S (.ct e) hp = .ok (.ct e) hp := rfl
@[simp] theorem p_var {i : Nat} : mVar i eta hp = (match eta[i]? with | some (some w) => .ok w hp | _ => .bad) := rfl
@[simp] theorem p_c {x : T} : mC x eta hp = (.ok (.t x) hp) := rfl
@[simp] theorem p_bin {f : Op2} {Fa Fb : M W} : mBin f Fa Fb eta hp = ((Fa eta hp).bind fun a h1 => (Fb eta h1).bind fun b h2 => f a b h2) := rfl
@[simp] theorem p_un {f : Op1} {Fa : M W} : mUn f Fa eta hp = ((Fa eta hp).bind fun a h1 => f a h1) := rfl
@[simp] theorem p_nil  : mNil eta hp = (.ok [] hp) := rfl
@[simp] theorem p_cons {Fa : M W} {Fr : M (List W)} : zab Fa Fr eta hp = ((Fa eta hp).bind fun a h1 => (Fr eta h1).bind fun r h2 => .ok (a :: r) h2) := rfl
@[simp] theorem p_star {Fa : M W} {Fr : M (List W)} : mStar Fa Fr eta hp = ((Fa eta hp).bind fun a h1 => match items h1 a with | some ws => (Fr eta h1).bind fun r h2 => .ok (ws ++ r) h2 | none => .bad) := rfl
@[simp] theorem p_app {f : OpN} {Fs : M (List W)} : mApp f Fs eta hp = ((Fs eta hp).bind fun a h1 => f a h1) := rfl
@[simp] theorem p_frz {F : M W} : mFrz F eta hp = ((F eta hp).bind fun a h1 => zcz a h1) := rfl
@[simp] theorem p_test {f : W → IH → Res Bool} {F : M W} : zai f F eta hp = ((F eta hp).bind fun a h1 => f a h1) := rfl
@[simp] theorem p_and {U V : M Bool} : mAnd U V eta hp = ((U eta hp).bind fun a h1 => if a then V eta h1 else .ok false h1) := rfl
@[simp] theorem p_or {U V : M Bool} : mOr U V eta hp = ((U eta hp).bind fun a h1 => if a then .ok true h1 else V eta h1) := rfl
@[simp] theorem p_not {U : M Bool} : mNot U eta hp = ((U eta hp).bind fun a h1 => .ok (!a) h1) := rfl
@[simp] theorem p_if {A : Type} {U : M Bool} {F G : M A} : mIf U F G eta hp = ((U eta hp).bind fun b h1 => if b then F eta h1 else G eta h1) := rfl
@[simp] theorem p_andV {Fa Fb : M W} : mAndV Fa Fb eta hp = ((Fa eta hp).bind fun a h1 => match a with | .t (.bl true) => Fb eta h1 | .t (.bl false) => .ok (.t Yx) h1 | _ => .bad) := rfl
@[simp] theorem p_orV {Fa Fb : M W} : mOrV Fa Fb eta hp = ((Fa eta hp).bind fun a h1 => match a with | .t (.bl true) => .ok (.t Yb5) h1 | .t (.bl false) => Fb eta h1 | _ => .bad) := rfl
@[simp] theorem p_notV {Fa : M W} : mNotV Fa eta hp = ((Fa eta hp).bind fun a h1 => match a with | .t (.bl b) => .ok (.t (.bl (!b))) h1 | _ => .bad) := rfl
@[simp] theorem p_chain {f g : Op2} {Fa Fb Fc : M W} : mChain f g Fa Fb Fc eta hp = ((Fa eta hp).bind fun a h1 => (Fb eta h1).bind fun b h2 => (f a b h2).bind fun z h3 => match z with | .t (.bl true) => (Fc eta h3).bind fun c h4 => g b c h4 | .t (.bl false) => .ok (.t Yx) h3 | _ => .bad) := rfl
@[simp] theorem p_skip  : zbm eta hp = (.ok Ydu hp) := rfl
@[simp] theorem p_seq {S R : M Fl} : mSeq S R eta hp = ((S eta hp).bind (thenF R)) := rfl
@[simp] theorem p_ret {F : M W} : mRet F eta hp = ((F eta hp).bind fun a h1 => .ok (.rt a) h1) := rfl
@[simp] theorem p_retN  : mRetN eta hp = (.ok (.rt Yco) hp) := rfl
@[simp] theorem p_drop {F : M W} : mDrop F eta hp = ((F eta hp).bind fun _ h1 => .ok Ydu h1) := rfl
@[simp] theorem p_brk  : mBrk eta hp = (.ok (.bk eta) hp) := rfl
@[simp] theorem p_cnt  : mCnt eta hp = (.ok (.ct eta) hp) := rfl
@[simp] theorem p_asg {F : M W} {G : W → IS → Option IS} : mAsg F G eta hp = ((F eta hp).bind fun a h1 => match G a eta with | some e => .ok (.nx e) h1 | none => .bad) := rfl
@[simp] theorem p_set {i : Nat} {F : M W} : mSet i F eta hp = ((F eta hp).bind fun a h1 => .ok (.nx Ygc) h1) := rfl
@[simp] theorem p_par {is : List Nat} {Fs : M (List W)} : mPar is Fs eta hp = ((Fs eta hp).bind fun ws h1 => if ws.length = is.length then .ok (.nx ((is.zip ws).foldl Yg2 eta)) h1 else .bad) := rfl
@[simp] theorem p_parG {n : Nat} {Fs : M (List W)} {Gs : List W → IS → Option IS} : mParG n Fs Gs eta hp = ((Fs eta hp).bind fun ws h1 => if ws.length = n ∧ n ≤ 16777216 then (match Gs ws eta with | some e => .ok (.nx e) h1 | none => .bad) else .bad) := rfl
@[simp] theorem p_aug {i : Nat} {f : Op2} {F : M W} : mAug i f F eta hp = (match eta[i]? with | some (some x) => (F eta hp).bind fun y h1 => (f x y h1).bind fun z h2 => .ok (.nx (eta.set i (some z))) h2 | _ => .bad) := rfl
@[simp] theorem p_for {Fi : M (List W)} {G : W → IS → Option IS} {S : M Fl} : mFor Fi G S eta hp = ((Fi eta hp).bind fun ws h1 => forL G S ws eta h1) := rfl
@[simp] theorem p_while {n : Nat} {U : M Bool} {S : M Fl} : mWhile n U S eta hp = (zdu U S n eta hp) := rfl
@[simp] theorem p_comp {fin : OpN} {Fi : M (List W)} {G : W → IS → Option IS} {U : M Bool} {E : M W} {vs : List Nat} : zba fin Fi G U E vs eta hp = ((Fi eta hp).bind fun ws h1 => if ws.length ≤ 16777216 then (zc3 G U E (wipeI eta vs) ws h1).bind fun r h2 => fin r h2 else .bad) := rfl
@[simp] theorem p_sq {F : M W} : mSq F eta hp = ((F eta hp).bind sqI) := rfl
@[simp] theorem p_src {f : List W → IH → Res (List W)} {Fs : M (List W)} : mSrc f Fs eta hp = ((Fs eta hp).bind f) := rfl
@[simp] theorem p_yes  : mYes eta hp = (.ok true hp) := rfl
@[simp] theorem p_call {f : OpN} {ds : List T} {Fs : M (List W)} : zaz f ds Fs eta hp = ((Fs eta hp).bind fun ws h1 => noEr (f (ws ++ ds.map W.t) h1)) := rfl
@[simp] theorem p_meth0 {ty : W → IH → Bool} {f : OpM} {Fo : M W} : mMeth0 ty f Fo eta hp = ((Fo eta hp).bind fun w h1 => if ty w h1 = true then f w [] h1 else .bad) := rfl
@[simp] theorem p_meth {ty : W → IH → Bool} {f : OpM} {Fo : M W} {Fs : M (List W)} : mMeth ty f Fo Fs eta hp = ((Fo eta hp).bind fun w h1 => if ty w h1 = true then (Fs eta h1).bind fun ws h2 => f w ws h2 else .bad) := rfl
@[simp] theorem p_sl {Fa : M W} {Fl Fh : MO} : mSl Fa Fl Fh eta hp = ((Fa eta hp).bind fun a h1 => (Fl eta h1).bind fun l h2 => (Fh eta h2).bind fun h h3 => slW a l h h3) := rfl
@[simp] theorem p_noPart  : zbb eta hp = (.ok none hp) := rfl
@[simp] theorem p_part {F : M W} : zc8 F eta hp = ((F eta hp).bind fun a h1 => match a with | .t (.int i) => .ok (some i) h1 | _ => .bad) := rfl
@[simp] theorem p_disp {ps : List (Key × M W)} : mDisp ps eta hp = ((mVals ps eta (hp ++ [some (.dic [])])).bind fun kvs h1 => match getD h1 hp.length with | some [] => if kvs.length ≤ 15 then .ok Ycn (h1.set hp.length (some (.dic (mergeW [] kvs)))) else .bad | _ => .bad) := rfl
@[simp] theorem p_dput {Fd Fk Fv : M W} : mDPut Fd Fk Fv eta hp = ((Fv eta hp).bind fun v h1 => (Fd eta h1).bind fun d h2 => (Fk eta h2).bind fun k h3 => match d, asK k with | .r i, some k => (match getD h3 i with | some kvs => if kvs.length < 16777216 then .ok Ydu (h3.set i (some (.dic (putW kvs k v)))) else .bad | none => .bad) | _, _ => .bad) := rfl
@[simp] theorem p_fz {i : Nat} {S : M Fl} : mFz i S eta hp = (match eta[i]? with | some (some w) => (zcz w hp).bind fun w' h1 => S (eta.set i (some w')) h1 | _ => .bad) := rfl
@[simp] theorem p_gN {i : Nat} {w : W} : gN i w eta = some Yga := rfl
@[simp] theorem p_gsN : gsN [] eta = some eta := rfl
@[simp] theorem p_gsC {G : W → IS → Option IS} {Gs : List W → IS → Option IS} {w : W} {ws : List W} : gsC G Gs (w :: ws) eta = (G w eta).bind fun e => Gs ws e := rfl
@[simp] theorem p_gTp {n : Nat} {Gs : List W → IS → Option IS} {ts : List T} : gT n Gs (.t (.pr ts)) eta = if ts.length = n then Gs Yo eta else none := rfl
@[simp] theorem p_gTt {n : Nat} {Gs : List W → IS → Option IS} {ts : List T} : gT n Gs Yag eta = if ts.length = n then Gs Yo eta else none := rfl
@[simp] theorem p_gAp {n : Nat} {Gs : List W → IS → Option IS} {ts : List T} : gA n Gs (.t (.pr ts)) eta = if ts.length = n then Gs Yo eta else none := rfl
@[simp] theorem p_gAt {n : Nat} {Gs : List W → IS → Option IS} {ts : List T} : gA n Gs Yag eta = if ts.length = n then Gs Yo eta else none := rfl
@[simp] theorem p_gAl {n : Nat} {Gs : List W → IS → Option IS} {ts : List T} : gA n Gs Y8 eta = if ts.length = n then Gs Yo eta else none := rfl
@[simp] theorem p_forN {G : W → IS → Option IS} {S : M Fl} : forL G S [] eta hp = .ok Ydu hp := rfl
@[simp] theorem p_compN {G : W → IS → Option IS} {U : M Bool} {E : M W} : zc3 G U E eta [] hp = .ok [] hp := rfl
@[simp] theorem zcj {ts : List T} : allT Yo = some ts := by
 induction ts with
 | nil => rfl
 | cons t ts ih => simp [allT, ih]
@[simp] theorem seqT_t {ts : List T} : seqT Yag = some ts := rfl
@[simp] theorem seqT_l {ts : List T} : seqT Y8 = some ts := rfl
@[simp] theorem seqT_s {ts : List T} : seqT (.t (.scr ts)) = some ts := rfl
@[simp] theorem items_t {ts : List T} : items hp Yag = some Yo := rfl
@[simp] theorem items_l {ts : List T} : items hp Y8 = some Yo := rfl
@[simp] theorem items_s {ts : List T} : items hp (.t (.scr ts)) = some Yo := rfl
@[simp] theorem items_r {i : Nat} : items hp (.r i) = getL hp i := rfl
@[simp] theorem litems_l {ts : List T} : zdj hp Y8 = some Yo := rfl
@[simp] theorem litems_s {ts : List T} : zdj hp (.t (.scr ts)) = some Yo := rfl
@[simp] theorem litems_r {i : Nat} : zdj hp (.r i) = getL hp i := rfl
@[simp] theorem hitems_l {ts : List T} : hitems hp Y8 = some Yo := rfl
@[simp] theorem hitems_r {i : Nat} : hitems hp (.r i) = getL hp i := rfl
@[simp] theorem asT_t {x : T} : asT hp (.t x) = some x := rfl
@[simp] theorem asT_r {i : Nat} : asT hp (.r i) = ((getL hp i).bind allT).map T.lst := rfl
@[simp] theorem getL_new {ws : List W} : getL Ygu hp.length = some ws := by simp [getL]
@[simp] theorem zci {i : Nat} {ws : List W} (h : i < hp.length) : getL (hp.set i (some (.lst ws))) i = some ws := by simp [getL, h]
theorem zd6 {i : Nat} {ws : List W} (h : getL hp i = some ws) : i < hp.length := (List.getElem?_eq_some_iff.mp (zbo h)).1
end
@[simp] theorem allI_map : ∀ {ns : List Int}, allW asI (ns.map fun n => W.t (.int n)) = some ns
 | [] => rfl
 | n :: ns => by simp [allW, asI, allI_map (ns := ns)]
@[simp] theorem allS_map : ∀ {ns : List Str}, allW asS (ns.map fun n => W.t (.str n)) = some ns
 | [] => rfl
 | n :: ns => by simp [allW, asS, allS_map (ns := ns)]
@[simp] theorem allB_map : ∀ {ns : List Bool}, allW asBl (ns.map fun n => W.t (.bl n)) = some ns
 | [] => rfl
 | n :: ns => by simp [allW, asBl, allB_map (ns := ns)]
section
variable {hp : IH} {i j : Int} {b c neg : Bool} {x y : Str} {u v : T}
@[simp] theorem asB_bl : asB Ye7 hp = .ok b hp := rfl
@[simp] theorem truW_bl : truW Ye7 hp = .ok b hp := rfl
@[simp] theorem iNeg_i : iNeg Yah hp = .ok (.t (.int (-i))) hp := rfl
@[simp] theorem opI_ii {C : Int → Int → Bool} {g : Int → Int → Int} : opI C g Yah Ybw hp = if C i j = true then .ok (.t (.int (g i j))) hp else .bad := rfl
@[simp] theorem opC_ii {g : Int → Int → Bool} : opC g Yah Ybw hp = .ok (.t (.bl (g i j))) hp := rfl
@[simp] theorem cYes_t : cYes i j = true := rfl
@[simp] theorem wLt_ii : wLt Yah Ybw hp = .ok (.t (.bl (decide (i < j)))) hp := rfl
@[simp] theorem wLt_ss : wLt Yem Yf0 hp = .ok (.t (.bl (ltCps x.cps.toList y.cps.toList))) hp := rfl
@[simp] theorem wAdd_ii : wAdd Yah Ybw hp = .ok (.t (.int (i + j))) hp := rfl
@[simp] theorem wAdd_tt {xs ys : List T} : wAdd (.t (.tup xs)) (.t (.tup ys)) hp = if xs.length + ys.length ≤ 16777216 then .ok (.t (.tup (xs ++ ys))) hp else .bad := rfl
@[simp] theorem wAdd_ll {xs ys : List T} : wAdd (.t (.lst xs)) (.t (.lst ys)) hp = if xs.length + ys.length ≤ 16777216 then .ok (.t (.lst (xs ++ ys))) hp else .bad := by simp [wAdd]
@[simp] theorem wMul_ii : wMul Yah Ybw hp = if cMul i j = true then .ok (.t (.int (i * j))) hp else .bad := rfl
@[simp] theorem wMul_li {xs : List T} : wMul (.t (.lst xs)) Ybw hp = if -(2 ^ 63) ≤ j ∧ j < 2 ^ 63 ∧ xs.length * j.toNat ≤ 16777216 then .ok (.t (.lst (repT j.toNat xs))) hp else .bad := by simp [wMul]
@[simp] theorem eqW_tt : eqW neg (.t u) (.t v) hp = if fit u 60 = true ∧ fit v 60 = true then .ok (.t (.bl (if neg then !Mir.eqT u v else Mir.eqT u v))) hp else .bad := rfl
@[simp] theorem isN_n : isN neg Yco Yco hp = .ok (.t (.bl (!neg))) hp := rfl
@[simp] theorem isN_i : isN neg Yah Yco hp = .ok (.t (.bl neg)) hp := rfl
@[simp] theorem isN_b : isN neg Ye7 Yco hp = .ok (.t (.bl neg)) hp := rfl
@[simp] theorem isN_t {ts : List T} : isN neg Yag Yco hp = .ok (.t (.bl neg)) hp := rfl
@[simp] theorem isB_bb : isB neg Ye7 (.t (.bl c)) hp = .ok Yhk hp := rfl
@[simp] theorem ixW_l {ts : List T} : ixW Y8 Yah hp = (match atI Yo i with | some w => .ok w hp | none => .bad) := rfl
@[simp] theorem ixW_t {ts : List T} : ixW Yag Yah hp = (match atI Yo i with | some w => .ok w hp | none => .bad) := rfl
@[simp] theorem ixW_r {k : Nat} : ixW (.r k) Yah hp = (match (getL hp k).bind fun ws => atI ws i with | some w => .ok w hp | none => .bad) := rfl
@[simp] theorem oInt_i : oInt [.t (.int i)] hp = .ok Yah hp := rfl
@[simp] theorem oAbs_i : oAbs [.t (.int i)] hp = .ok (.t Yhh) hp := rfl
@[simp] theorem oMax2_i : oMax2 [.t (.int i), .t (.int j)] hp = .ok (.t (.int (if j > i then j else i))) hp := rfl
@[simp] theorem oMin2_i : oMin2 [.t (.int i), .t (.int j)] hp = .ok (.t (.int (if j < i then j else i))) hp := rfl
@[simp] theorem oLen_l {ts : List T} : oLen [.t (.lst ts)] hp = .ok (.t (.int ts.length)) hp := by simp [oLen]
@[simp] theorem oLen_t {ts : List T} : oLen [.t (.tup ts)] hp = .ok (.t (.int ts.length)) hp := by simp [oLen]
@[simp] theorem oLen_r {k : Nat} : oLen [.r k] hp = (match getL hp k with | some xs => .ok (.t (.int xs.length)) hp | none => .bad) := rfl
@[simp] theorem oTup_t {ts : List T} : oTup [.t (.tup ts)] hp = .ok Yag hp := rfl
@[simp] theorem oTup_l {ts : List T} : oTup [.t (.lst ts)] hp = .ok Yag hp := by simp [oTup]
@[simp] theorem oListF_l {ts : List T} : oListF [.t (.lst ts)] hp = .ok Y8 hp := by simp [oListF]
@[simp] theorem oListF_t {ts : List T} : oListF [.t (.tup ts)] hp = .ok Y8 hp := by simp [oListF]
@[simp] theorem oListL_l {ts : List T} : oListL [.t (.lst ts)] hp = .ok Ycn (hp ++ [some (.lst Yo)]) := rfl
@[simp] theorem oListL_t {ts : List T} : oListL [.t (.tup ts)] hp = .ok Ycn (hp ++ [some (.lst Yo)]) := rfl
@[simp] theorem sqI_l {ts : List T} : sqI Y8 hp = .ok Yo hp := rfl
@[simp] theorem sqI_t {ts : List T} : sqI Yag hp = .ok Yo hp := rfl
@[simp] theorem sqI_s {ts : List T} : sqI (.t (.scr ts)) hp = .ok Yo hp := rfl
@[simp] theorem rng1_i : rng1 [.t (.int i)] hp = if -(2 ^ 62) ≤ i ∧ i < 2 ^ 62 then .ok ((List.range i.toNat).map fun k => W.t (.int (0 + (k : Nat)))) hp else .bad := rfl
@[simp] theorem rng2_i : rng2 [.t (.int i), .t (.int j)] hp = if -(2 ^ 62) ≤ i ∧ i < 2 ^ 62 ∧ -(2 ^ 62) ≤ j ∧ j < 2 ^ 62 then .ok Ygm hp else .bad := rfl
@[simp] theorem enum1_1 {a : W} : enum1 [a] hp = (match seqT a with | some ts => .ok (enumT 0 ts) hp | none => .bad) := rfl
@[simp] theorem zip2_2 {a b : W} : zip2 [a, b] hp = (match seqT a, seqT b with | some ts, some us => .ok (zipT ts us) hp | _, _ => .bad) := rfl
@[simp] theorem isL_r {k : Nat} : isL (.r k) hp = (getL hp k).isSome := rfl
@[simp] theorem isL_l {ts : List T} : isL Y8 hp = true := rfl
@[simp] theorem isTp_t {ts : List T} : isTp Yag hp = true := rfl
@[simp] theorem freeze_t : zcz (.t u) hp = .ok (.t u) hp := rfl
@[simp] theorem freeze_r {k : Nat} : zcz (.r k) hp = (match (getL hp k).bind allT with | some ts => .ok Y8 (hp.set k none) | none => .bad) := rfl
@[simp] theorem fit_n {n : Nat} : fit .non n = true := by cases n <;> rfl
@[simp] theorem fit_b {n : Nat} : fit (.bl b) n = true := by cases n <;> rfl
@[simp] theorem fit_i {n : Nat} : fit (.int i) n = true := by cases n <;> rfl
@[simp] theorem fit_s {n : Nat} : fit (.str x) n = true := by cases n <;> rfl
@[simp] theorem fit_t {n : Nat} {ts : List T} : fit (.tup ts) (n + 1) = fitL ts n := rfl
@[simp] theorem fit_l {n : Nat} {ts : List T} : fit (.lst ts) (n + 1) = fitL ts n := rfl
@[simp] theorem fitL_n {n : Nat} : fitL [] n = true := by cases n <;> rfl
@[simp] theorem fitL_c {n : Nat} {ts : List T} : fitL (u :: ts) n = (fit u n && fitL ts n) := by cases n <;> rfl
@[simp] theorem eqT_nn : Mir.eqT .non .non = true := by simp [Mir.eqT]
@[simp] theorem eqT_ii : Mir.eqT (.int i) (.int j) = (i == j) := by simp [Mir.eqT]
@[simp] theorem eqT_bb : Mir.eqT (.bl b) (.bl c) = (b == c) := by simp [Mir.eqT]
@[simp] theorem eqT_ss : Mir.eqT (.str x) (.str y) = (x == y) := by simp [Mir.eqT]
@[simp] theorem eqT_tt {ts us : List T} : Mir.eqT (.tup ts) (.tup us) = eqTL ts us := by simp [Mir.eqT]
@[simp] theorem eqT_ll {ts us : List T} : Mir.eqT (.lst ts) (.lst us) = eqTL ts us := by simp [Mir.eqT]
@[simp] theorem eqTL_nn : eqTL [] [] = true := by simp [eqTL]
@[simp] theorem eqTL_cn {ts : List T} : eqTL (u :: ts) [] = false := by simp [eqTL]
@[simp] theorem eqTL_nc {ts : List T} : eqTL [] (u :: ts) = false := by simp [eqTL]
@[simp] theorem eqTL_cc {ts us : List T} : eqTL (u :: ts) (v :: us) = (Mir.eqT u v && eqTL ts us) := by simp [eqTL]
@[simp] theorem allT_n : allT [] = some [] := rfl
@[simp] theorem allT_c {ws : List W} : allT (.t u :: ws) = (allT ws).map (u :: ·) := rfl
@[simp] theorem lstOf_e {ws : List W} : zaq ws hp = (match allT ws with | some ts => if ts.length ≤ 16777216 then .ok Y8 hp else .bad | none => .bad) := rfl
@[simp] theorem tupOf_e {ws : List W} : zbj ws hp = (match allT ws with | some ts => if ts.length ≤ 16777216 then .ok Yag hp else .bad | none => .bad) := rfl
@[simp] theorem newL_e {ws : List W} : newL ws hp = if ws.length ≤ 16777216 then .ok Ycn Ygu else .bad := rfl
@[simp] theorem oAppend_r {k : Nat} {w : W} : zbl (.r k) [w] hp = (match getL hp k with | some xs => if xs.length < 16777216 then .ok Yco (hp.set k (some (.lst (xs ++ [w])))) else .bad | none => .bad) := rfl
@[simp] theorem oPop_r {k : Nat} : oPop (.r k) [] hp = (match getL hp k with | some xs => (match xs[xs.length - 1]? with | some y => .ok y (hp.set k (some (.lst xs.dropLast))) | none => .bad) | none => .bad) := rfl
@[simp] theorem asK_i : asK Yah = some (.inl i) := rfl
@[simp] theorem asK_s : asK Yem = some (.inr x) := rfl
@[simp] theorem dGet_s {k : Nat} {w : W} : dGet (.r k) w hp = (match asK w with | some q => (match (getD hp k).bind fun kvs => valW kvs q with | some w => .ok w hp | none => .bad) | none => .bad) := by
 unfold dGet
 cases asK w <;> rfl
end
theorem fitL_ints {ns : List Int} {n : Nat} : fitL (ns.map T.int) n = true := by
 induction ns with
 | nil => simp
 | cons x xs ih => simp [ih]
theorem zcv {ns : List Str} {n : Nat} : fitL (ns.map T.str) n = true := by
 induction ns with
 | nil => simp
 | cons x xs ih => simp [ih]
theorem bin_ok {f : Op2} {Fa Fb : M W} {eta : IS} {hp h1 h2 : IH} {a b : W} {r : Res W} (ha : Fa eta hp = .ok a h1) (hb : Fb eta h1 = .ok b h2) (h : f a b h2 = r) : mBin f Fa Fb eta hp = r := by
 rw [p_bin, ha, zae, hb, zae]
 exact h
theorem zav {Fa : M W} {Fs : M (List W)} {eta : IS} {hp h1 h2 : IH} {a : W} {as : List W} (ha : Fa eta hp = .ok a h1) (hs : Fs eta h1 = .ok as h2) : zab Fa Fs eta hp = .ok (a :: as) h2 := by
 rw [p_cons, ha, zae, hs, zae]
theorem za3 {f : OpN} {Fs : M (List W)} {eta : IS} {hp h1 h2 : IH} {w : W} {ws : List W} (hs : Fs eta hp = .ok ws h1) (h : f ws h1 = .ok w h2) : zaz f [] Fs eta hp = .ok w h2 := by
 rw [p_call, hs, zae, List.map_nil, List.append_nil, h, zb8]
theorem test_ok {F : M W} {eta : IS} {hp h1 : IH} {b : Bool} (h : F eta hp = .ok Ye7 h1) : zai asB F eta hp = .ok b h1 := by
 rw [p_test, h, zae, asB_bl]
theorem if_no {A : Type} {U : M Bool} {F G : M A} {eta : IS} {hp h1 : IH} (h : U eta hp = .ok false h1) : mIf U F G eta hp = G eta h1 := by
 rw [p_if, h, zae, if_neg Bool.false_ne_true]
theorem if_yes {A : Type} {U : M Bool} {F G : M A} {eta : IS} {hp h1 : IH} (h : U eta hp = .ok true h1) : mIf U F G eta hp = F eta h1 := by
 rw [p_if, h, zae, if_pos rfl]
theorem zax {S R : M Fl} {eta e1 : IS} {hp h1 : IH} {r : Res Fl} (h : S eta hp = .ok (.nx e1) h1) (g : R e1 h1 = r) : mSeq S R eta hp = r := by
 rw [p_seq, h, zae, then_nx]
 exact g
theorem zdl {i : Nat} {F : M W} {eta : IS} {hp h1 : IH} {w : W} (h : F eta hp = .ok w h1) : mSet i F eta hp = .ok (.nx Yga) h1 := by
 rw [p_set, h, zae]
theorem zdz {n nn : Nat} {B : M Fl} {ts : List T} {hp h1 : IH} {x : T} {eta : IS} (hl : ts.length = n) (he : (ts.map W.t).map some ++ List.replicate (nn - n) none = eta) (h : B eta [] = .ok (.rt (.t x)) h1) : fnP n nn B Yo hp = .ok (.t x) hp := by
 unfold fnP
 rw [if_pos ⟨by rw [List.length_map]; exact hl, by rw [zcj]; rfl⟩, he, h]
theorem fnM_ok {n nn : Nat} {B : M Fl} {ws : List W} {hp h1 : IH} {x : W} {eta : IS} (hl : ws.length = n) (he : ws.map some ++ List.replicate (nn - n) none = eta) (h : B eta hp = .ok (.rt x) h1) : fnM n nn B ws hp = .ok x h1 := by
 unfold fnM
 rw [if_pos hl, he, h]
end Mir
namespace Mir
open PySem PySem.Spec L2
open PyProof.Rows hiding St
theorem piled_tupleText (ts : List Str) : (tupleText ts).length ≤ piled ts + 3 := by
 unfold tupleText
 rw [strLen_append, strLen_append]
 have e1 : ((("(" : String) : Str)).length = 1 := rfl
 have e3 : (((if ts.length == 1 then ",)" else ")" : String) : Str)).length ≤ 2 := by split <;> decide
 rw [e1]
 by_cases h : ts = []
 ·subst h
  have : (Str.join ", " ([] : List Str)).length = 0 := rfl
  omega
 ·have := join_length_add ts h
  omega
theorem fitL_all {n : Nat} : ∀ {xs : List T}, (∀ x ∈ xs, fit x n = true) → fitL xs n = true
 | [], _ => by simp
 | x :: xs, h => by simp only [fitL_c, h x Y2, fitL_all fun y hy => h y (List.mem_cons_of_mem _ hy), Bool.and_self]
theorem comp_list {A : Type} {i : Nat} {U : M Bool} {E : M W} {f g : A → T} {p : A → Bool} {eta : IS} {hp : IH} : ∀ {as : List A}, (∀ a ∈ as, U (eta.set i (some (.t (f a)))) hp = .ok (p a) hp) → (∀ a ∈ as, p a = true → E (eta.set i (some (.t (f a)))) hp = .ok (.t (g a)) hp) →
  zc3 (gN i) U E eta ((as.map f).map W.t) hp = .ok (((as.filter p).map g).map W.t) hp
 | [], _, _ => rfl
 | a :: as, h, k => by
  have h1 := h a Y2
  have ih := comp_list (i := i) (eta := eta) (as := as) (fun u hu => h u Yea) fun u hu => k u Yea
  cases q : p a with
  | true =>
   have k1 := k a Y2 q
   simp only [List.map_cons, zc3, turnL, p_gN, h1, q, zae, if_true, k1, zb8, ih, List.filter_cons_of_pos q]
  | false =>
   simp only [List.map_cons, zc3, turnL, p_gN, h1, q, zae, Bool.false_eq_true, if_false, zb8, ih, List.filter_cons_of_neg (by simp [q] : ¬ p a = true)]
theorem comp_all {A : Type} {i : Nat} {E : M W} {f g : A → T} {eta : IS} {hp : IH} {as : List A} (h : ∀ a ∈ as, E (eta.set i (some (.t (f a)))) hp = .ok (.t (g a)) hp) : zc3 (gN i) mYes E eta ((as.map f).map W.t) hp = .ok ((as.map g).map W.t) hp := by
 have := comp_list (i := i) (U := mYes) (E := E) (f := f) (g := g) (p := fun _ => true) (eta := eta) (hp := hp) (as := as) Yai fun a ha _ => h a ha
 rw [List.filter_eq_self.mpr fun _ _ => rfl] at this
 exact this
theorem app1_ok {f : OpN} {F : M W} {eta : IS} {hp h1 : IH} {a : W} {r : Res W} (h : F eta hp = .ok a h1) (g : f [a] h1 = r) : mApp f (zab F mNil) eta hp = r := by
 rw [p_app, zav h rfl, zae]
 exact g
end Mir
namespace Mir
open PySem PySem.Spec L2
open PyProof.Rows hiding St
abbrev wI (n : Int) : W := .t (.int n)
theorem allT_ints (ns : List Int) : allT (ns.map wI) = some (ns.map T.int) := by
 have : ns.map wI = (ns.map T.int).map W.t := by simp [wI]
 rw [this, zcj]
theorem atI_end {A : Type} {xs : List A} {x : A} : atI (xs ++ [x]) (-1) = some x := by
 have h : ixN (xs.length + 1) (-1) = some xs.length := by
  unfold ixN
  rw [if_neg Yc, if_pos Yc]
  congr 1
  omega
 simp [atI, h]
theorem set_same {hp : IH} {j : Nat} {c : Option Cell} (h : hp[j]? = some c) : hp.set j c = hp := by
 apply List.ext_getElem?
 intro k
 by_cases hk : j = k
 ·subst hk
  rw [List.getElem?_set_self (List.getElem?_eq_some_iff.mp h).1, h]
 ·rw [List.getElem?_set_ne hk]
theorem log_small {n : Nat} (h : n < 2 ^ 31) : n.log2 < 31 := by
 by_cases h0 : n = 0
 ·subst h0; decide
 ·exact (Nat.log2_lt h0).mpr h
theorem getL_ne {hp : IH} {i j : Nat} {c : Option Cell} (h : j ≠ i) : getL (hp.set j c) i = getL hp i := by simp [getL, List.getElem?_set_ne h]
theorem cDiv_ok {x wide : Int} (hw : 0 < wide) (hw2 : wide < 2 ^ 64) : cDiv x wide = true := by
 simp only [cDiv, decide_eq_true_eq]
 refine ⟨hw, ?_⟩
 have : wide.natAbs.log2 < 64 := (Nat.log2_lt Yc).mpr Yc
 omega
theorem cMod_ok {x wide : Int} (hw : 0 < wide) : cMod x wide = true := by simpa [cMod] using hw
theorem cMul_ok {x y : Int} (hx : x.natAbs < 2 ^ 64) (hy : y.natAbs < 2 ^ 64) : cMul x y = true := by
 have h : ∀ n : Nat, n < 2 ^ 64 → n.log2 < 64 := fun n h => by
  by_cases h0 : n = 0
  ·subst h0; decide
  ·exact (Nat.log2_lt h0).mpr h
 simp only [cMul, decide_eq_true_eq]
 have := h _ hx
 have := h _ hy
 omega
theorem getL_keep {hp hp' : IH} {k : Nat} (h : hp'[k]? = hp[k]?) : getL hp' k = getL hp k := by unfold getL; rw [h]
theorem atI_nn {A : Type} {xs : List A} {n : Int} (h0 : 0 ≤ n) (h1 : n < xs.length) : atI xs n = xs[n.toNat]? := by
 unfold atI ixN
 rw [if_pos h0, if_pos h1]
 rfl
theorem fitL_erase {n : Nat} : ∀ {ts : List T} (k : Nat), fitL ts n = true → fitL (ts.eraseIdx k) n = true
 | [], _, _ => by simp
 | t :: ts, 0, h => by simp only [fitL_c, Bool.and_eq_true] at h; exact h.2
 | t :: ts, k + 1, h => by
  simp only [fitL_c, Bool.and_eq_true] at h
  simp only [List.eraseIdx_cons_succ, fitL_c, Bool.and_eq_true]
  exact ⟨h.1, fitL_erase k h.2⟩
theorem erase_map {A B : Type} (f : A → B) : ∀ (l : List A) (k : Nat), (l.map f).eraseIdx k = (l.eraseIdx k).map f
 | [], _ => rfl
 | _ :: _, 0 => rfl
 | x :: l, k + 1 => by simp [erase_map f l k]
theorem erase_perm {A : Type} : ∀ (l : List A) (k : Nat) (h : k < l.length), (l[k] :: l.eraseIdx k).Perm l
 | [], _, h => absurd h (Nat.not_lt_zero _)
 | x :: l, 0, _ => .refl _
 | x :: l, k + 1, h => by
  simp only [List.getElem_cons_succ, List.eraseIdx_cons_succ]
  exact (List.Perm.swap _ _ _).trans ((erase_perm l k Yg4).cons x)
theorem getL_app {hp : IH} {k : Nat} {c : List (Option Cell)} (h : k < hp.length) : getL (hp ++ c) k = getL hp k := by unfold getL; rw [List.getElem?_append_left h]
theorem perm_strs {zs : List T} {l : List Str} (h : zs.Perm Yf1) : ∃ l' : List Str, l'.Perm l ∧ zs = l'.map T.str := by
 let g : T → Str := fun t => match t with | .str x => x | _ => "a"
 have e1 : (l.map T.str).map g = l := by simp [g, Function.comp_def]
 refine ⟨zs.map g, by rw [← e1]; exact h.map g, ?_⟩
 have : ∀ t ∈ zs, T.str (g t) = t := fun t ht => by
  have := h.mem_iff.mp ht
  rw [List.mem_map] at this
  obtain ⟨x, _, e⟩ := this
  rw [← e]
 rw [List.map_map]
 conv => lhs; rw [← List.map_id zs]
 exact List.map_congr_left fun t ht => (this t ht).symm
theorem cutL_map {A B : Type} (f : A → B) (xs : List A) (lo hi : Option Int) : cutL (xs.map f) lo hi = (cutL xs lo hi).map f := by
 unfold cutL
 rw [List.length_map, List.map_take, List.map_drop]
theorem cutL_len {A : Type} (xs : List A) (lo hi : Option Int) : (cutL xs lo hi).length ≤ xs.length := by
 unfold cutL
 rw [List.length_take, List.length_drop]
 omega
theorem cutL_to {A : Type} (xs : List A) (k : Nat) : cutL xs none (some (k : Int)) = xs.take k := by
 unfold cutL
 rw [HT.sIx_none, HT.sIx_nat]
 simp only [List.drop_zero, Nat.sub_zero]
 rcases Nat.le_total k xs.length with h | h
 ·rw [Nat.min_eq_left h]
 ·rw [Nat.min_eq_right h, List.take_of_length_le h, List.take_of_length_le Ye2]
/-- a list or a tuple -/
def sqT (b : Bool) (ts : List T) : T := if b then .tup ts else .lst ts
def pos (w : List Str) (x : Str) : Nat := w.idxOf x
theorem ixW_sq {b : Bool} {ts : List T} {n : Nat} {hp : IH} (h : n < ts.length) : ixW (.t (sqT b ts)) (.t (.int n)) hp = .ok (.t ts[n]) hp := by
 have e : atI Yo (n : Int) = some (.t ts[n]) := by
  rw [atI_nn Yc Yg4]
  simp [h]
 cases b <;> simp [sqT, e]
def natW (k : Nat) : W := .t (.int (0 + (k : Nat)))
theorem rng_is {n : Nat} {hp : IH} (hn : n < 100000) : rng1 [.t (.int n)] hp = .ok ((List.range n).map natW) hp := by
 have c : -(2 ^ 62) ≤ (n : Int) ∧ (n : Int) < 2 ^ 62 := ⟨by omega, by omega⟩
 rw [rng1_i, if_pos c, Int.toNat_natCast]
 rfl
theorem for_ok {Fi : M (List W)} {G : W → IS → Option IS} {S : M Fl} {eta : IS} {hp h1 : IH} {ws : List W} (h : Fi eta hp = .ok ws h1) : mFor Fi G S eta hp = forL G S ws eta h1 := by
 rw [p_for, h]
 rfl
theorem zca {fin : OpN} {Fi : M (List W)} {G : W → IS → Option IS} {U : M Bool} {E : M W} {vs : List Nat} {eta : IS} {hp h1 h2 : IH} {ws ys : List W} {r : Res W} (h : Fi eta hp = .ok ws h1) (hl : ws.length ≤ 16777216) (hc : zc3 G U E (wipeI eta vs) ws h1 = .ok ys h2) (hf : fin ys h2 = r) :
  zba fin Fi G U E vs eta hp = r := by
 rw [p_comp, h, zae, if_pos hl, hc, zae]
 exact hf
end Mir
namespace Mir
open PySem PySem.Spec L2
open PyProof.Rows hiding St
theorem binP {f : Op2} {Fa Fb : M W} {eta : IS} {hp : IH} {a b : W} {r : Res W} (ha : Fa eta hp = .ok a hp) (hb : Fb eta hp = .ok b hp) (h : f a b hp = r) : mBin f Fa Fb eta hp = r := bin_ok ha hb h
theorem zc4 {F : M W} {eta : IS} {hp : IH} {b : Bool} (h : F eta hp = .ok Ye7 hp) : zai asB F eta hp = .ok b hp := test_ok h
theorem zbk {f : OpN} {F : M W} {eta : IS} {hp : IH} {a : W} {r : Res W} (h : F eta hp = .ok a hp) (g : f [a] hp = r) : mApp f (zab F mNil) eta hp = r := app1_ok h g
theorem varP {i : Nat} {eta : IS} {hp : IH} {w : W} (h : eta[i]? = some (some w)) : mVar i eta hp = .ok w hp := by rw [p_var, h]
theorem iGt_ii {i j : Int} {hp : IH} : iGt Yah Ybw hp = .ok (.t (.bl (decide (j < i)))) hp := rfl
theorem iGe_ii {i j : Int} {hp : IH} : iGe Yah Ybw hp = .ok (.t (.bl (decide (j ≤ i)))) hp := rfl
theorem wMul_ok {i j : Int} {hp : IH} (h : cMul i j = true) : wMul Yah Ybw hp = .ok (.t (.int (i * j))) hp := by rw [wMul_ii, if_pos h]
theorem frz_ok {k : Nat} {ts : List T} {hp : IH} (h : getL hp k = some Yo) : zcz (.r k) hp = .ok Y8 (hp.set k none) := by
 rw [freeze_r, h, Option.bind_some, zcj]
theorem iMod_ok {i j : Int} {hp : IH} (h : cMod i j = true) : iMod Yah Ybw hp = .ok (.t (.int (i % j))) hp := by unfold iMod; rw [opI_ii, if_pos h]
theorem iDiv_ok {i j : Int} {hp : IH} (h : cDiv i j = true) : iDiv Yah Ybw hp = .ok (.t (.int (i / j))) hp := by unfold iDiv; rw [opI_ii, if_pos h]
theorem iput_ok {Fd Fk Fv : M W} {eta : IS} {hp h1 : IH} {i k : Nat} {v : W} {xs : List W} (hv : Fv eta hp = .ok v h1) (hd : Fd eta h1 = .ok (.r i) h1) (hk : Fk eta h1 = .ok (.t (.int k)) h1) (hx : getL h1 i = some xs) (hl : k < xs.length) : mIput Fd Fk Fv eta hp = .ok Ydu (h1.set i (some (.lst (xs.set k v)))) := by
 have e : ixN xs.length (k : Int) = some k := by
  unfold ixN
  rw [if_pos Yc, if_pos Yc]
  rfl
 unfold mIput
 rw [hv, zae, hd, zae, hk, zae]
 simp only [hx, e]
theorem any_str {x : Str} : ∀ {l : List Str}, (l.map T.str).any (fun y => Mir.eqT y (.str x)) = decide (x ∈ l)
 | [] => by simp
 | y :: l => by
  have ih := any_str (x := x) (l := l)
  simp only [List.map_cons, List.any_cons, ih, eqT_ss]
  by_cases h : y = x
  ·subst h; simp
  ·have : ¬ x = y := fun e => h e.symm
   simp [h, this]
theorem sqI_sq {b : Bool} {ts : List T} {hp : IH} : sqI (.t (sqT b ts)) hp = .ok Yo hp := by cases b <;> rfl
theorem oTup_sq {b : Bool} {ts : List T} {hp : IH} : oTup [.t (sqT b ts)] hp = .ok Yag hp := by cases b <;> simp [sqT]
end Mir
namespace Mir
open PySem PySem.Spec L2
open PyProof.Rows hiding St
section
variable {hp : IH} {i j : Int} {x y z u v : T} {ts us : List T} {w : W} {b c : Bool} {s r : Str}
theorem ev_for0 {G : W → IS → Option IS} {S : M Fl} {eta : IS} : forL G S [] eta hp = .ok Ydu hp := rfl
theorem ev_for1 {G : W → IS → Option IS} {S : M Fl} {eta : IS} {ws : List W} : forL G S (w :: ws) eta hp = (match G w eta with | none => .bad | some e1 => (S e1 hp).bind fun f h1 => match f with | .nx e2 => forL G S ws e2 h1 | .ct e2 => forL G S ws e2 h1 | .bk e2 => .ok (.nx e2) h1 | .rt w => .ok (.rt w) h1) := rfl
theorem ev_atl0 {A : Type} {a : A} {l : List A} : atI (a :: l) 0 = some a := by rw [atI_nn Yc (by rw [List.length_cons]; omega)]; rfl
theorem ev_atl1 {A : Type} {a a1 : A} {l : List A} : atI (a :: a1 :: l) 1 = some a1 := by rw [atI_nn Yc (by rw [List.length_cons, List.length_cons]; omega)]; rfl
theorem ev_atl2 {A : Type} {a a1 a2 : A} {l : List A} : atI (a :: a1 :: a2 :: l) 2 = some a2 := by rw [atI_nn Yc Yc6]; rfl
theorem ev_atl3 {A : Type} {a a1 a2 a3 : A} {l : List A} : atI (a :: a1 :: a2 :: a3 :: l) 3 = some a3 := by rw [atI_nn Yc Yc6]; rfl
theorem ev_ixl0 {a0 : T} : ixW (.t (.lst (a0 :: ts))) (.t (.int 0)) hp = .ok (.t a0) hp := by rw [ixW_l]; simp only [List.map_cons, ev_atl0]
theorem ev_ixt0 {a0 : T} : ixW (.t (.tup (a0 :: ts))) (.t (.int 0)) hp = .ok (.t a0) hp := by rw [ixW_t]; simp only [List.map_cons, ev_atl0]
theorem ev_ixl1 {a0 a1 : T} : ixW (.t (.lst (a0 :: a1 :: ts))) (.t (.int 1)) hp = .ok (.t a1) hp := by rw [ixW_l]; simp only [List.map_cons, ev_atl1]
theorem ev_ixt1 {a0 a1 : T} : ixW (.t (.tup (a0 :: a1 :: ts))) (.t (.int 1)) hp = .ok (.t a1) hp := by rw [ixW_t]; simp only [List.map_cons, ev_atl1]
theorem ev_ixl2 {a0 a1 a2 : T} : ixW (.t (.lst (a0 :: a1 :: a2 :: ts))) (.t (.int 2)) hp = .ok (.t a2) hp := by rw [ixW_l]; simp only [List.map_cons, ev_atl2]
theorem ev_ixt2 {a0 a1 a2 : T} : ixW (.t (.tup (a0 :: a1 :: a2 :: ts))) (.t (.int 2)) hp = .ok (.t a2) hp := by rw [ixW_t]; simp only [List.map_cons, ev_atl2]
theorem ev_ixl3 {a0 a1 a2 a3 : T} : ixW (.t (.lst (a0 :: a1 :: a2 :: a3 :: ts))) (.t (.int 3)) hp = .ok (.t a3) hp := by rw [ixW_l]; simp only [List.map_cons, ev_atl3]
theorem ev_ixt3 {a0 a1 a2 a3 : T} : ixW (.t (.tup (a0 :: a1 :: a2 :: a3 :: ts))) (.t (.int 3)) hp = .ok (.t a3) hp := by rw [ixW_t]; simp only [List.map_cons, ev_atl3]
theorem ev_atl4 {A : Type} {a a1 a2 a3 a4 : A} {l : List A} : atI (a :: a1 :: a2 :: a3 :: a4 :: l) 4 = some a4 := by rw [atI_nn Yc Yc6]; rfl
theorem ev_ixl4 {a0 a1 a2 a3 a4 : T} : ixW (.t (.lst (a0 :: a1 :: a2 :: a3 :: a4 :: ts))) (.t (.int 4)) hp = .ok (.t a4) hp := by rw [ixW_l]; simp only [List.map_cons, ev_atl4]
theorem ev_ixt4 {a0 a1 a2 a3 a4 : T} : ixW (.t (.tup (a0 :: a1 :: a2 :: a3 :: a4 :: ts))) (.t (.int 4)) hp = .ok (.t a4) hp := by rw [ixW_t]; simp only [List.map_cons, ev_atl4]
theorem ev_gt : iGt Yah Ybw hp = .ok (.t (.bl (decide (j < i)))) hp := rfl
theorem ev_ge : iGe Yah Ybw hp = .ok (.t (.bl (decide (j ≤ i)))) hp := rfl
theorem ev_le : iLe Yah Ybw hp = .ok (.t (.bl (decide (i ≤ j)))) hp := rfl
theorem ev_sub : iSub Yah Ybw hp = .ok (.t (.int (i - j))) hp := rfl
theorem ev_eqi {neg : Bool} : eqW neg Yah Ybw hp = .ok Yhj hp := by
 rw [eqW_tt, if_pos ⟨rfl, rfl⟩]
 rfl
theorem ev_eqs {neg : Bool} : eqW neg (.t (.str s)) (.t (.str r)) hp = .ok (.t (.bl (if neg then !decide (s = r) else decide (s = r)))) hp := by
 have h : (s == r) = decide (s = r) := by
  by_cases q : s = r
  ·subst q; simp
  ·simp [q]
 rw [eqW_tt, if_pos ⟨by simp, by simp⟩, eqT_ss, h]
theorem ev_eqb {neg : Bool} : eqW neg Ye7 (.t (.bl c)) hp = .ok Yhk hp := by
 rw [eqW_tt, if_pos ⟨by simp, by simp⟩, eqT_bb]
 cases neg <;> cases b <;> cases c <;> rfl
theorem ev_wipe0 {eta : IS} : wipeI eta [] = eta := rfl
theorem ev_wipe1 {eta : IS} {k : Nat} {l : List Nat} : wipeI eta (k :: l) = (wipeI eta l).set k none := rfl
theorem ev_comp1 {G : W → IS → Option IS} {U : M Bool} {E : M W} {eta : IS} {ws : List W} : zc3 G U E eta (w :: ws) hp = (noEr (match G w eta with | none => .bad | some e1 => (U e1 hp).bind fun b h1 => if b then (E e1 h1).bind fun y h2 => .ok (some y) h2 else .ok none h1)).bind fun o h1 => (zc3 G U E eta ws h1).bind fun r h2 => .ok (match o with | some y => y :: r | none => r) h2 := rfl
end
end Mir
namespace Mir
open PySem PySem.Spec L2
open PyProof.Rows hiding St
section
variable {X : Cx} {CX : CXT} {k : Nat} {f C g p1 : Addr} {fd : FuncData} {ps : List Str} {sp : Sp} {dvs : List V} {ds : List Value} {E : XK} {x m fl : Str} {p pos apos : Pos} {e o : Expr} {es : List Expr} {ta : TE} {t : TA} {pl : Sem Bool}
theorem getpropG {pins : List Yfb} {σ : L2.St} {H : Hp} {s : Shared} {a dx : Addr} {fs : List Yc2} {Q : VK} {b : Bool} {E' : Value → Shared → Prop} (I : Inv X pins σ H s) (ea : H a = some Yd3) (c : Cls X.K C) (hp : PropOf X.K C fl p1 g)
  (F : FnG X.prog X.w X.K X.mg X.base CX k g fd ps sp) (hr : Room (k + 1) X.A) (hgd : X.A.guards = some []) (hb : Binds X.K fd ps ds) (hd : Vals dvs ds) (hx : Passes CX X.nox E) (h : sp (.ref a :: dvs) H Q E) : wpAny Ybc X.A (getAttr (.ref a) fl b) Yej E' s := by
 obtain ⟨mA, O, _, _, _, _⟩ := ins_get I.hok ea
 obtain ⟨od, J, _⟩ := O.look
 obtain ⟨rest, hrec⟩ := hp.rec_
 have I1 := I.tok (s.toks + 1)
 have el : ([Value.ref a] ++ ds).length = ps.length := by
  have e1 : dvs.length + 1 = ps.length := F.len _ _ _ _ h
  show ds.length + 1 = ps.length
  rw [← e1, hd.length]
 obtain ⟨cd, hcd, _⟩ := PySem.W.any_some c.hd
 refine PySem.W.get_bind I.kIn J (PySem.W.plainGet_of (c.get fl)).1 (PySem.W.findObj_data (by rw [hcd]; rfl) hp.at_ hp.get hp.tak) (PySem.W.plainGet_of (c.get fl)).2 (wpAny_call (PySem.W.prop_get (s := { s with toks := s.toks + 1 }) I.kIn hrec ?_))
 refine codeAny_mono (F.run X.A.in1 X.stack { s with toks := s.toks + 1 } H ⟨[.ref a], []⟩ (.ref a :: ds) (.ref a :: dvs) Q E hr.in1 hgd I1.env0.in1 (hb _ [.ref a] I1.kIn el) (.cons rfl hd) h) ?_
 rintro (er | fl) s' q
 ·exact (hx pins σ H { s with toks := s.toks + 1 } er s' (I1.wish _) q).elim
 ·cases fl with
  | ret u =>
   obtain ⟨v, H', I3, rv, q3⟩ := I1.after q
   show wpAny _ _ (handedOut u) _ _ _
   rw [PySem.W.handedOut_of (handed_of rv)]
   exact wpAny_pure ⟨v, H', I3, rv, q3⟩
  | next => exact (show False from q).elim
  | brk => exact (show False from q).elim
  | cont => exact (show False from q).elim
theorem pe_propG (he : PE X e ta) (c : Cls X.K C) (hp : PropOf X.K C fl p1 g) (F : FnG X.prog X.w X.K X.mg X.base CX k g fd ps sp) (hr : Room (k + 1) X.A) (hgd : X.A.guards = some []) (hb : Binds X.K fd ps ds) (hd : Vals dvs ds) (hx : Passes CX X.nox E)
  (hab : attributeBase e fl X.env (eval e X.env) = eval e X.env := by rfl) : PE X (.Attribute e fl pos) (tProp C sp dvs E ta) :=
 ⟨fun pins s σ H Q I h => attr_of hab (thn (he.run pins s σ H _ I h) fun u s1 ⟨x, H1, I1, rx, a, dx, fs, ex, ea, q⟩ => by
  subst ex
  cases rx
  exact getpropG I1 ea c hp F hr hgd hb hd hx q)⟩
end
theorem CN.inj {K : PySem.W.Frag} {c : Str} {C D : Addr} (h : CN K c C) (g : CN K c D) : C = D := by
 have e : some (some (Value.ref C)) = some (some (Value.ref D)) := h.symm.trans g
 cases e
 rfl
def insOf (hp : IH) : W → Option (Str × List Yei)
 | .t (.ins c ns vs) => some (c, ns.zip (vs.map W.t))
 | .r i => (match hp[i]? with | some (some (.ins c fs)) => some (c, fs) | _ => none)
 | _ => none
section
variable {K : PySem.W.Frag} {ω : World} {s : S4}
theorem RwF.of_zip : ∀ {ns : List Str} {ts : List T} {vs : List V}, RfL K s.fz s.H ts vs → RwF K s (ns.zip Yo) (ns.zip vs)
 | [], _, _, _ => by rw [List.zip_nil_left, List.zip_nil_left]; rfl
 | _ :: _, [], vs, h => by simp only [RfL] at h; subst h; rfl
 | n :: ns, t :: ts, vs, h => by
  simp only [RfL] at h
  obtain ⟨v, r, rfl, a, b⟩ := h
  exact ⟨v, ns.zip r, rfl, a, RwF.of_zip b⟩
theorem RwF.look (f : Str) : ∀ {fs : List (Str × W)} {vs : List (Str × V)}, RwF K s fs vs → (∀ w, fs.lookup f = some w → ∃ v, vs.lookup f = some v ∧ Rw K s w v) ∧ (fs.lookup f = none → vs.lookup f = none)
 | [], vs, h => by rw [show vs = [] from h]; exact ⟨fun w e => by simp at e, fun _ => rfl⟩
 | (g, w) :: fs, vs, h => by
  obtain ⟨v, r, rfl, a, b⟩ := h
  obtain ⟨i1, i2⟩ := RwF.look f b
  by_cases e : f = g
  ·have hb : (f == g) = true := beq_iff_eq.mpr e
   exact ⟨fun u q => by
    simp only [List.lookup, hb, Option.some.injEq] at q ⊢
    subst q
    exact ⟨v, rfl, a⟩, fun q => by simp [List.lookup, hb] at q⟩
  ·have hb : (f == g) = false := beq_eq_false_iff_ne.mpr e
   exact ⟨fun u q => by
    simp only [List.lookup, hb] at q ⊢
    exact i1 u q, fun q => by
    simp only [List.lookup, hb] at q ⊢
    exact i2 q⟩
theorem RwF.names : ∀ {fs : List (Str × W)} {vs : List (Str × V)}, RwF K s fs vs → vs.map (·.1) = fs.map (·.1)
 | [], vs, h => by rw [show vs = [] from h]; rfl
 | (g, w) :: fs, vs, h => by
  obtain ⟨v, r, rfl, a, b⟩ := h
  rw [List.map_cons, List.map_cons, RwF.names b]
theorem RwF.length {fs : List Yei} {vs : List Yc2} (h : RwF K s fs vs) : fs.length = vs.length := by
 have := congrArg List.length h.names
 rw [List.length_map, List.length_map] at this
 exact this.symm
theorem ins_at (R : Rel K ω s) {w : W} {v : V} {c : Str} {fs : List Yei} (h : insOf s.hp w = some (c, fs)) (r : Rw K s w v) : ∃ a C dx vs, v = .ref a ∧ s.H a = some (.ins C dx vs) ∧ CN K c C ∧ RwF K s fs vs := by
 cases w with
 | r i =>
  obtain ⟨a, e1, e2⟩ := r
  simp only [insOf] at h
  split at h
  ·rename_i c' fs' hc
   simp only [Option.some.injEq, Prod.mk.injEq] at h
   obtain ⟨rfl, rfl⟩ := h
   obtain ⟨C, dx, vs, h1, h2, h3⟩ := R.cell i _ a hc e1
   exact ⟨a, C, dx, vs, e2, h1, h2, h3⟩
  ·cases h
 | t x =>
  unfold insOf at h
  split at h
  ·rename_i c' ns ts hx
   cases hx
   simp only [Option.some.injEq, Prod.mk.injEq] at h
   obtain ⟨rfl, rfl⟩ := h
   simp only [Rw, Rf] at r
   obtain ⟨a, C, vs, e, cn, t, _, l⟩ := r
   obtain ⟨_, dx, hH⟩ := t
   exact ⟨a, C, dx, _, e, hH, cn, RwF.of_zip l⟩
  ·rename_i hx
   cases hx
  ·cases h
end
/-- f may be read of, stored in an instance of the class c: no class of it has the name -/
structure FldOk (K : PySem.W.Frag) (c f : Str) : Prop where
 ex : ∃ C, CN K c C ∧ Cls K C ∧ NoAttr K C f
theorem FldOk.at_ {K : PySem.W.Frag} {c f : Str} {C : Addr} (h : FldOk K c f) (n : CN K c C) : Cls K C ∧ NoAttr K C f := by
 obtain ⟨D, n', h1, h2⟩ := h.ex
 cases n.inj n'
 exact ⟨h1, h2⟩
def fldW (cs : List Str) (f : Str) (w : W) (hp : IH) : Res W := match insOf hp w with
 | some (c, fs) => if c ∈ cs then (match fs.lookup f with | some x => .ok x hp | none => .bad) else .bad
 | none => .bad
def mFld (cs : List Str) (f : Str) (F : M W) : M W := fun eta hp => (F eta hp).bind fun a h1 => fldW cs f a h1
def putA (f : Str) (w : W) : List Yei → List Yei
 | [] => [(f, w)]
 | (g, x) :: r => if g = f then (g, w) :: r else (g, x) :: putA f w r
def fldSet (cs : List Str) (f : Str) (eta : IS) (o v : W) (hp : IH) : Res Fl := match o with
 | .r i => (match hp[i]? with
  | some (some (.ins c fs)) => if c ∈ cs ∧ fs.length < 1000 then .ok Ydu (hp.set i (some Yhl)) else .bad
  | _ => .bad)
 | _ => .bad
def zdn (cs : List Str) (f : Str) (Fo Fv : M W) : M Fl := fun eta hp => (Fv eta hp).bind fun v h1 => (Fo eta h1).bind fun o h2 => fldSet cs f eta o v h2
theorem RwF.put {K : PySem.W.Frag} {s : S4} {f : Str} {w : W} {v : V} (r : Rw K s w v) : ∀ {fs : List (Str × W)} {vs : List (Str × V)}, RwF K s fs vs → RwF K s (putA f w fs) (putF f v vs)
 | [], vs, h => by rw [show vs = [] from h]; exact ⟨v, [], rfl, r, rfl⟩
 | (g, x) :: fs, vs, h => by
  obtain ⟨u, q, rfl, a, b⟩ := h
  unfold putA putF
  by_cases e : g = f
  ·rw [if_pos e, if_pos e]
   exact ⟨v, q, rfl, r, b⟩
  ·rw [if_neg e, if_neg e]
   exact ⟨u, _, rfl, a, RwF.put r b⟩
section
variable {X : Cx} {Wx : WX} {e o val : Expr} {F Fo Fv : M W} {cs : List Str} {f : Str} {pos pos' : Pos}
theorem zdy (h : ∀ c ∈ cs, FldOk X.K c f) (he : IE X Wx e F) (hab : attributeBase e f X.env (eval e X.env) = eval e X.env := by rfl) : IE X Wx (.Attribute e f pos) (mFld cs f F) :=
 PE.imp (pe_fld he hab) fun σ H Q q => tM.bind1 (R := fun (x : V) (H1 : Hp) => ∃ a C dx fs v, x = .ref a ∧ H1 a = some Yd3 ∧ Cls X.K C ∧ NoAttr X.K C f ∧ fs.lookup f = some v ∧ Q v H1) (k := fun (a : W) _ h1 => fldW cs f a h1) q fun s eta w v R1 S1 f1 g => by
  unfold fldW at g
  split at g
  ·rename_i c fs hi
   split at g
   ·rename_i hc
    split at g
    ·rename_i x hx
     obtain ⟨a, C, dx, vs, e, hH, cn, l⟩ := ins_at R1 hi f1
     obtain ⟨c1, c2⟩ := (h c hc).at_ cn
     obtain ⟨u, hu, ru⟩ := (l.look f).1 x hx
     exact ⟨a, C, dx, vs, u, e, hH, c1, c2, hu, g u s rfl Yh R1 ru⟩
    ·exact g.elim
   ·exact g.elim
  ·exact g.elim
theorem st_fld (h : ∀ c ∈ cs, FldOk X.K c f) (ho : IE X Wx o Fo) (hv : IE X Wx val Fv) (hs : swapsWith val (some (.Attribute o f pos')) pos.line X.env = pure false := by rfl) : ISt X Wx (.Assign [.Attribute o f pos'] val pos) (zdn cs f Fo Fv) :=
 PS.imp (ps_fld ho hv hs) fun D σ H q => by
  obtain ⟨s0, eta, e1, R0, S0, g0⟩ := q
  refine ⟨s0, eta, e1, R0, S0, Go.bind g0 fun v vv s1 A1 R1 f1 _ g1 => ?_⟩
  refine ⟨s1, eta, rfl, R1, S0.aft A1 R0, Go.bind g1 fun w ov s2 A2 R2 f2 eok g2 => ?_⟩
  clear eok
  have f1' := f1.aft A2 R1
  have S2 := (S0.aft A1 R0).aft A2 R1
  unfold fldSet at g2
  split at g2
  ·rename_i i
   split at g2
   ·rename_i c fs hc
    split at g2
    ·rename_i hh
     obtain ⟨a, e1, e2⟩ := f2
     obtain ⟨C, dx, vs, h1, h2, h3⟩ := R2.cell i _ a hc e1
     obtain ⟨c1, c2⟩ := (h c hh.1).at_ h2
     have ok : CellOk X.K X.w s2 a Yhl (some (.ins C dx (putF f vv vs))) := ⟨C, dx, _, rfl, h2, h3.put f1'⟩
     refine ⟨a, C, dx, vs, e2, h1, c1, c2, by rw [← h3.length]; exact hh.2, ?_⟩
     have A := aft_setL (c := .ins c (putA f v fs)) (o := .ins C dx (putF f vv vs)) R2 hc e1
     exact g2 (.nx σ) (s2.setL i a Yhl (.ins C dx (putF f vv vs))) rfl A (rel_setL R2 hc e1 ok) (S2.aft A R2)
    ·exact g2.elim
   ·exact g2.elim
  ·exact g2.elim
end
def frzAll : List Yei → IH → Res (List T)
 | [], hp => .ok [] hp
 | x :: r, hp => (zcz x.2 hp).bind fun w h1 => match w with
  | .t t => (frzAll r h1).bind fun ts h2 => .ok (t :: ts) h2
  | .r _ => .bad
def freezeI (w : W) (hp : IH) : Res W := match w with
 | .r i => (match hp[i]? with
  | some (some (.ins c fs)) => (frzAll fs hp).bind fun ts h1 => (match h1[i]? with | some (some (.ins _ _)) => .ok (.t (.ins c (fs.map (·.1)) ts)) (h1.set i none) | _ => .bad)
  | _ => .bad)
 | _ => .bad
def zcc (F : M W) : M W := fun eta hp => (F eta hp).bind fun w h1 => freezeI w h1
section
variable {K : PySem.W.Frag} {ω : World} {Wx : WX}
theorem frz_one {s : S4} {w : W} {v : V} {x : W} {h1 : IH} (R : Rel K ω s) (r : Rw K s w v) (g : zcz w s.hp = .ok x h1) : ∃ s', s'.H = s.H ∧ s'.hp = h1 ∧ s'.rho = s.rho ∧ Aft s s' ∧ Rel K ω s' ∧ Rw K s' x v := by
 cases w with
 | t t =>
  simp only [zcz, Res.ok.injEq] at g
  obtain ⟨rfl, rfl⟩ := g
  exact ⟨s, rfl, rfl, rfl, Aft.refl s, R, r⟩
 | r i =>
  simp only [zcz] at g
  cases hq : (getL s.hp i).bind allT with
  | none => simp only [hq] at g; cases g
  | some ts =>
   simp only [hq, Res.ok.injEq] at g
   obtain ⟨rfl, rfl⟩ := g
   rw [Option.bind_eq_some_iff] at hq
   obtain ⟨ws, h1, h2⟩ := hq
   obtain ⟨a, vs, e, e1, e2, l, nf⟩ := R.lst h1 r
   subst e
   have A := aft_frz R (zbo h1) e1
   refine ⟨s.frz i a, rfl, rfl, rfl, A, rel_frz R (zbo h1) e1, ?_⟩
   rw [zb4 h2] at l
   simp only [Rw, Rf]
   exact ⟨a, vs, rfl, ⟨.inr rfl, e2⟩, RfL.aft A R _ _ Yd7⟩
theorem frz_all : ∀ (fs : List (Str × W)) {s : S4} {vs : List (Str × V)} {ts : List T} {h1 : IH}, Rel K ω s → RwF K s fs vs → frzAll fs s.hp = .ok ts h1 → ∃ s', s'.H = s.H ∧ s'.hp = h1 ∧ s'.rho = s.rho ∧ Aft s s' ∧ Rel K ω s' ∧ RfL K s'.fz s'.H ts (vs.map (·.2)) ∧ ts.length = fs.length
 | [], s, vs, ts, h1, R, l, g => by
  simp only [frzAll, Res.ok.injEq] at g
  obtain ⟨rfl, rfl⟩ := g
  rw [show vs = [] from l]
  exact ⟨s, rfl, rfl, rfl, Aft.refl s, R, by simp [RfL], rfl⟩
 | (n, w) :: fs, s, vs, ts, h1, R, l, g => by
  obtain ⟨v, r, rfl, a, b⟩ := l
  simp only [frzAll] at g
  cases hf : zcz w s.hp with
  | bad => rw [hf] at g; cases g
  | er _ _ _ => rw [hf] at g; cases g
  | ok x h2 =>
   rw [hf] at g
   obtain ⟨s2, e1, e2, e3, A2, R2, r2⟩ := frz_one R a hf
   cases x with
   | r _ => cases g
   | t t =>
    subst e2
    simp only [Res.bind] at g
    cases hg : frzAll fs s2.hp with
    | bad => rw [hg] at g; cases g
    | er _ _ _ => rw [hg] at g; cases g
    | ok us h3 =>
     rw [hg] at g
     simp only [Res.ok.injEq] at g
     obtain ⟨rfl, rfl⟩ := g
     obtain ⟨s3, q1, q2, q3, A3, R3, l3, n3⟩ := frz_all fs R2 (RwF.aft A2 R _ _ b) hg
     refine ⟨s3, q1.trans e1, q2, q3.trans e3, A2.trans A3, R3, ?_, by rw [List.length_cons, List.length_cons, n3]⟩
     rw [List.map_cons]
     simp only [RfL]
     exact ⟨v, _, rfl, Rf.aft A3 R2 _ _ r2, l3⟩
theorem zip_parts {A B : Type} : ∀ l : List (A × B), (l.map (·.1)).zip (l.map (·.2)) = l
 | [] => rfl
 | x :: l => by rw [List.map_cons, List.map_cons, List.zip_cons_cons, zip_parts l]
theorem go_freezeI {s : S4} {w : W} {v : V} {Q : VK} (R : Rel K ω s) (r : Rw K s w v) (g : Go K ω Wx (Rw K) s (freezeI w s.hp) Q) : Q v s.H := by
 unfold freezeI at g
 split at g
 ·rename_i i
  split at g
  ·rename_i c fs hc
   obtain ⟨a, e1, e2⟩ := r
   obtain ⟨C, dx, vs, h1, h2, h3⟩ := R.cell i _ a hc e1
   cases hg : frzAll fs s.hp with
   | bad => rw [hg] at g; exact g.elim
   | er _ _ _ =>
    exfalso
    have : ∀ (fs : List (Str × W)) (hp : IH) e eta h, frzAll fs hp ≠ .er e eta h := by
     intro fs
     induction fs with
     | nil => intro hp e eta h z; cases z
     | cons x fs ih =>
      intro hp e eta h z
      simp only [frzAll] at z
      cases hf : zcz x.2 hp with
      | bad => rw [hf] at z; cases z
      | er _ _ _ =>
       cases hx : x.2 with
       | t t => rw [hx] at hf; cases hf
       | r j =>
        rw [hx] at hf
        simp only [zcz] at hf
        split at hf <;> cases hf
      | ok y h2 =>
       rw [hf] at z
       cases y with
       | r _ => cases z
       | t t =>
        simp only [Res.bind] at z
        cases hg : frzAll fs h2 with
        | bad => rw [hg] at z; cases z
        | ok _ _ => rw [hg] at z; cases z
        | er _ _ _ => exact ih _ _ _ _ hg
    exact this _ _ _ _ _ hg
   | ok ts h5 =>
    rw [hg] at g
    obtain ⟨s2, q1, q2, q3, A2, R2, l2, n2⟩ := frz_all fs R h3 hg
    subst q2
    simp only [Res.bind] at g
    split at g
    ·rename_i c' fs' hc'
     have ha : s2.rho[i]? = some a := by rw [q3]; exact e1
     have A3 := aft_frz R2 hc' ha
     have R3 := rel_frz R2 hc' ha
     have fin := g v (s2.frz i a) rfl (A2.trans A3) R3 (by
      simp only [Rw, Rf]
      refine ⟨a, C, vs.map (·.2), e2, h2, ⟨.inr rfl, dx, ?_⟩, by rw [List.length_map, n2], RfL.aft A3 R2 _ _ l2⟩
      rw [← h3.names, zip_parts]
      show s2.H a = _
      rw [q1]
      exact h1)
     have eH : (s2.frz i a).H = s.H := q1
     rw [eH] at fin
     exact fin
    ·exact g.elim
  ·exact g.elim
 ·exact g.elim
theorem ie_frzI {X : Cx} {e : Expr} {F : M W} (he : IE X Wx e F) : IE X Wx e (zcc F) := PE.imp he fun σ H Q h => by
 obtain ⟨s, eta, e1, R1, S1, g⟩ := h
 exact ⟨s, eta, e1, R1, S1, Go.bind g fun a b s' A' R' f' _ g' => go_freezeI R' f' g'⟩
end
def mProp (c : Str) (f : OpN) (Fo : M W) : M W := fun eta hp => (Fo eta hp).bind fun o h1 => match insOf h1 o with
 | some (c', _) => if c' = c then noEr (f [o] h1) else .bad
 | none => .bad
section
variable {X : Cx} {Wx : WX} {k : Nat} {f C g p1 : Addr} {fd : FuncData} {ps : List Str} {m : OpN} {n : Nat} {c x mn fl : Str} {p pos apos : Pos} {e o : Expr} {es : List Expr} {Fo : M W} {Fs : M (List W)} {dvs : List V} {ds : List Value} {dts : List T} {pl : Sem Bool}
theorem ie_prop (cn : CN X.K c C) (cl : Cls X.K C) (hp : PropOf X.K C fl p1 g) (Fk : FnG X.prog X.w X.K X.mg X.base Yb7 k g fd ps Yc3) (hr : Room (k + 1) X.A) (hgd : X.A.guards = some []) (hb : Binds X.K fd ps []) (hl : ∀ ws hp, ws.length ≠ n → m ws hp = .bad) (ho : IE X Wx e Fo)
  (hab : attributeBase e fl X.env (eval e X.env) = eval e X.env := by rfl) : IE X Wx (.Attribute e fl pos) (mProp c m Fo) :=
 PE.imp (pe_propG ho cl hp Fk hr hgd hb .nil Ydx hab) fun σ H Q h => by
  obtain ⟨s0, eta, e1, R0, S0, g0⟩ := h
  refine ⟨s0, eta, e1, R0, S0, Go.bind g0 fun w v s1 A1 R1 f1 eok g1 => ?_⟩
  clear eok
  split at g1
  ·rename_i c' fs hi
   split at g1
   ·rename_i hc
    subst hc
    obtain ⟨a, C', dx, vs, e, hH, cn', l⟩ := ins_at R1 hi f1
    cases cn.inj cn'
    subst e
    refine ⟨a, dx, vs, rfl, hH, s1, [w], rfl, R1, ⟨.ref a, [], rfl, f1, rfl⟩, ?_, ?_⟩
    ·by_cases q : [w].length = n
     ·exact q
     ·rw [hl _ _ q] at g1; exact g1.elim
    ·cases hq : m [w] s1.hp with
     | ok a h => rw [hq] at g1; exact g1
     | er _ _ _ => rw [hq] at g1; exact g1.elim
     | bad => rw [hq] at g1; exact g1.elim
   ·exact g1.elim
  ·exact g1.elim
end
end Mir
namespace Mir
open PySem PySem.Spec L2
open PyProof.Rows hiding St
section
variable {prog : Program} {w : World} {A : Around} {E : Value → Shared → Prop} {h : Heap} {g : Array GenState} {d : Drawn} {t : Nat} {os : OsState}
variable {nm q : Str} {C N : Addr} {bs bm : List Value} {hdct : Bool} {sn : List Str} {sub : List Value} {ab : Bool} {col : Option Bool} {dd : Option Addr} {k0 k1 k2 k3 k5 : Option Value}
/-- the built-in __init__ bound to the exception, called -/
theorem call_mw {B newId i : String} {bmB : List Value} (FB : PySem.ExcBaseFacts B newId i bmB) {u e t0 : Addr} {rest : List Value} {Q : Value → Shared → Prop}
  (hC : h.get? C = some (excClassObj nm q C N bs bm hdct sn sub ab col dd k0 k1 k2 k3 k5 newId)) (he : h.get? e = some (PySem.HandSPX.excO C t0)) (hu : h.get? u = some (PySem.W.kxs_mw i e)) (hrest : rest.length ≤ sizeLine)
  (hq : ∀ h' t1, (∀ b o, b ≠ e → h.get? b = some o → h'.get? b = some o) → h'.get? e = some (PySem.HandSPX.excO C t1) → Q .none ⟨h', g, d, t, os⟩) :
  wpAny Y9 A (call (.ref u) rest) Q E ⟨h, g, d, t, os⟩ := by
 refine wpAny_call (codeAny_of_tree ?_)
 show wpAny _ A.in1 (callAny (.ref u) ⟨rest, []⟩) _ _ _
 simp only [callAny]
 refine wpAny_bind (wpAny_load hu ?_)
 simp only [PySem.W.kxs_mw, show (Value.type "method-wrapper" == Value.type "method" || Value.type "method-wrapper" == Value.type "builtin_function_or_method" || Value.type "method-wrapper" == Value.type "method-wrapper") = true by decide, if_true]
 refine PySem.W.KFB.if_so Ybr ?_
 refine wpAny_bind (PySem.W.check_bound_init FB.toExcCallFacts hC he rfl ?_)
 refine wpAny_bind (wpAny_pure (wpAny_pure ?_))
 refine ⟨plainId_quiet FB.init.plain _, codeAny_builtin FB.initEntry ?_⟩
 rw [Around.under_plainId FB.init.plain _]
 wp_walk
 refine hq _ h.objs.size (fun b o hb ho => ?_) ?_
 ·rw [Heap.get?_update_other _ _ (Ne.symm hb)]
  exact Heap.get?_push_of_some _ ho
 ·rw [Heap.get?_update_self _ (Heap.get?_push_of_some _ he) rfl]
  rfl
end
theorem ldL' {M : Model} {A : Around} {E : Value → Shared → Prop} {s : Shared} {env : Env} {m : Str → Option Value} {x : Str} {pos : Pos} {v : Value} {Q : Value → Shared → Prop} (hn : s.heap.Ns env.locals m) (hv : m x = some v) (h : Q v s)
  (hk : env.scope.kind = .function) (hl : env.kindOf x = some .local) (hd : (x == ("__debug__" : Str)) = false) : wpAny M A (eval Yg1 env) Q E s := wpAny_Name (wpAny_loadName_local hk hl hn hv h) hd
/-- what the written part says of such a class -/
structure XIni (P : Program) (K : PySem.W.Frag) (C fI : Addr) (qual fld : Str) (params : Arguments) (body : List Stmt) (scope : Scope) (fd : FuncData) : Prop where
 T : OexC K C
 ex : ∃ (oc : Value) (od : Option Addr) (kV doc pm : Value) (an : Option Addr) (cda : Addr) (ct : Value) (cc : Addr) (osl : Array Ybk) (ccl : Value) (cdd : Option Addr) (vs : Array Value) (ccs : Array Ybk) (file : Str) (tf : Tok) (cl : Value) (cld : Option Addr) (csl : Array Ybk),
  fd = PySem.W.ksFn "__init__" qual params body scope .none kV doc pm an Yfj ct cc ∧ K.lookup fI = some ⟨oc, od, .func fd, osl⟩ ∧ PySem.W.codeIn K Yfj qual = true ∧
  K.lookup cda = some ⟨ccl, cdd, .fields vs, ccs⟩ ∧ vs[2]? = some (.str file tf) ∧ ((P.main.file : Str) == file) = true ∧ K.lookup cc = some ⟨cl, cld, .cell (some (.ref C)), csl⟩
 iC : PySem.W.findIn K (.ref C) "__init__" = some (some (.ref fI))
 tI : PySem.W.typeIn K (.ref fI) = some Yfn
 sup : PySem.W.ks_superIn K C C "__init__" = some Ydd
 sub : PySem.W.subIn K (.ref C) (.type "ValueError") = some true
 mro : PySem.W.mroIn K C (.ref C) = some true
 gs : PySem.W.nsIn K mainGlobals "super" = some none
 ta : PySem.W.nsIn K PySem.cStatics "thirdparty.any" = some none
 fl : PySem.W.findIn K (.ref C) fld = some none
 top : (P.main.scope.names.lookup ("super" : Str)).isSome = false
/-- .. and its scope -/
structure XSc (par : Str) (ar : Arg) (params : Arguments) (scope : Scope) : Prop where
 hp : (params.posonlyargs ++ params.args).head? = some ar
 ha : ar.arg = ("self" : Str)
 ks : scope.names.lookup ("super" : Str) = some .globalImplicit
 kc : scope.names.lookup ("__class__" : Str) = some .free
 kself : scope.names.lookup Yfk = some .local
 kpar : scope.names.lookup par = some .local
 kind : scope.kind = .function
 co : scope.isCoroutine = false
 gen : scope.isGenerator = false
 cell : ∀ x ∈ scope.names, x.2 ≠ .cell
 ne : par ≠ ("self" : Str)
 db : (par == ("__debug__" : Str)) = false
section
variable {P : Program} {w : World} {K : PySem.W.Frag} {mg mb : Str → Option Value} {A : Around} {R : Result → Shared → Prop} {hp : Heap} {g : Array GenState} {d : Drawn} {t : Nat} {os : OsState}
theorem xini_code {C fI e t0 : Addr} {qual fld par txt : Str} {params : Arguments} {scope : Scope} {fd : FuncData} {ar : Arg} {args : Args} {u : Value} {p0 p1 p2 p3 p4 p5 p6 p7 p8 p9 : Pos} {j : Nat}
  (X : XIni P K C fI qual fld params [.Expr Yd p5, .Assign [.Attribute (.Name "self" p6) fld p7] (.Name par p8) p9] scope fd) (S : XSc par ar params scope)
  (KX : K.In hp) (Gg : hp.Ns mainGlobals mg) (Gb : hp.Ns builtinsNs mb) (Gbb : ∀ x : Str, x ≠ "__name__" → mb x = bootBuiltins x) (nl : hp.NoLimit) (hroom : A.depth < recursionLimit)
  (Ke : K.lookup e = none) (he : hp.get? e = some (PySem.HandSPX.excO C t0)) (hbind : BindsTo ⟨hp, g, d, t, os⟩ fd args [("self", .ref e), (par, u)])
  (hq : ∀ h' tk' dx t1, (∀ b o, b ≠ e → hp.get? b = some o → h'.get? b = some o) → hp.objs.size ≤ dx → dx ≠ e → h'.get? e = some ({ cls := .ref C, dict := some dx, data := .fields #[.ref t1, .none, .none, .none, .bool false, .none] } : Obj) →
   h'.Ns1 dx (fun y => if y = fld then some u else none) → R (.ok (.ret .none)) ⟨h', g, d, tk', os⟩)
  (hev : ∀ env : Env, eval Yd env = (do
   let ov ← attributeBase Ybo "__init__" env (eval Ybo env)
   standAt p2.atName
   let (f, first) ← holding [ov] Yz
   callWith p4 f first (backTo p4 Ycu) [])) :
  codeAny Ydl A (.call (.ref fI) args) R ⟨hp, g, d, t, os⟩ := by
 obtain ⟨oc, od, kV, doc, pm, an, cda, ct, cc, osl, ccl, cdd, vs, ccs, file, tf, cl, cld, csl, rfl, lk, hcd, hcode, hvs, hfile, hcell⟩ := X.ex
 obtain ⟨nm, q, N, bs, bm, sn, sub, ab, col, dd, k0, k1, k2, k3, k5, hC, hbm⟩ := X.T.cls
 have hcl : PySem.W.clsIn K C = some { name := nm, bases := bs, mro := .ref C :: bm, ns := N, qualname := q, hasDict := true, slotNames := sn, subclasses := sub, abstract := ab, collection := col, hasDel := false } := by unfold PySem.W.clsIn; rw [hC] <;> rfl
 have kn : PySem.HandSPX.excO C t0 = PySem.HandSPX.excO C t0 := rfl
 refine PySem.ks_codeAny_call_defAt (binds := [("self", .ref e), (par, u)]) hroom (KX _ _ lk) rfl nl (PySem.W.codeRec_of KX hcd) rfl hbind S.cell ?_ (fun h₁ hns k1' => ?_) S.co S.gen S.kind
 ·intro x hx
  simp only [List.mem_cons, List.not_mem_nil, or_false] at hx
  rcases hx with rfl | rfl
  ·exact S.kself
  ·exact S.kpar
 have X1 : K.In h₁ := KX.keeps k1'
 have he1 := k1' _ _ he
 have hb1 : ([Ydm, (par, u)] : List (Str × Value)).reverse.lookup Yfk = some (Value.ref e) := by
  have : ((("self" : Str) == par)) = false := beq_eq_false_iff_ne.mpr (Ne.symm S.ne)
  show List.lookup Yfk [(par, u), Ydm] = _
  rw [List.lookup_cons, this]
  show List.lookup Yfk [Ydm] = _
  rw [List.lookup_cons, beq_self_eq_true]
 have hb2 : ([Ydm, (par, u)] : List (Str × Value)).reverse.lookup par = some u := by
  show List.lookup par [(par, u), Ydm] = _
  rw [List.lookup_cons, beq_self_eq_true]
 have hCg := X1 _ _ hC
 have heC : e ≠ C := by
  intro z
  rw [z, hCg] at he1
  cases he1
 have hal : PySem.W.alongIn K "__init__" bm = some Ydd := by
  have q := X.sup
  unfold PySem.W.ks_superIn at q
  rw [hcl] at q
  have z : (((Value.ref C) :: bm).dropWhile (· != .ref C)).drop 1 = bm := by simp [List.dropWhile_cons]
  rw [← z]
  exact q
 have hi : interactive (PySem.W.ksEnv qual scope hp.objs.size fI Yfj cc) = false := by simp [interactive, S.kind]
 have FB := PySem.F.excBase_ValueError
 refine PySem.ks_wpAt_execs_cons (PySem.ks_wpAt_Expr_any (env := PySem.W.ksEnv qual scope hp.objs.size fI Yfj cc) (PySem.ks_wpAt_MethodCall ?_ (hev _)) hi)
 refine PySem.ks_wpAt_super_base (env := PySem.W.ksEnv qual scope hp.objs.size fI Yfj cc) S.ks S.kc Ybr rfl (X1 _ _ lk) rfl S.hp rfl (X1 _ _ hcode) rfl hvs hfile X.top ?_
 refine PySem.W.ks_loadName_global (env := PySem.W.ksEnv qual scope hp.objs.size fI Yfj cc) S.kind S.ks (PySem.Calls.loadGlobal_builtin (env := PySem.W.ksEnv qual scope hp.objs.size fI Yfj cc) (Gg.keeps k1') (PySem.W.mg_none_of KX Gg X.gs) (Gb.keeps k1') ((Gbb _ Y3).trans Y3) ⟨rfl, ?_⟩)
 refine wpAny_loadName_free (env := PySem.W.ksEnv qual scope hp.objs.size fI Yfj cc) S.kind S.kc rfl ⟨_, X1 _ _ hcell, rfl⟩ ?_
 rw [S.ha]
 refine wpAny_loadName_local (env := PySem.W.ksEnv qual scope hp.objs.size fI Yfj cc) S.kind S.kself hns hb1 ?_
 refine PySem.ks_wpAny_isType_cls hCg rfl ⟨rfl, ?_⟩
 refine PySem.ks_wpAny_call_super hCg rfl he1 rfl (fun c z => by cases z) (PySem.W.looks_mroIn X1 X.mro) (fun h2 e2 k2 => ?_)
 have X2 := X1.keeps k2
 have he2 := k2 _ _ he1
 refine PySem.W.kxs_getMethod PySem.W.kxs_ValueError e2 (PySem.W.looks_opaque X2 X.ta) (l₀ := .ref C :: bm) ((PySem.W.looks_clsIn X2 hcl).andThen .now) (l := bm) (by simp [List.dropWhile_cons]) X2 hal ?_ heC Ybr ?_
 ·exact (⟨he2, rfl, rfl, trivial⟩ : PySem.W.InstAt h2 e (PySem.HandSPX.excO C t0) C none).type.andThen (PySem.W.looks_subIn X2 X.sub)
 have k3 : ∀ b o, h2.get? b = some o → (h2.push Yfq).get? b = some o := fun b o q => Heap.get?_push_of_some _ q
 have hu : (h2.push Yfq).get? h2.objs.size = some Yfq := Heap.get?_push_at rfl rfl
 have X3 := X2.keeps k3
 have he3 := k3 _ _ he2
 refine PySem.W.kxs_callWith (i := "ValueError.__init__") (x := e) rfl (Calls.evalArgs_plain (x := eval (.Constant (.str txt) j p3) (PySem.W.ksEnv qual scope hp.objs.size fI Yfj cc)) (rest := []) (Calls.spliced_cons (Calls.Constant_str (Calls.spliced_nil ⟨hu, ?_⟩))))
 refine call_mw (rest := [_]) FB (X3 _ _ hC) he3 hu (by rw [sizeLine_eq]; simp) fun h4 t1 k4 he4 => ?_
 -- self.fld = par
 have k14 : ∀ b o, b ≠ e → h₁.get? b = some o → h4.get? b = some o := fun b o hb q => k4 b o hb (k3 _ _ (k2 _ _ q))
 have X4 : K.In h4 := fun b o q => k4 b o (fun z => by rw [z, Ke] at q; cases q) (X3 b o q)
 have hL : e ≠ hp.objs.size := Nat.ne_of_lt (Heap.lt_size he)
 have hns4 : h4.Ns hp.objs.size _ := hns.at fun o q => k14 _ o (Ne.symm hL) q
 refine PySem.ks_wpAt_execs_cons (PySem.ks_wpAt_Assign_Attr (wpAt_of_wpAny (ldL' (env := PySem.W.ksEnv qual scope hp.objs.size fI Yfj cc) hns4 hb2 (ldL' (env := PySem.W.ksEnv qual scope hp.objs.size fI Yfj cc) hns4 hb1 ?_ S.kind S.kself Ybr) S.kind S.kpar S.db)))
 refine PySem.W.set_plain X4 (ox := { cls := .ref C, dict := none, data := .fields #[.ref t1, .none, .none, .none, .bool false, .none] }) (od := none) ⟨he4, rfl, rfl, trivial⟩ X.T.sa ?_
 refine PySem.HandSPX.exc_osa X4 he4 hcl (show PySem.HandSPX.refsVE (.ref C :: bm) = true from hbm) rfl X.fl (fun h5 tk5 dx k5' dn dne hx hn => ?_)
 refine wpAt_of_wpAny (wpAny_execs_nil ?_)
 refine hq h5 tk5 dx t1 (fun b o hb q => k5' b o hb (k14 b o hb (k1' b o q))) ?_ dne hx hn
 have : hp.objs.size ≤ h4.objs.size := by
  obtain ⟨oL, es, ep, hL2, _⟩ := hns4
  exact Nat.le_of_lt (Heap.lt_size hL2)
 exact Nat.le_trans this dn
end
/-- the promise of such an __init__ -/
def spI (C : Addr) (fld : Str) : Sp := fun vs H Q _ => ∃ (e : Addr) (y : V), vs = [.ref e, y] ∧ H e = some (exo e C none) ∧ ∀ dx, H dx = none → dx ≠ e → Q .non (upd (upd H dx (exd dx [(fld, y)])) e (exo e C (some dx)))
section
variable {P : Program} {w : World} {K : PySem.W.Frag} {mg : Str → Option Value} {base : Heap} {CX : CXT} {C fI : Addr} {qual fld par txt : Str} {params : Arguments} {scope : Scope} {fd : FuncData} {ar : Arg} {p0 p1 p2 p3 p4 p5 p6 p7 p8 p9 : Pos} {j : Nat}
theorem xini_run (X : XIni P K C fI qual fld params [.Expr Yd p5, .Assign [.Attribute (.Name "self" p6) fld p7] (.Name par p8) p9] scope fd) (S : XSc par ar params scope)
  (hev : ∀ env : Env, eval Yd env = (do
   let ov ← attributeBase Ybo "__init__" env (eval Ybo env)
   standAt p2.atName
   let (f, first) ← holding [ov] Yz
   callWith p4 f first (backTo p4 Ycu) []))
  {A : Around} {outer : List Env} {s : Shared} {H : Hp} {args : Args} {us : List Value} {vs : List V} {Q : VK} {E : XK} (hroom : A.depth < recursionLimit) (e0 : Env0 P w K mg base A outer s H) (hb : BindsTo s fd args (([Yfk, par] : List Str).zip us)) (r : Vals vs us) (h : spI C fld vs H Q E) :
  codeAny Ydl A (.call (.ref fI) args) (CR CX outer P w H s Q E) s := by
 obtain ⟨e, y, rfl, he, q⟩ := h
 cases r with
 | @cons _ u0 _ ur ra rb =>
  cases rb with
  | @cons _ u _ ur2 ry rc =>
   cases rc
   obtain rfl : u0 = Value.ref e := ra
   obtain ⟨t0, ho⟩ := exo_at e0.hok he
   have keep : ∀ b o, base.get? b = some o → s.heap.get? b = some o := fun b o z => (e0.bs b o z).1
   have Ke : K.lookup e = none := by
    cases z : K.lookup e with
    | none => rfl
    | some o =>
     have z1 := (e0.bs e o (e0.mod.kin _ _ z)).2
     rw [he] at z1
     cases z1
   obtain ⟨mb, Gb, Gbb⟩ := e0.mod.blt
   have ok := e0.hok
   have bare := e0.bare
   have KX := e0.mod.kin.keeps keep
   have Gg : s.heap.Ns mainGlobals mg := e0.mod.glob.at fun o z => keep _ _ z
   have Gb' : s.heap.Ns builtinsNs mb := Gb.at fun o z => keep _ _ z
   have nl : s.heap.NoLimit := e0.mod.nolimit.keeps keep
   clear e0
   obtain ⟨hp, g, d, t, os⟩ := s
   refine xini_code X S KX Gg Gb' Gbb nl hroom Ke ho hb (fun h' tk' dx t1 k dn dne hx hn => ?_) hev
   have hnd : H dx = none := ok.fresh dn
   have nd : ∀ {b : Addr} {o : Obj}, hp.get? b = some o → b ≠ dx := fun {b o} q => Nat.ne_of_lt (Nat.lt_of_lt_of_le (Heap.lt_size q) dn)
   have na : ∀ {b : Addr}, H b = none → b ≠ e := fun {b} n z => by
    rw [z, he] at n
    cases n
   refine ⟨.non, upd (upd H dx (exd dx [(fld, y)])) e (exo e C (some dx)), rfl, bare, ?_, ?_, rfl, q dx hnd dne⟩
   ·exact {
     keep := fun b o q n _ _ => k b o (na n) q
     slot := fun b o q n _ _ => ⟨o.slots, k b o (na n) q⟩
     free := fun b o q n _ => by rw [upd_ne (na n), upd_ne (nd q)]; exact n
     there := fun b o q _ => by
      by_cases hb : b = e
      ·exact ⟨_, by rw [hb]; exact hx⟩
      ·exact ⟨o, k b o hb q⟩
     tups := fun b xs q => by rw [upd_ne (at_ne he q exo_tup), upd_ne (ne_of_none q hnd)]; exact q
     frzs := fun b o v q => by rw [upd_ne (at_ne he q exo_frz), upd_ne (ne_of_none q hnd)]; exact q
     tbls := fun b ps q => ⟨#[], by rw [upd_ne (at_ne he q exo_tbl), upd_ne (ne_of_none q hnd), q]; simp⟩ }
   ·intro b o q
    by_cases hb : b = e
    ·subst hb
     rw [upd_same] at q
     cases q
     exact exo_ok hx
    ·rw [upd_ne hb] at q
     by_cases hd : b = dx
     ·subst hd
      rw [upd_same] at q
      cases q
      exact exd_ok hn (relO_put (fs := []) ry fun g => True.intro)
     ·rw [upd_ne hd] at q
      exact (ok b o q).stay (fun c v hc z => k c v (by
        rcases hc with hc | hc
        ·rw [hc]
         exact hb
        ·exact at_ne he hc exo_own) z)
       (fun c hc => by rw [upd_ne (at_ne he hc exo_own), upd_ne (ne_of_none hc hnd)]; exact hc) (fun c xs hc => by rw [upd_ne (at_ne he hc exo_tup), upd_ne (ne_of_none hc hnd)]; exact hc)
theorem spI_len {vs : List V} {H : Hp} {Q : VK} {E : XK} (h : spI C fld vs H Q E) : vs.length = ([Yfk, par] : List Str).length := by
 obtain ⟨e, y, rfl, _⟩ := h
 rfl
theorem xini_ok (X : XIni P K C fI qual fld params [.Expr Yd p5, .Assign [.Attribute (.Name "self" p6) fld p7] (.Name par p8) p9] scope fd) (S : XSc par ar params scope)
  (hev : ∀ env : Env, eval Yd env = (do
   let ov ← attributeBase Ybo "__init__" env (eval Ybo env)
   standAt p2.atName
   let (f, first) ← holding [ov] Yz
   callWith p4 f first (backTo p4 Ycu) [])) : FnOk P w K mg base CX 1 fI fd [Yfk, par] (spI C fld) :=
 ⟨fun vs H Q E h => spI_len h, fun A outer s H args us vs Q E hr e0 hb r h => xini_run X S hev hr.depth e0 hb r h⟩
theorem xini_hot (X : XIni P K C fI qual fld params [.Expr Yd p5, .Assign [.Attribute (.Name "self" p6) fld p7] (.Name par p8) p9] scope fd) (S : XSc par ar params scope)
  (hev : ∀ env : Env, eval Yd env = (do
   let ov ← attributeBase Ybo "__init__" env (eval Ybo env)
   standAt p2.atName
   let (f, first) ← holding [ov] Yz
   callWith p4 f first (backTo p4 Ycu) [])) : L2H.FnH P w K mg base CX 1 fI fd [Yfk, par] (spI C fld) :=
 ⟨fun vs H Q E h => spI_len h, fun A outer s H args us vs Q E p hr _ _ e0 hb r h => xini_run X S hev hr.depth e0 hb r h⟩
end
end Mir
namespace Mir
open PySem PySem.Spec L2
open PyProof.Rows hiding St
section
variable {X : Cx} {CX : CXT} {k : Nat} {f C g p1 : Addr} {fd : FuncData} {ps : List Str} {sp : Sp} {dvs : List V} {ds : List Value} {E : L2.St → XK} {x m fl : Str} {p pos apos : Pos} {e o : Expr} {es : List Expr} {ta : TE} {t : TA} {pl : Sem Bool} {mc : Value}
theorem run_makeX {pins : List Yfb} {σ : L2.St} {H : Hp} {s : Shared} {Q : VK} {us : List Value} {vs : List V} (M : Mk X.K C f) (F : FnG X.prog X.w X.K X.mg X.base CX k f fd ps sp) (hr : Room (k + 1) X.A) (hgd : X.A.guards = some []) (hb : Binds X.K fd ps ds) (hd : Vals dvs ds) (hx : PassesAt CX X σ (E σ)) (I : Inv X pins σ H s) (r : Vals vs us)
  (h : ∀ x dx, H x = none → H dx = none → dx ≠ x → sp Yg5 (upd (upd H dx (.own x)) x Ygg) Yc7 (E σ)) : wpAny Ybc X.A (call (.ref C) us) Yej X.xe s := by
 have q0 := h Yaz s.heap.objs.size (I.hok.fresh (Nat.le_succ _)) (I.hok.fresh Ye2) (Nat.ne_of_lt Ygd)
 have J := Inv.made (C := C) I
 have r2 : Vals (V.ref Yaz :: (vs ++ dvs)) (Value.ref Yaz :: (us ++ ds)) := .cons rfl (r.append hd)
 have el : (Value.ref Yaz :: us ++ ds).length = ps.length := (show _ = _ from r2.length.symm).trans (F.len _ _ _ _ q0)
 have cod := F.run (X.A.under (.builtin "type.__call__" ⟨.ref C :: us, []⟩)) X.stack _ _ ⟨Value.ref Yaz :: us, []⟩ (Value.ref Yaz :: (us ++ ds)) _ _ (E σ) (hr.make C us []) hgd (J.env0.make C us []) (hb _ (Value.ref Yaz :: us) J.kIn el) r2 q0
 refine wpAny_call (make_map (f := f) I.kIn M.makes M.init (beq_iff_eq.mp M.fn) (codeAny_mono cod ?_))
 rintro (er | fl) s' q
 ·exact hx pins _ _ er s' J q
 ·cases fl with
  | ret u =>
   obtain ⟨v, H', J2, rv, ev, q3⟩ := J.after q
   subst ev
   exact ⟨rv, V.ref Yaz, H', J2, rfl, q3⟩
  | next => exact (show False from q).elim
  | brk => exact (show False from q).elim
  | cont => exact (show False from q).elim
def tMakeX (C : Addr) (sp : Sp) (dvs : List V) (E : L2.St → XK) (t : TA) : TE := fun σ H Q => t σ H fun vs H1 => ∀ x dx, H1 x = none → H1 dx = none → dx ≠ x → sp Yg5 (upd (upd H1 dx (.own x)) x Ygg) Yc7 (E σ)
theorem pe_makeX (M : Mk X.K C f) (F : FnG X.prog X.w X.K X.mg X.base CX k f fd ps sp) (hr : Room (k + 1) X.A) (hgd : X.A.guards = some []) (hg : Gl X x) (hm : X.mg x = some (.ref C)) (hb : Binds X.K fd ps ds) (hd : Vals dvs ds) (hx : ∀ σ, PassesAt CX X σ (E σ)) (ha : PA X Ya3 t)
  (hdb : (x == ("__debug__" : Str)) = false := by decide) (he : starEach Ya3 X.env = (false, eval e X.env) :: starEach es X.env := by rfl) (hpl : (backTo pos Yci).any (·.1) = false := by rfl) : PE X Yam (tMakeX C sp dvs E t) :=
 ⟨fun pins s σ H Q I h => wpAny_Call_Name_kw (ld_glob I hg hm (PySem.W.callWith_K (h₀ := X.base) I.ok.mod.kin M.kp (thn Ye6 fun us s1 ⟨vs, H1, I1, r, q⟩ => ⟨I1.kIn, run_makeX M F hr hgd hb hd (hx σ) I1 r q⟩) he hpl) hdb)⟩
end
def reEr {A : Type} (eta : IS) (r : Res A) : Res A := match r with
 | .er e _ h => .er e eta h
 | r => r
def spX (K : PySem.W.Frag) (ω : World) (f : OpN) (n : Nat) : Sp := fun vs H Q E => ∃ (s : S4) (ws : List W), s.H = H ∧ Rel K ω s ∧ RwL K s ws vs ∧ ws.length = n ∧ Go K ω (fun cls d _ H' => E cls d H') (Rw K) s (f ws s.hp) Q
/-- a def's function: exceptions go on; its cells stay -/
def fnX (n nn : Nat) (B : M Fl) : OpN := fun ws hp => if ws.length = n then (match B Ye3 hp with
  | .ok (.rt w) h => .ok w h
  | .ok (.nx _) h => .ok Yco h
  | .er e _ h => .er e [] h
  | _ => .bad) else .bad
theorem fnX_len {n nn : Nat} {B : M Fl} : ∀ ws hp, ws.length ≠ n → fnX n nn B ws hp = .bad := fun ws hp h => by unfold fnX; rw [if_neg h]
section
variable {K : PySem.W.Frag} {ω : World}
theorem spX_len {f : OpN} {n : Nat} {vs : List V} {H : Hp} {Q : VK} {E : XK} (h : spX K ω f n vs H Q E) : vs.length = n := by
 obtain ⟨s, ws, _, _, l, e, _⟩ := h
 rw [← RwL.length l, e]
variable {P : Program} {w : World} {mg : Str → Option Value} {base : Heap} {CX : CXT}
theorem okX {x qual : Str} {st : Stmt} {f : Addr} {fd : FuncData} {N ps : List Str} {k : Nat} {B : M Fl} {dfs : List V} {kws : List Yc2} (F : FunD K x qual (defArgs st) Ygv Ybh dfs kws f fd) (S : FnScope N ps Ybh)
  (hb : ∀ (cdv : Value) (A : Around) (outer : List Env) (s : Shared) (H : Hp) (E : XK), Room k Ya9 → A.guards = some [] → ISs Ydv (fun cls d _ H' => E cls d H') Ygv B) :
  FnG P w K mg base CX (k + 1) f fd ps (spX K w (fnX ps.length N.length B) ps.length) := by
 refine Fun.okG F S (fun vs H Q E h => spX_len h) fun cdv A outer s H vs Q E hr hgd h => ⟨_, hb cdv A outer s H E hr hgd, ?_⟩
 obtain ⟨s0, ws, e1, R1, l, el, g⟩ := h
 refine ⟨s0, _, e1, R1, sl_start l, ?_⟩
 unfold fnX at g
 rw [if_pos el] at g
 rw [el]
 cases hB : B (ws.map some ++ List.replicate (N.length - ps.length) none) s0.hp with
 | ok fl hp =>
  rw [hB] at g
  cases fl with
  | rt wr => exact fun b s' h1 h2 h3 h4 => by cases b <;> first | exact h4.elim | exact g _ s' h1 h2 h3 h4
  | nx e => exact fun b s' h1 h2 h3 h4 => by cases b <;> first | exact h4.elim | exact g .non s' h1 h2 h3 (by simp [Rw, Rf])
  | bk e => exact g.elim
  | ct e => exact g.elim
 | er e eta hp =>
  rw [hB] at g
  exact fun s' σ' cls d h1 h2 h3 h4 h5 => g s' [] cls d h1 h2 h3 ⟨rfl, fun i w z => by simp at z⟩ h5
 | bad => rw [hB] at g; exact g.elim
end
def za7 (c : Str) (f : OpN) (ds : List T) (Fs : M (List W)) : M W := fun eta hp => (Fs eta hp).bind fun ws h1 => (reEr eta (f (.r h1.length :: (ws ++ ds.map W.t)) (h1 ++ [some (.ins c [])]))).bind fun w h2 => match w with
 | .t .non => .ok (.r h1.length) h2
 | _ => .bad
section
variable {X : Cx} {Wx : WX} {CX : CXT} {k : Nat} {f C g p1 : Addr} {fd : FuncData} {ps : List Str} {m : OpN} {n : Nat} {c x mn fl : Str} {p pos apos : Pos} {e o : Expr} {es : List Expr} {Fo : M W} {Fs : M (List W)} {dvs : List V} {ds : List Value} {dts : List T} {pl : Sem Bool} {mc : Value}
theorem go_madeX {s : S4} {eta : IS} {σ : L2.St} {x dx : Addr} {ws : List W} {vs : List V} {Q : VK} (R : Rel X.K X.w s) (S : Sl X.K s eta σ) (cn : CN X.K c C) (f1 : RwL X.K s ws vs) (hdt : ∀ s, RwL X.K s (dts.map W.t) dvs) (hl : ∀ ws hp, ws.length ≠ n → m ws hp = .bad) (nx : s.H x = none) (ndx : s.H dx = none) (ne : dx ≠ x)
  (g : Go X.K X.w Wx (Rw X.K) s ((reEr eta Yf8).bind fun w h2 => match w with | .t .non => .ok (.r s.hp.length) h2 | _ => .bad) Q) :
  spX X.K X.w m n Yg5 (upd (upd s.H dx (.own x)) x Ygg) Yc7 (WE Wx σ) := by
 have A0 := (Aft.refl s).setD (D := dx) (o' := .own x) ndx
 have R0 : Rel X.K X.w (s.setD dx (.own x)) := rel_setD R (R.fresh ndx).1 (R.fresh ndx).2
 have nx0 : (s.setD dx (.own x)).H x = none := by show upd s.H dx (.own x) x = none; rw [upd_ne (Ne.symm ne)]; exact nx
 have ok0 : CellOk X.K X.w (s.setD dx (.own x)) x (.ins c []) (some Ygg) := ⟨C, dx, [], rfl, cn, rfl⟩
 have A1 := aft_addL (c := .ins c []) (o := .ins C dx []) R0 nx0
 have R1 := rel_addL R0 nx0 ok0
 have A := A0.trans A1
 refine ⟨(s.setD dx (.own x)).addL x (.ins c []) Ygg, .r s.hp.length :: (ws ++ dts.map W.t), rfl, R1, ?_, ?_, ?_⟩
 ·exact ⟨.ref x, _, rfl, addL_r (s := s.setD dx (.own x)) R0, RwL.append (RwL.aft A R _ _ f1) (hdt _)⟩
 ·by_cases q : (W.r s.hp.length :: (ws ++ dts.map W.t)).length = n
  ·exact q
  ·rw [hl _ _ q] at g; exact g.elim
 ·have g' := Go.aft g A
  show Go X.K X.w (fun cls d _ H' => Wx cls d σ H') (Rw X.K) _ Yf8 _
  cases hq : m (.r s.hp.length :: (ws ++ dts.map W.t)) (s.hp ++ [some (.ins c [])]) with
  | er e1 eta1 h1 =>
   rw [hq] at g'
   exact fun s' σ' cls d q1 q2 q3 q4 q5 => g' s' σ cls d q1 q2 q3 (S.aft (A.trans q2) R) q5
  | bad => rw [hq] at g'; exact g'.elim
  | ok a h =>
   rw [hq] at g'
   intro b s' e1 e2 e3 e4
   simp only [Mir.reEr, Res.bind] at g'
   split at g'
   ·have hb : b = .non := by simpa only [Rw, Rf] using e4
    refine ⟨hb, g' (.ref x) s' e1 e2 e3 ?_⟩
    obtain ⟨ex, pre, _⟩ := e2.pre
    refine ⟨x, ?_, rfl⟩
    rw [pre]
    have h0 : ((s.setD dx (.own x)).addL x (.ins c []) Ygg).rho[s.hp.length]? = some x := by
     obtain ⟨a, q1, q2⟩ := addL_r (K := X.K) (p := x) (c := .ins c []) (o := .ins C dx []) (s := s.setD dx (.own x)) R0
     cases q2
     exact q1
    rw [List.getElem?_append_left (List.getElem?_eq_some_iff.mp h0).1]
    exact h0
   ·exact g'.elim
theorem ie_makeX (M : Mk X.K C f) (cn : CN X.K c C) (Fk : FnG X.prog X.w X.K X.mg X.base CX k f fd ps (spX X.K X.w m n)) (hr : Room (k + 1) X.A) (hgd : X.A.guards = some []) (hg : Gl X x) (hm : X.mg x = some (.ref C)) (hb : Binds X.K fd ps ds) (hd : Vals dvs ds) (hdt : ∀ s, RwL X.K s (dts.map W.t) dvs) (hl : ∀ ws hp, ws.length ≠ n → m ws hp = .bad)
  (hx : ∀ σ, PassesAt CX X σ (WE Wx σ)) (ha : IA X Wx Ya3 Fs)
  (hdb : (x == ("__debug__" : Str)) = false := by decide) (he : starEach Ya3 X.env = (false, eval e X.env) :: starEach es X.env := by rfl) (hpl : (backTo pos Yci).any (·.1) = false := by rfl) : IE X Wx Yam (za7 c m dts Fs) :=
 PE.imp (pe_makeX (E := WE Wx) M Fk hr hgd hg hm hb hd hx ha hdb he hpl) fun σ H Q h =>
  tM.bind1 (R := fun (vs : List V) (H1 : Hp) => ∀ x dx, H1 x = none → H1 dx = none → dx ≠ x → spX X.K X.w m n Yg5 (upd (upd H1 dx (.own x)) x Ygg) Yc7 (WE Wx σ))
   (C := W) (k := fun (ws : List W) (eta : IS) (h1 : IH) => (reEr eta (m (W.r h1.length :: (ws ++ dts.map W.t)) (h1 ++ [some (Cell.ins c [])]))).bind fun w h2 => match w with | .t .non => (Res.ok (W.r h1.length) h2 : Res W) | _ => .bad) h fun s eta ws vs R1 S1 f1 g x dx nx ndx ne => go_madeX R1 S1 cn f1 hdt hl nx ndx ne g
end
end Mir
namespace Mir
open PySem PySem.Spec L2
open PyProof.Rows hiding St
/-- .. which a context that takes any takes -/
theorem takesN {X : Cx} {W : WX} (t : L2.Takes X W) : L2N.Takes X W := fun u s' ⟨a, B, sI, pins, σ, H, cls, d, e, I, nb, up, sky, na, os, ag, w⟩ =>
 t u s' ⟨a, B, sI, pins, σ, H, cls, d, e, I, nb, up, by
  rcases sky with ⟨h1, h2, h3, oe, vs, h4, h5, h6⟩ | h | ⟨h1, h2, h3, h4⟩
  ·exact .inl ⟨h1, h2, h3, oe, vs, h4, h5.zc, h6⟩
  ·exact .inr (.inl (L2H.flyingZ_imp (fun o z => z.zc) h))
  ·exact .inr (.inr ⟨h1, h2, h3, L2H.tracedZ_imp (fun o z => z.zc) h4⟩), na, os, ag, w⟩
theorem pmk_oexN {X : Cx} {CX : CXT} {x : Str} {e : Expr} {es : List Expr} {ta : TA} {p pos : Pos} {C fI : Addr} {k : Nat} {fd : FuncData} {ps : List Str} {sp : Sp} (T : OexC X.K C) (iC : PySem.W.findIn X.K (.ref C) "__init__" = some (some (.ref fI))) (tI : PySem.W.typeIn X.K (.ref fI) = some Yfn)
  (F1 : FnOk X.prog X.w X.K X.mg X.base CX k fI fd ps sp) (hr : Room (k + 1) X.A) (hb : Binds X.K fd ps []) (hx : Passes CX X Yey) (hg : Gl X x) (hm : X.mg x = some (.ref C)) (ha : PA X Ya3 ta)
  (hdb : (x == ("__debug__" : Str)) = false := by decide) (he : starEach Ya3 X.env = (false, eval e X.env) :: starEach es X.env := by rfl) (hpl : (backTo pos Yci).any (·.1) = false := by rfl) :
  L2N.PMk X Yam (tMkO C sp [] ta) := by
 intro pins s σ H Q I h
 obtain ⟨nm, q, N, bs, bm, sn, sub, ab, col, dd, k0, k1, k2, k3, k5, hC, hbm⟩ := T.cls
 refine wpAny_Call_Name_kw (ld_glob I hg hm ?_ hdb)
 refine PySem.W.callWith_K (h₀ := X.base) I.ok.mod.kin T.kC (thn Ye6 fun us s1 ⟨vs, H1, I1, r1, hz, q1⟩ => ⟨I1.kIn, ?_⟩) he hpl
 show wpAny _ _ (call (.ref C) us) _ _ _
 obtain ⟨hp, g, dr, tk, os⟩ := s1
 have hsz : hp.objs.size ≤ hp.objs.size + 1 := Nat.le_succ _
 have hn : H1 Ybd = none := I1.hok.fresh hsz
 have hq := q1 Ybd hn
 rw [List.append_nil] at hq
 have kk : ∀ b o, hp.get? b = some o → ((hp.push (PySem.W.kdv_tup us)).push Ycj).get? b = some o := fun b o e => Heap.get?_push_of_some _ (Heap.get?_push_of_some _ e)
 have hget : ((hp.push (PySem.W.kdv_tup us)).push Ycj).get? Ybd = some Ycj := by heap_get
 have I2 : Inv X pins σ (upd H1 Ybd (exo Ybd C none)) ⟨(hp.push (PySem.W.kdv_tup us)).push Ycj, g, dr, tk, os⟩ :=
  I1.laid (t' := tk) (a := hp.objs.size + 1) (o := exo Ybd C none) (h' := (hp.push (PySem.W.kdv_tup us)).push Ycj) kk hsz (exo_ok hget)
 have r2 : Vals (V.ref Ybd :: vs) (Value.ref Ybd :: us) := .cons rfl r1
 have hl : (Value.ref Ybd :: us ++ []).length = ps.length := by
  have e := r2.length
  rw [F1.len _ _ _ _ hq] at e
  rw [List.append_nil]
  exact e.symm
 have hus : us.length ≤ sizeLine := by
  rw [← Paired.length r1, sizeLine_eq]
  omega
 have b2 := hb _ (Value.ref Ybd :: us) I2.kIn hl
 rw [List.append_nil] at b2
 refine wpAny_call (PySem.HandSPX.call_own F.excBase_ValueError (fun Y => PySem.HandSPX.refsVE_contains Y bm hbm) (I1.kIn _ _ hC) (PySem.W.looks_findIn I1.kIn iC) (fun self => PySem.W.bind_fn I1.kIn self tI) hus
  (codeAny_mono (F1.run _ X.stack _ _ ⟨Value.ref Ybd :: us, []⟩ (Value.ref Ybd :: us) _ _ Yey (hr.make C us []) (I2.env0.make C us []) b2 r2 hq) fun r s' hq' => ?_))
 cases r with
 | error er => exact hx pins σ _ _ er s' I2 hq'
 | ok fl =>
  cases fl with
  | ret u =>
   obtain ⟨v, H2, os2, bare2, un2, hok2, rv, ev, d, fs, ea, ed, hd1, q2⟩ := hq'
   subst ev
   obtain ⟨h2, g2, d2, t2, os'⟩ := s'
   obtain ⟨t0, G, J, kG, ge, hoe, na⟩ := mk_end0 (d2 := d2) (t2 := t2) I1 hsz kk un2 hok2 os2 bare2 ea ed hd1
   exact ⟨rv, hp.objs.size + 1, _, _, ⟨G, g2, d2, t2, os'⟩, _, .ref C, some d, rfl, J, kG, ge, hoe, ⟨rfl, rfl, fun vs hv => by cases hv; rfl⟩, rfl, rfl, na, rfl, bare2, raises_own T.exC T.tyC, q2⟩
  | next => exact False.elim hq'
  | brk => exact False.elim hq'
  | cont => exact False.elim hq'
/-- the mirror's exceptions -/
def ExF (K : PySem.W.Frag) (s : S4) (a : Ex) (b : Value × Option Addr) : Prop := ExR K s a b.1 b.2
abbrev tX (K : PySem.W.Frag) (ω : World) (Wx : WX) (F : M Ex) : L2.St → Hp → XK → Prop := fun σ H Q => tM K ω Wx (ExF K) F σ H (fun b H' => Q b.1 b.2 H')
def mExc (c fld : Str) (Fs : M (List W)) : M Ex := fun eta hp => (Fs eta hp).bind fun ws h => match ws with
 | [w] => .ok ⟨c, [(fld, w)]⟩ h
 | _ => .bad
def mRaise (F : M Ex) : M Fl := fun eta hp => (F eta hp).bind fun e h => .er e eta h
section
variable {X : Cx} {Wx : WX} {C : Addr} {c fld : Str} {Fs : M (List W)} {F : M Ex} {e : Expr} {pos : Pos}
theorem tmk_of (cn : CN X.K c C) : ∀ σ H Q, tX X.K X.w Wx (mExc c fld Fs) σ H Q → tMkO C (spI C fld) [] (tA X.K X.w Wx Fs) σ H Q := fun σ H Q h => by
 refine tM.bind1 (R := fun (vs : List V) (H1 : Hp) => vs.length ≤ 1000 ∧ ∀ a, H1 a = none → spI C fld (.ref a :: (vs ++ [])) (upd H1 a (exo a C none)) (fun v H2 => v = .non ∧ ∃ (d : Addr) (fs : List Yc2), H2 a = some (exo a C (some d)) ∧ H2 d = some (exd d fs) ∧ H1 d = none ∧ Q (.ref C) (some d) (upd (del H2 a) d (.xd fs))) Yey)
  (C := Ex) (k := fun (ws : List W) (_ : IS) (h : IH) => match ws with | [w] => (Res.ok (⟨c, [(fld, w)]⟩ : Ex) h : Res Ex) | _ => .bad) h fun s eta ws vs R1 S1 f1 g => ?_
 split at g
 ·rename_i w
  obtain ⟨v, r, e1, f2, e2⟩ := f1
  subst e1
  cases (show r = [] from e2)
  refine ⟨by simp, fun a na => ⟨a, v, rfl, upd_same, fun dx hdx hne => ⟨rfl, dx, [(fld, v)], upd_same, ?_, ?_, ?_⟩⟩⟩
  ·rw [upd_ne hne, upd_same]
  ·rw [upd_ne hne] at hdx
   exact hdx
  ·rw [upd_ne hne] at hdx
   have eH : upd (del (upd (upd (upd s.H a (exo a C none)) dx (exd dx [(fld, v)])) a (exo a C (some dx))) a) dx (.xd [(fld, v)]) = upd s.H dx (.xd [(fld, v)]) := by
    funext b
    by_cases h1 : b = dx
    ·rw [h1, upd_same, upd_same]
    ·rw [upd_ne h1, upd_ne h1]
     by_cases h2 : b = a
     ·rw [h2, del_same, na]
     ·rw [del_ne h2, upd_ne h2, upd_ne h1, upd_ne h2]
   rw [eH]
   have A := (Aft.refl s).setD (D := dx) (o' := .xd [(fld, v)]) hdx
   have R' : Rel X.K X.w (s.setD dx (.xd [(fld, v)])) := rel_setD R1 (R1.fresh hdx).1 (R1.fresh hdx).2
   exact g (.ref C, some dx) (s.setD dx (.xd [(fld, v)])) rfl A R' ⟨C, rfl, cn, .inr ⟨dx, _, rfl, upd_same, v, [], rfl, f2.aft A R1, rfl⟩⟩
 ·exact g.elim
/-- raise C(e) -/
theorem st_raise (hc : X.calm = true) (tk : L2N.Takes X Wx) (he : L2N.PMk X e (tX X.K X.w Wx F)) : ISt X Wx (.Raise (some e) none pos) (mRaise F) := PS.imp (L2N.ps_raise hc tk he) fun D σ H h => by
 obtain ⟨s, eta, e1, R1, S1, g⟩ := h
 refine ⟨s, eta, e1, R1, S1, Go.bind g fun a b s' A R f _ g' => ?_⟩
 exact g' s' σ b.1 b.2 rfl (Aft.refl s') R (S1.aft A R1) f
end
end Mir
namespace Mir
open PySem PySem.Spec L2
open PyProof.Rows hiding St
open HotX (HotAt)
end Mir
namespace Mir
open PySem PySem.Spec L2
open PyProof.Rows hiding St
section
variable {X : Cx} {Wx : WX} {C fI : Addr} {c fld x : Str} {fd : FuncData} {ps : List Str} {e : Expr} {es : List Expr} {Fs : M (List W)} {p pos : Pos} {CX : CXT}
theorem xc_cold (T : OexC X.K C) (iC : PySem.W.findIn X.K (.ref C) "__init__" = some (some (.ref fI))) (tI : PySem.W.typeIn X.K (.ref fI) = some Yfn) (cn : CN X.K c C) (F1 : FnOk X.prog X.w X.K X.mg X.base Yb7 1 fI fd ps (spI C fld)) (hr : Room 2 X.A) (hb : Binds X.K fd ps []) (hg : Gl X x) (hm : X.mg x = some (.ref C)) (ha : IA X Wx Ya3 Fs)
  (hdb : (x == ("__debug__" : Str)) = false := by decide) (he : starEach Ya3 X.env = (false, eval e X.env) :: starEach es X.env := by rfl) (hpl : (backTo pos Yci).any (·.1) = false := by rfl) : L2N.PMk X Yam (tX X.K X.w Wx (mExc c fld Fs)) :=
 fun pins s σ H Q I h => pmk_oexN T iC tI F1 hr hb passL hg hm ha hdb he hpl pins s σ H Q I (tmk_of cn σ H Q h)
end
end Mir
namespace Mir
open PySem PySem.Spec L2
open PyProof.Rows hiding St
/-- a class: a built-in type or an own class by name -/
abbrev CT := String ⊕ Str
def tyC (hp : IH) : W → Option CT
 | .t .non => some (.inl "NoneType") | .t (.bl _) => some (.inl "bool") | .t (.int _) => some (.inl "int") | .t (.str _) => some (.inl "str")
 | .t (.tup _) => some (.inl "tuple") | .t (.pr _) => some (.inl "tuple") | .t (.lst _) => some (.inl "list") | .t (.scr _) => some (.inl "list")
 | .t (.dic _ _) => some (.inl "dict") | .t (.ins c _ _) => some (.inr c)
 | .t (.ty _) => none | .t (.cls _) => none | .t (.dit _ _) => none | .t (.exc _ _ _) => none
 | .r i => match hp[i]? with
  | some (some (.lst _)) => some (.inl "list")
  | some (some (.dic _)) => some (.inl "dict")
  | some (some (.ins c _)) => some (.inr c)
  | _ => none
def clC : T → Option CT
 | .ty n => some (.inl n) | .cls c => some (.inr c) | _ => none
def clCs : List T → Option (List CT)
 | [] => some []
 | x :: r => match clC x, clCs r with
  | some a, some b => some (a :: b)
  | _, _ => none
/-- the value of a class -/
def CVal (K : PySem.W.Frag) : CT → Value → Prop
 | .inl n, v => v = .type n
 | .inr c, v => ∃ C, v = .ref C ∧ CN K c C
/-- what isinstance asks of an own class -/
structure InsC (K : PySem.W.Frag) (C : Addr) : Prop where
 cl : Cls K C
 ha : PySem.W.findIn K (.ref C) "__class__" = some (some Ybi)
 hn : PySem.W.specialIn K Ybi "__get__" = some (some (.builtin "getset_descriptor.__get__"))
 htk : PySem.W.takesIn K Ybi = some true
 hm : PySem.W.mroIn K C Yek = some true
structure IsTab (K : PySem.W.Frag) (tab : CT → CT → Option Bool) : Prop where
 ok : ∀ t c b tv cv, tab t c = some b → CVal K t tv → CVal K c cv → PySem.W.kitOne K tv cv = some b
 ins : ∀ c d b C, tab (.inr c) d = some b → CN K c C → InsC K C
def anyC (tab : CT → CT → Option Bool) (t : CT) : List CT → Option Bool
 | [] => some false
 | c :: r => match tab t c with
  | some true => some true
  | some false => anyC tab t r
  | none => none
def oIsi (tab : CT → CT → Option Bool) : OpN := fun ws hp => match ws with
 | [x, .t (.tup cs)] => (match tyC hp x, clCs cs with
  | some t, some ds => (match ds with
   | [] => .bad
   | _ :: _ => (match anyC tab t ds with
    | some b => .ok Ye7 hp
    | none => .bad))
  | _, _ => .bad)
 | [x, .t c] => (match tyC hp x, clC c with
  | some t, some d => (match tab t d with
   | some b => .ok Ye7 hp
   | none => .bad)
  | _, _ => .bad)
 | _ => .bad
section
variable {K : PySem.W.Frag} {ω : World} {s : S4}
/-- the type of such a value; own classes by the table -/
theorem ty_at (R : Rel K ω s) {w : W} {v : V} {t : CT} (h : tyC s.hp w = some t) (r : Rw K s w v) (hI : ∀ c C, t = .inr c → CN K c C → InsC K C) : ∃ tv, CVal K t tv ∧ TyX K s.H v tv := by
 cases w with
 | t x =>
  cases x with
  | non => simp only [tyC, Option.some.injEq] at h; subst h; simp only [Rw, Rf] at r; subst r; exact ⟨_, rfl, .base .non⟩
  | bl b => simp only [tyC, Option.some.injEq] at h; subst h; simp only [Rw, Rf] at r; subst r; exact ⟨_, rfl, .base (.bl b)⟩
  | int b => simp only [tyC, Option.some.injEq] at h; subst h; simp only [Rw, Rf] at r; subst r; exact ⟨_, rfl, .base (.int b)⟩
  | str b => simp only [tyC, Option.some.injEq] at h; subst h; simp only [Rw, Rf] at r; subst r; exact ⟨_, rfl, .base (.str b)⟩
  | tup xs =>
   simp only [tyC, Option.some.injEq] at h; subst h; simp only [Rw, Rf] at r
   obtain ⟨a, vs, e, f, _⟩ := r
   subst e
   rcases f with ⟨_, o, h, _⟩ | ⟨o, its, n, h1, h2, _⟩
   ·exact ⟨_, rfl, .fTuple h⟩
   ·exact ⟨_, rfl, .kTuple h1 h2⟩
  | pr xs =>
   simp only [tyC, Option.some.injEq] at h; subst h; simp only [Rw, Rf] at r
   obtain ⟨a, vs, e, ⟨_, f⟩, _⟩ := r
   subst e
   exact ⟨_, rfl, .base (.tup f)⟩
  | lst xs =>
   simp only [tyC, Option.some.injEq] at h; subst h; simp only [Rw, Rf] at r
   obtain ⟨a, vs, e, ⟨_, f⟩, _⟩ := r
   subst e
   exact ⟨_, rfl, .base (.lst f)⟩
  | scr xs =>
   simp only [tyC, Option.some.injEq] at h; subst h; simp only [Rw, Rf] at r
   obtain ⟨a, vs, e, f, _⟩ := r
   subst e
   rcases f with ⟨_, o, h⟩ | ⟨o, its, n, h1, h2, _⟩
   ·exact ⟨_, rfl, .base (.frz h)⟩
   ·exact ⟨_, rfl, .kList h1 h2⟩
  | dic ks xs =>
   simp only [tyC, Option.some.injEq] at h; subst h; simp only [Rw, Rf] at r
   obtain ⟨a, vs, e, ⟨_, o, f⟩, _⟩ := r
   subst e
   exact ⟨_, rfl, .fDict f⟩
  | ins c ns xs =>
   simp only [tyC, Option.some.injEq] at h; subst h; simp only [Rw, Rf] at r
   obtain ⟨a, C, vs, e, cn, ⟨_, dx, f⟩, _⟩ := r
   subst e
   have q := hI c C rfl cn
   exact ⟨_, ⟨C, rfl, cn⟩, .base (.ins f q.cl q.ha q.hn q.htk q.hm)⟩
  | ty n => simp [tyC] at h
  | cls c => simp [tyC] at h
  | dit _ _ => simp [tyC] at h
  | exc _ _ _ => simp [tyC] at h
 | r i =>
  obtain ⟨a, e1, e2⟩ := r
  subst e2
  simp only [tyC] at h
  split at h
  ·rename_i xs q
   obtain ⟨vs, h1, _⟩ := R.cell i _ a q e1
   cases h
   exact ⟨_, rfl, .base (.lst h1)⟩
  ·rename_i xs q
   obtain ⟨vs, h1, _⟩ := R.cell i _ a q e1
   cases h
   exact ⟨_, rfl, .base (.dK h1)⟩
  ·rename_i c fs q
   obtain ⟨C, dx, vs, h1, cn, _⟩ := R.cell i _ a q e1
   cases h
   have q := hI c C rfl cn
   exact ⟨_, ⟨C, rfl, cn⟩, .base (.ins h1 q.cl q.ha q.hn q.htk q.hm)⟩
  ·cases h
theorem cl_at {x : T} {v : V} {d : CT} (h : clC x = some d) (r : Rf K s.fz s.H x v) : ∃ cv, CVal K d cv ∧ ClsV v cv := by
 cases x with
 | ty n => simp only [clC, Option.some.injEq] at h; subst h; simp only [Rf] at r; subst r; exact ⟨_, rfl, .ty n⟩
 | cls c => simp only [clC, Option.some.injEq] at h; subst h; simp only [Rf] at r; obtain ⟨C, e, cn⟩ := r; subst e; exact ⟨_, ⟨C, rfl, cn⟩, .own C⟩
 | _ => simp [clC] at h
end
/-- isinstance(x, (c, ..)), the tuple frozen -/
def rIsiF (K : PySem.W.Frag) : List V → Hp → VK → Prop := fun xs H Q => ∃ (x : V) (tp : Addr) (o : Obj) (cs : List V) (t : Value) (us : List Value) (b : Bool), xs = [x, .ref tp] ∧ H tp = some (.frz o (.tup cs)) ∧ Paired ClsV cs us ∧ TyX K H x t ∧ PySem.W.kitAny K t us = some b ∧ Q (.bl b) H
theorem call_isiF {X : Cx} : CallR X (.builtin "isinstance") (rIsiF X.K) := by
 intro pins s σ H xs us Q I r h
 obtain ⟨x, tp, o, cs, t, ws, b, rfl, hT, k, ty, e, q⟩ := h
 obtain ⟨u1, u2, rfl, r1, r2⟩ := vals2 r
 cases (show u2 = Value.ref tp from r2)
 obtain ⟨P, Z, p, hx⟩ := kit_of I r1 ty
 obtain ⟨_, _, its, rv, o1, h1, h2, n, h3⟩ := (show ObjOk X.prog X.w H s.heap tp (.frz o (.tup cs)) from I.hok tp _ hT)
 have e3 := ClsV.all k rv
 subst e3
 obtain ⟨oc, od, dt, sl⟩ := o1
 simp only at h2 h3
 subst h2 h3
 exact PySem.W.kia_tup Z I.kIn p h1 e hx fun tk => ⟨.bl b, H, I.tok tk, rfl, q⟩
def rIsiA (K : PySem.W.Frag) : List V → Hp → VK → Prop := fun xs H Q => rIsi K xs H Q ∨ (rIsiF K xs H Q ∨ rIsiK K xs H Q)
theorem zdv {X : Cx} : CallR X (.builtin "isinstance") (rIsiA X.K) := CallR.or call_isi (CallR.or call_isiF call_isiK)
section
variable {K : PySem.W.Frag} {ω : World} {s : S4} {Wx : WX} {tab : CT → CT → Option Bool}
theorem cls_at : ∀ {xs : List T} {vs : List V} {ds : List CT}, clCs xs = some ds → RfL K s.fz s.H xs vs → ∃ us : List Value, Paired ClsV vs us ∧ Paired (CVal K) ds us
 | [], vs, ds, h, r => by
  simp only [RfL] at r
  simp only [clCs, Option.some.injEq] at h
  subst r h
  exact ⟨[], .nil, .nil⟩
 | x :: xs, vs, ds, h, r => by
  simp only [RfL] at r
  obtain ⟨v, t, e, a, b⟩ := r
  subst e
  simp only [clCs] at h
  split at h
  ·rename_i d ds' h1 h2
   cases h
   obtain ⟨cv, c1, c2⟩ := cl_at h1 a
   obtain ⟨us, p1, p2⟩ := cls_at h2 b
   exact ⟨cv :: us, .cons c2 p1, .cons c1 p2⟩
  ·cases h
theorem any_at (h : IsTab K tab) {t : CT} {tv : Value} (ht : CVal K t tv) : ∀ {ds : List CT} {us : List Value} {b : Bool}, anyC tab t ds = some b → Paired (CVal K) ds us → PySem.W.kitAny K tv us = some b
 | [], us, b, e, p => by
  cases p
  simp only [anyC, Option.some.injEq] at e
  subst e
  rfl
 | c :: r, us, b, e, p => by
  cases p with
  | cons q p =>
   simp only [anyC] at e
   unfold PySem.W.kitAny
   split at e
   ·rename_i h1
    rw [h.ok _ _ _ _ _ h1 ht q]
    exact e
   ·rename_i h1
    rw [h.ok _ _ _ _ _ h1 ht q]
    exact any_at h ht e p
   ·cases e
theorem any_some {t : CT} : ∀ {d : CT} {ds : List CT} {b : Bool}, anyC tab t (d :: ds) = some b → ∃ b', tab t d = some b'
 | d, ds, b, e => by
  simp only [anyC] at e
  split at e
  ·exact ⟨_, by assumption⟩
  ·exact ⟨_, by assumption⟩
  ·cases e
theorem ok_isi (ht : IsTab K tab) : OpNOk K ω Wx (oIsi tab) (rIsiA K) := by
 intro s ws xs Q R r go
 unfold oIsi at go
 split at go
 ·rename_i x cs
  obtain ⟨v, c, e, rv, rc⟩ := RwL.two r
  subst e
  split at go
  ·rename_i t ds h1 h2
   split at go
   ·exact go.elim
   ·rename_i d ds
    split at go
    ·rename_i b hb
     have q := go (.bl b) s rfl Yh R (by simp only [Rw, Rf])
     obtain ⟨b', hb'⟩ := any_some hb
     obtain ⟨tv, c1, ty⟩ := ty_at R h1 rv (fun c C e cn => ht.ins c d b' C (by rw [← e]; exact hb') cn)
     simp only [Rw, Rf] at rc
     obtain ⟨a, vs, e, f, l⟩ := rc
     subst e
     obtain ⟨us, p1, p2⟩ := cls_at h2 l
     have ka := any_at ht c1 hb p2
     rcases f with ⟨_, o, hH, _⟩ | ⟨o, its, n, k1, k2, _, k3, _, k4⟩
     ·exact .inr (.inl ⟨v, a, o, vs, tv, us, b, rfl, hH, p1, ty, ka, q⟩)
     ·refine .inr (.inr ⟨v, a, o.dict, us, n, o.slots, tv, b, rfl, ?_, ty, ka, q⟩)
      have e3 := ClsV.all p1 k4
      obtain ⟨oc, od, dt, sl⟩ := o
      simp only at k2 k3
      subst k2 k3
      rw [k1, ← e3]
    ·exact go.elim
  ·exact go.elim
 ·rename_i x c hne
  obtain ⟨v, c', e, rv, rc⟩ := RwL.two r
  subst e
  split at go
  ·rename_i t d h1 h2
   split at go
   ·rename_i b hb
    have q := go (.bl b) s rfl Yh R (by simp only [Rw, Rf])
    obtain ⟨tv, c1, ty⟩ := ty_at R h1 rv (fun c C e cn => ht.ins c d b C (by rw [← e]; exact hb) cn)
    obtain ⟨cv, c2, c3⟩ := cl_at h2 (by simpa only [Rw] using rc)
    exact .inl ⟨v, c', tv, cv, b, rfl, c3, ty, ht.ok _ _ _ _ _ hb c1 c2, q⟩
   ·exact go.elim
  ·exact go.elim
 ·exact go.elim
end
end Mir
namespace Mir
open PySem PySem.Spec L2
open PyProof.Rows hiding St
def mSM (f : OpM) (Fo Fe : M W) : M W := fun eta hp => (Fo eta hp).bind fun w h1 => match w with
 | .t (.str a) => (Fe eta h1).bind fun u h2 => f Yf2 [u] h2
 | _ => .bad
def zb3 : List W → Option (List Str)
 | [] => some []
 | .t (.str x) :: r => (zb3 r).map (x :: ·)
 | _ => none
def oSplit : OpM := fun w ws hp => match w, ws with
 | .t (.str a), [.t (.str b)] => if (b.length == 0) = false ∧ a.length + 2 ≤ 16777216 then .ok (.t (.lst ((Txt.split a b).map T.str))) hp else .bad
 | _, _ => .bad
def oJoin : OpM := fun w ws hp => match w, ws with
 | .t (.str a), [u] => (match (items hp u).bind zb3 with
  | some ys => if (ys.map (·.length)).sum + ys.length * a.length ≤ 16777216 then .ok (.t (.str (Txt.join a ys))) hp else .bad
  | none => .bad)
 | _, _ => .bad
section
variable {K : PySem.W.Frag} {ω : World} {s : S4} {Wx : WX}
theorem strs_rw : ∀ {ws : List W} {vs : List V} {ys : List Str}, zb3 ws = some ys → RwL K s ws vs → vs = ys.map V.str
 | [], vs, ys, h, r => by
  simp only [zb3, Option.some.injEq] at h
  subst h
  exact r
 | .t (.str x) :: r, vs, ys, h, q => by
  simp only [zb3, Option.map_eq_some_iff] at h
  obtain ⟨zs, h1, h2⟩ := h
  subst h2
  obtain ⟨v, t, e, a, b⟩ := q
  simp only [Rw, Rf] at a
  subst a
  rw [e, strs_rw h1 b]
  rfl
 | .t .non :: _, _, _, h, _ => by simp [zb3] at h
 | .t (.bl _) :: _, _, _, h, _ => by simp [zb3] at h
 | .t (.int _) :: _, _, _, h, _ => by simp [zb3] at h
 | .t (.ty _) :: _, _, _, h, _ => by simp [zb3] at h
 | .t (.tup _) :: _, _, _, h, _ => by simp [zb3] at h
 | .t (.lst _) :: _, _, _, h, _ => by simp [zb3] at h
 | .t (.scr _) :: _, _, _, h, _ => by simp [zb3] at h
 | .t (.pr _) :: _, _, _, h, _ => by simp [zb3] at h
 | .t (.dic _ _) :: _, _, _, h, _ => by simp [zb3] at h
 | .t (.ins _ _ _) :: _, _, _, h, _ => by simp [zb3] at h
 | .t (.cls _) :: _, _, _, h, _ => by simp [zb3] at h
 | .t (.dit _ _) :: _, _, _, h, _ => by simp [zb3] at h
 | .t (.exc _ _ _) :: _, _, _, h, _ => by simp [zb3] at h
 | .r _ :: _, _, _, h, _ => by simp [zb3] at h
theorem ok_split : OpMOk K ω Wx oSplit (fun x xs H Q => ∃ a b, x = .str a ∧ xs = [.str b] ∧ (b.length == 0) = false ∧ a.length + 2 ≤ sizeLine ∧ rNewStrs (Txt.split a b) H Q) := by
 intro s w ws x xs Q R r rs go
 unfold oSplit at go
 split at go
 ·rename_i a b
  split at go
  ·rename_i hh
   simp only [Rw, Rf] at r
   obtain ⟨v, e, rv⟩ := RwL.one rs
   simp only [Rw, Rf] at rv
   subst r rv e
   exact ⟨a, b, rfl, rfl, hh.1, by rw [sizeLine_eq]; exact hh.2, fun p hp => go (.ref p) (s.addF p (.lst ((Txt.split a b).map V.str))) rfl (za9 R hp) (zb2 R hp) (zds R hp (strs_rf _))⟩
  ·exact go.elim
 ·exact go.elim
theorem ok_join : OpMOk K ω Wx oJoin (fun x xs H Q => ∃ a p, ∃ ys : List Str, x = .str a ∧ xs = [.ref p] ∧ (SqL K H p (ys.map V.str) ∨ SqT K H p (ys.map V.str)) ∧ (ys.map (·.length)).sum + ys.length * a.length ≤ 16777216 ∧ Q (.str (Txt.join a ys)) H) := by
 intro s w ws x xs Q R r rs go
 unfold oJoin at go
 split at go
 ·rename_i a u
  split at go
  ·rename_i ys hy
   split at go
   ·rename_i hz
    obtain ⟨us, h1, h2⟩ := Option.bind_eq_some_iff.mp hy
    simp only [Rw, Rf] at r
    obtain ⟨v, e, rv⟩ := RwL.one rs
    subst r e
    obtain ⟨p, zs, e, q, l⟩ := items_at R h1 rv
    subst e
    have ez := strs_rw h2 l
    subst ez
    exact ⟨a, p, ys, rfl, rfl, q, hz, go _ s rfl Yh R Yg⟩
   ·exact go.elim
  ·exact go.elim
 ·exact go.elim
end
section
variable {X : Cx} {Wx : WX} {o e : Expr} {Fo Fe : M W} {name : Str} {apos cpos : Pos} {id : String} {f : OpM} {r : V → List V → Hp → VK → Prop}
theorem ie_sm (slot : Slot "str" name id) (hty : typeOf (.builtin id) = pure (.type "method_descriptor")) (hm : MtR X id r) (hf : OpMOk X.K X.w Wx f r) (ho : IE X Wx o Fo) (he : IE X Wx e Fe)
  (hs : starEach [e] X.env = [(false, eval e X.env)] := by rfl) (hbase : attributeBase o name X.env Yes = eval o X.env := by rfl) (hline : (apos.endLine == cpos.line) = true := by rfl) :
  IE X Wx (.Call (.Attribute o name apos) [e] [] cpos) (mSM f Fo Fe) :=
 PE.imp (pe_m1 slot hty hm ho he hs hbase hline) fun σ H Q h =>
  tM.bind1 (R := fun (x : V) (H1 : Hp) => (∃ a, x = .str a) ∧ tE X.K X.w Wx Fe σ H1 fun y H2 => r x [y] H2 Q) (k := fun (w : W) eta h1 => match w with | .t (.str a) => ((Fe eta h1).bind fun u h2 => f Yf2 [u] h2 : Res W) | _ => .bad) h fun s eta a b R1 S1 f1 g => by
   split at g
   ·rename_i a
    refine ⟨⟨a, by simpa only [Rw, Rf] using f1⟩, s, eta, rfl, R1, S1, Go.bind g fun u y s' A' R' r' _ g' => hf s' Yf2 [u] b [y] Q R' (f1.aft A' R1) ⟨y, [], rfl, r', rfl⟩ g'⟩
   ·exact g.elim
theorem ie_split (ho : IE X Wx o Fo) (he : IE X Wx e Fe) (hs : starEach [e] X.env = [(false, eval e X.env)] := by rfl) (hbase : attributeBase o "split" X.env Yes = eval o X.env := by rfl) (hline : (apos.endLine == cpos.line) = true := by rfl) :
  IE X Wx (.Call (.Attribute o "split" apos) [e] [] cpos) (mSM oSplit Fo Fe) := ie_sm F.slot_str_split F.type_str_split mt_split ok_split ho he hs hbase hline
theorem ie_join (ho : IE X Wx o Fo) (he : IE X Wx e Fe) (hs : starEach [e] X.env = [(false, eval e X.env)] := by rfl) (hbase : attributeBase o "join" X.env Yes = eval o X.env := by rfl) (hline : (apos.endLine == cpos.line) = true := by rfl) :
  IE X Wx (.Call (.Attribute o "join" apos) [e] [] cpos) (mSM oJoin Fo Fe) := ie_sm F.slot_str_join F.type_str_join mt_join ok_join ho he hs hbase hline
end
def inS (neg : Bool) : Op2 := fun a b hp => match a, b with
 | .t (.str i), .t (.str j) => (match i.cps.toList with
  | [c] => .ok (.t (.bl (if neg then !decide (c ∈ j.cps.toList) else decide (c ∈ j.cps.toList)))) hp
  | _ => .bad)
 | _, _ => .bad
section
variable {X : Cx} {Wx : WX} {a b : Expr} {Fa Fb : M W} {pos : Pos}
theorem ok_inS {K : PySem.W.Frag} {ω : World} : zc6 K ω Wx (inS false) (fun x y H Q => ∃ (c : Nat) (z : Str), x = .str ⟨#[c]⟩ ∧ y = .str z ∧ Q (.bl (decide (c ∈ z.cps.toList))) H) := by
 intro s a b x y Q R ra rb go
 unfold inS at go
 split at go
 ·rename_i i j
  split at go
  ·rename_i c hc
   simp only [Rw, Rf] at ra rb
   subst ra rb
   have ei : i = ⟨#[c]⟩ := Str.ext' (Array.toList_inj.mp (by rw [hc]))
   subst ei
   exact ⟨c, j, rfl, rfl, go _ s rfl Yh R Yg⟩
  ·exact go.elim
 ·exact go.elim
theorem ie_inS (ha : IE X Wx a Fa) (hb : IE X Wx b Fb) (hm : behindInMarks .In b = false := by rfl) : IE X Wx (.Compare a [.In] [b] pos) (mBin (inS false) Fa Fb) := ie_cmp op_in_sign ok_inS ha hb hm
end
/-- a text or a number, as it is shown -/
def oFmt : Op1 := fun w hp => match w with
 | .t (.str y) => if y.length ≤ 16777216 then .ok Yf0 hp else .bad
 | .t (.int i) => if i.natAbs.log2 < 1920 then .ok (.t (.str (toString i))) hp else .bad
 | _ => .bad
def mJNil : Str → M Str := fun acc _ hp => .ok acc hp
def zcy (Fa : M W) (J : Str → M Str) : Str → M Str := fun acc eta hp => (Fa eta hp).bind fun a h1 => match a with
 | .t (.str y) => if (acc ++ y).length ≤ 16777216 then J (acc ++ y) eta h1 else .bad
 | _ => .bad
def mJoined (J : Str → M Str) : M W := fun eta hp => (J Str.empty eta hp).bind fun out h => .ok (.t (.str out)) h
def IJ (X : Cx) (Wx : WX) (es : List Expr) (J : Str → M Str) : Prop := ∃ ts, PJ X es ts ∧ ∀ acc σ H (Q : Str → Hp → Prop), tM X.K X.w Wx (fun _ (a b : Str) => a = b) (J acc) σ H Q → tJs ts acc σ H Q
section
variable {X : Cx} {Wx : WX} {e v1 v2 : Expr} {es rest : List Expr} {F : M W} {J : Str → M Str} {pos : Pos}
theorem ok_fmt {K : PySem.W.Frag} {ω : World} {s : S4} {w : W} {v : V} {Q : VK} (R : Rel K ω s) (r : Rw K s w v) (g : Go K ω Wx (Rw K) s (oFmt w s.hp) Q) : (∃ y : Str, v = .str y ∧ y.length ≤ sizeLine ∧ Q (.str y) s.H) ∨ ∃ i : Int, v = .int i ∧ i.natAbs.log2 < 1920 ∧ Q (.str (toString i)) s.H := by
 unfold oFmt at g
 split at g
 ·rename_i y
  split at g
  ·rename_i hz
   exact .inl ⟨y, by simpa only [Rw, Rf] using r, by rw [sizeLine_eq]; exact hz, g _ s rfl Yh R Yg⟩
  ·exact g.elim
 ·rename_i i
  split at g
  ·rename_i hz
   exact .inr ⟨i, by simpa only [Rw, Rf] using r, hz, g _ s rfl Yh R Yg⟩
  ·exact g.elim
 ·exact g.elim
theorem ie_fmt (he : IE X Wx e F) : IE X Wx (.FormattedValue e (-1) none pos) (mUn oFmt F) := PE.imp (pe_fmt he) fun σ H Q h =>
 tM.bind1 (R := fun (x : V) (H1 : Hp) => (∃ y : Str, x = .str y ∧ y.length ≤ sizeLine ∧ Q (.str y) H1) ∨ ∃ i : Int, x = .int i ∧ i.natAbs.log2 < 1920 ∧ Q (.str (toString i)) H1) (k := fun (a : W) _ hp => oFmt a hp) h fun s eta a b R1 _ f1 g => ok_fmt R1 f1 g
theorem ij_nil : IJ X Wx [] mJNil := ⟨[], .nil, fun acc σ H Q h => by
 obtain ⟨s, eta, e1, R1, S1, g⟩ := h
 subst e1
 exact g acc s rfl Yh R1 rfl⟩
theorem zcd (h : IE X Wx e F) (r : IJ X Wx es J) : IJ X Wx Ya3 (zcy F J) := by
 obtain ⟨ts, p, k⟩ := r
 refine ⟨_ :: ts, .cons h p, fun acc σ H Q h => ?_⟩
 refine tM.bind1 (C := Str) (R := fun (x : V) (H1 : Hp) => ∃ y : Str, x = .str y ∧ (acc ++ y).length ≤ sizeLine ∧ tJs ts (acc ++ y) σ H1 Q) (k := fun (a : W) (eta : IS) (h1 : IH) => match a with | .t (.str y) => (if (acc ++ y).length ≤ 16777216 then J (acc ++ y) eta h1 else .bad : Res Str) | _ => .bad) h fun s eta a b R1 S1 f1 g => ?_
 split at g
 ·rename_i y
  split at g
  ·rename_i hz
   exact ⟨y, by simpa only [Rw, Rf] using f1, by rw [sizeLine_eq]; exact hz, k _ _ _ _ ⟨s, eta, rfl, R1, S1, g⟩⟩
  ·exact g.elim
 ·exact g.elim
theorem ie_joined (h : IJ X Wx (v1 :: v2 :: rest) J) : IE X Wx (.JoinedStr (v1 :: v2 :: rest) pos) (mJoined J) := by
 obtain ⟨ts, p, k⟩ := h
 exact PE.imp (pe_joined p) fun σ H Q h => k _ _ _ _ (tM.bind1 (C := W) (Fam := fun _ (a b : Str) => a = b) (R := fun (out : Str) (H1 : Hp) => Q (.str out) H1) (k := fun (out : Str) (_ : IS) (h : IH) => (.ok (.t (.str out)) h : Res W)) h fun s eta a b R1 S1 f1 g => by
  subst f1
  exact g _ s rfl Yh R1 Yg)
end
end Mir
namespace Mir
open PySem PySem.Spec L2
open PyProof.Rows hiding St
section
variable {prog : Program} {w : World} {A : Around} {E : Value → Shared → Prop} {s : Shared}
/-- the loop: Ph i holds of the heap behind i elements -/
theorem addAll {R : Result → Shared → Prop} {I S l : Addr} {items : Array Value} (hh : A.in1.handled = none) (nl : l ≠ I) (nS : S ≠ I) (nSl : S ≠ l) (Ph : Nat → Heap → Prop)
  (stay : ∀ i h h', Ph i h → (∀ b o, b ≠ I → h.get? b = some o → h'.get? b = some o) → Ph i h')
  (step : ∀ (i : Nat) (v : Value) (s1 : Shared) (Q : Bool → Shared → Prop) (E1 : Value → Shared → Prop), items[i]? = some v → Ph i s1.heap → (∀ b h' tk, Heap.SameBut S s1.heap h' → s1.toks ≤ tk → Ph (i + 1) h' → Q b { s1 with heap := h', toks := tk }) → wpAny Y9 A.in1 (setAdd S v) Q E1 s1) :
  ∀ (k i : Nat) (s0 : Shared), items.size - i = k → i ≤ items.size → (s0.heap.IsListIter I l i ∧ s0.heap.IsList l items) → Ph i s0.heap →
   (∀ s' : Shared, Moved [S, I] (fun a b => b = a) s0 s' → Ph items.size s'.heap → R (.ok (.ret .none)) s') →
   codeAny Y9 A (.builtin "set.update.loop" ⟨[.ref S, .ref I], []⟩) R s0 := by
 have W := (Walks.list (prog := prog) (w := w) hh I l nl items).toS
 have wide : ∀ {a b : Shared}, Moved [I] (fun x y => y = x) a b → Moved [S, I] (fun x y => y = x) a b := fun m => ⟨fun b o hb q => m.heap b o (fun z => hb (List.mem_cons_of_mem _ z)) q, m.gens, m.drawn, m.os, m.toks⟩
 intro k
 induction k with
 | zero =>
  intro i s0 hk hi st ph hR
  obtain rfl : i = items.size := by omega
  refine codeAny_builtin F.entry_set_update_loop ?_
  rw [Around.under_plainId F.plain_set_update_loop _]
  refine wpAny_bind (W.done s0 _ _ st fun s' hm => wpAny_pure (hR s' (wide hm) (stay _ _ _ ph fun b o hb q => hm.heap b o (by simpa using hb) q)))
 | succ k ih =>
  intro i s0 hk hi st ph hR
  have hlt : i < items.size := by omega
  refine codeAny_builtin F.entry_set_update_loop ?_
  rw [Around.under_plainId F.plain_set_update_loop _]
  refine wpAny_bind (W.item i s0 _ _ hlt st fun v s1 hv st1 hm => ?_)
  have ph1 : Ph i s1.heap := stay _ _ _ ph fun b o hb q => hm.heap b o (by simpa using hb) q
  refine wpAny_bind (wpAny_holding (step i v s1 _ _ hv ph1 fun b h' tk sb ht ph2 => ?_))
  have kp : ∀ b o, b ≠ S → s1.heap.get? b = some o → h'.get? b = some o := fun b o hb q => (sb.2 b hb).trans q
  refine wpAny_pure ⟨plainId_quiet F.plain_set_update_loop _, ih (i + 1) _ Yc hlt (W.frame _ s1 _ _ st1 ht fun b hb o q => kp b o (fun z => ?_) q) ph2 fun s2 hm2 ph3 => hR s2 ⟨fun b o hb q => ?_, ?_, ?_, ?_, ?_⟩ ph3⟩
  ·subst z
   simp only [List.mem_cons, List.not_mem_nil, or_false] at hb
   rcases hb with z | z
   ·exact nS z
   ·exact nSl z
  ·have h1 := (wide hm).heap b o hb q
   exact hm2.heap b o hb (kp b o (fun z => hb (by simp [z])) h1)
  ·exact hm2.gens.trans hm.gens
  ·exact hm2.drawn.trans hm.drawn
  ·exact hm2.os.trans hm.os
  ·exact Nat.le_trans (Nat.le_trans hm.toks ht) hm2.toks
/-- an empty set -/
abbrev zc7 (led : Bool) : Obj := { cls := .type "set", dict := none, data := .set #[] 0 (.fresh 0 0 led) }
/-- set(l) -/
theorem call_setL {l : Addr} {items : Array Value} {Q : Value → Shared → Prop} (hh : A.handled = none) (hl : s.heap.IsList l items) (Ph : Nat → Heap → Prop)
  (base : ∀ led h, h.get? s.heap.objs.size = some (zc7 led) → (∀ b o, s.heap.get? b = some o → h.get? b = some o) → Ph 0 h)
  (stay : ∀ i h h', Ph i h → (∀ b o, b ≠ s.heap.objs.size + 1 → h.get? b = some o → h'.get? b = some o) → Ph i h')
  (step : ∀ (A' : Around) (i : Nat) (v : Value) (s1 : Shared) (Q : Bool → Shared → Prop) (E1 : Value → Shared → Prop), A'.handled = none → A'.units ≤ A.units + 8 → items[i]? = some v → Ph i s1.heap → (∀ b h' tk, Heap.SameBut s.heap.objs.size s1.heap h' → s1.toks ≤ tk → Ph (i + 1) h' → Q b { s1 with heap := h', toks := tk }) → wpAny Y9 A' (setAdd s.heap.objs.size v) Q E1 s1)
  (hq : ∀ h' tk, Ph items.size h' → (∀ b o, s.heap.get? b = some o → h'.get? b = some o) → Q (.ref s.heap.objs.size) { s with heap := h', toks := tk }) :
  wpAny Y9 A (call (.type "set") [.ref l]) Q E s := by
 have TC := PySem.F.called_set
 obtain ⟨c, tl, hmro⟩ := TC.mro
 have hmade := TC.made
 have hsub := TC.sub
 have hnt := TC.notType
 have hcc := TC.canCreate
 have hct := PySem.F.typeCall_set_1 (.ref l)
 refine wpAny_call (codeAny_of_tree (wpAny_pure ⟨Code.quiet_builtin _ Y3, codeAny_builtin PySem.F.entry_type_call ?_⟩))
 rw [Around.under_plain (weight_type_call_type "set" [.ref l] []) rfl]
 repeat (any_goals (first | assumption | wp_step))
 refine codeAny_mono (code_set_new_1 (.ref l) (E := E) (Q₁ := fun obj s₁ => ∃ led : Bool, obj = .ref s.heap.objs.size ∧ s₁ = { s with heap := s.heap.push (zc7 led) }) fun led => ⟨led, rfl, rfl⟩) fun r s₁ hr => ?_
 rcases r with e | fl
 ·exact hr
 cases fl with
 | ret obj =>
  obtain ⟨led, rfl, rfl⟩ := hr
  have gS : (s.heap.push (zc7 led)).get? s.heap.objs.size = some (zc7 led) := Heap.get?_push_size _ rfl
  have tS : Shared.TypeIs { s with heap := s.heap.push (zc7 led) } (.ref s.heap.objs.size) "set" := ⟨_, gS, rfl⟩
  have hli := TC.init.lookup
  have hbi := TC.init.bind (.ref s.heap.objs.size)
  have lS : l < s.heap.objs.size := let ⟨_, q, _⟩ := hl; Heap.lt_size q
  have zS : (s.heap.push (zc7 led)).objs.size = s.heap.objs.size + 1 := Heap.size_push ..
  repeat (any_goals (first | assumption | wp_step))
  refine codeAny_mono (codeAny_call_builtin (R := wants (fun r s₂ => r = .none ∧ ∃ h' tk, s₂ = { s with heap := h', toks := tk } ∧ Ph items.size h' ∧ ∀ b o, s.heap.get? b = some o → h'.get? b = some o) E) TC.init.plain PySem.F.entry_set_init (check_set_init_1 tS ?_)) fun r₂ s₂ hr₂ => ?_
  ·have hl1 : (s.heap.push (zc7 led)).IsList l items := hl.push _
   obtain ⟨ol, hol, hcl, nl, hdl⟩ := id hl1
   have t1 : Shared.TypeIs { s with heap := s.heap.push (zc7 led) } (.ref l) "list" := ⟨ol, hol, hcl⟩
   have hsls := PySem.F.sub_list_set
   have hslf := PySem.F.sub_list_frozenset
   have hne : (Value.type "list" == Value.type "dict") = false := by decide
   obtain ⟨ocls, odict, odata, oslots⟩ := ol
   simp only at hcl hdl
   subst hcl hdl
   unfold Builtin.«set.__init__» noKeywords Builtin.Frozenset.updateFrom
   generalize hPI : pyIter = PI
   wp_walk
   subst hPI
   refine wpAny_pyIter_list hl1 (wpAny_bind (wpAny_runValue ?_))
   refine addAll (A := A.in1.in1) (S := s.heap.objs.size) (I := (s.heap.push (zc7 led)).objs.size) (l := l) (items := items) (by simp [hh]) (by rw [zS]; exact Nat.ne_of_lt (Nat.lt_succ_of_lt lS)) (by rw [zS]; exact Nat.ne_of_lt Ygd) (Nat.ne_of_gt lS) Ph (fun i h h' p k => stay i h h' p fun b o hb q => k b o (by rw [zS]; exact hb) q) (fun i v s1 Q1 E1 hv p k => step _ i v s1 Q1 E1 (by simp [hh]) (by simp only [Around.in1_units]; omega) hv p k) _ 0 _ rfl (Nat.zero_le _) ?_ ?_ ?_
   ·exact ⟨⟨_, Heap.get?_push_size _ rfl, rfl, rfl⟩, hl1.push _⟩
   ·exact base led _ (Heap.get?_push_of_some _ gS) fun b o q => Heap.get?_push_of_some _ (Heap.get?_push_of_some _ q)
   ·intro s' hm ph
    obtain ⟨h', g', d', tk', os'⟩ := s'
    obtain rfl : g' = s.gens := hm.gens
    obtain rfl : d' = s.drawn := hm.drawn
    obtain rfl : os' = s.os := hm.os
    show wpAny _ _ _ _ _ _
    refine wpAny_pure ?_
    show wpAny _ _ (ret Value.none) _ _ _
    refine wpAny_pure ⟨rfl, h', tk', rfl, ph, fun b o q => ?_⟩
    have hb := Heap.lt_size q
    refine hm.heap b o (fun z => ?_) (Heap.get?_push_of_some _ (Heap.get?_push_of_some _ q))
    simp only [List.mem_cons, List.not_mem_nil, or_false, zS] at z
    rcases z with z | z
    ·rw [z] at hb; exact Nat.lt_irrefl _ hb
    ·rw [z] at hb; exact Nat.lt_irrefl _ (Nat.lt_trans Ygd hb)
  ·rcases r₂ with e | fl₂
   ·exact hr₂
   cases fl₂ with
   | ret r =>
    obtain ⟨rfl, h', tk, rfl, ph, k⟩ := hr₂
    repeat (any_goals (first | assumption | wp_step))
    exact hq h' tk ph k
   | _ => exact hr₂.elim
 | _ => exact hr.elim
end
def memK (k : Key) (l : List Key) : Bool := l.any fun j => decide (k = j)
def addK (acc : List Key) (k : Key) : List Key := if memK k acc = true then acc else acc ++ [k]
/-- each once, where it first comes -/
def zdp (ks : List Key) : List Key := ks.foldl addK []
theorem addK_mem {acc : List Key} {k j : Key} : memK j (addK acc k) = (memK j acc || decide (j = k)) := by
 unfold addK
 split
 ·rename_i h
  by_cases e : j = k
  ·subst e
   rw [h, Bool.true_or]
  ·simp [e]
 ·simp [memK]
theorem addK_len {acc : List Key} {k : Key} : (addK acc k).length = if memK k acc = true then acc.length else acc.length + 1 := by
 unfold addK
 split <;> simp
theorem onceK_snoc (ks : List Key) (k : Key) : zdp (ks ++ [k]) = addK (zdp ks) k := by simp [zdp, List.foldl_append]
theorem onceK_le : ∀ (ks acc : List Key), (ks.foldl addK acc).length ≤ acc.length + ks.length
 | [], acc => by simp
 | k :: r, acc => by
  have h := onceK_le r (addK acc k)
  have h2 : (addK acc k).length ≤ acc.length + 1 := by rw [addK_len]; split <;> omega
  simp only [List.foldl_cons, List.length_cons]
  omega
section
variable {X : Cx}
/-- the set behind the first i -/
def PhK (P : Program) (w : World) (S : Addr) (ks : List Key) (i : Nat) (h : Heap) : Prop := h.SetOf (mixKind P w) S (fun k => memK k (zdp (ks.take i))) (zdp (ks.take i)).length
def tLenSetK (K : PySem.W.Frag) (ta : TE) : TE := fun σ H Q => ta σ H fun x H1 => ∃ (l : Addr) (ks : List Key), x = .ref l ∧ SqL K H1 l (ks.map kV) ∧ ks.length ≤ 4000 ∧ Q (.int Yc4) H1
theorem pe_lenSetK {a : Expr} {ta : TE} {p p2 q pos : Pos} (hc : X.calm = true) (hg : Gl X "len") (hm : X.mg "len" = none) (hg2 : Gl X "set") (hm2 : X.mg "set" = none) (ha : PE X a ta)
  (na : starEach [a] X.env = (false, eval a X.env) :: starEach [] X.env := by rfl) : PE X Ya1 (tLenSetK X.K ta) := ⟨fun pins s σ H Q I h => by
 refine Call_ (ld_blt I hg hm boot_len (callWith_builtin1 (args_cons (Call_ (ld_blt I hg2 hm2 boot_set (callWith_type1 (args_cons (thn (ha.run pins s σ H _ I h) ?_) na) na rfl))) rfl) rfl rfl))
 rintro v s1 ⟨x, H1, I1, r1, l, ks, rfl, hq, hz, q1⟩
 cases r1
 obtain ⟨its, rv, pl, _⟩ := I1.list hq
 have hn : its.length = ks.length := by rw [← rv.length, List.length_map]
 refine args_nil (call_setL (items := its.toArray) (I1.ok.hd hc) pl.isList (PhK X.prog X.w s1.heap.objs.size ks) ?_ ?_ ?_ ?_)
 ·intro led h g k
  refine ⟨_, #[], 0, _, g, ⟨rfl, rfl, rfl⟩, rfl, (fun e he => by simp at he), (fun k => by simp [zdp, memK]), by simp [scanBound], rfl, ?_⟩
  simp [zdp]
 ·rintro i h h' ⟨o, es, ep, t, ho, r⟩ k
  exact ⟨o, es, ep, t, k _ _ (Nat.ne_of_lt Ygd) ho, r⟩
 ·intro A' i v s2 Q2 E2 hA _ hv ph k
  have hi : i < ks.length := by
   have := (Array.getElem?_eq_some_iff.mp hv).1
   simpa [hn] using this
  have hk : ks.take (i + 1) = ks.take i ++ [ks[i]] := by rw [List.take_succ_eq_append_getElem hi]
  have rv2 : RelV (kV ks[i]) v := by
   obtain ⟨u, e1, e2⟩ := Vals.get rv (i := i) (x := kV ks[i]) (by rw [List.getElem?_map, List.getElem?_eq_getElem hi]; rfl)
   have e3 : its[i]? = some v := by simpa using hv
   rw [e3] at e1
   cases e1
   exact e2
  unfold setAdd
  refine wpAny_holding (wpAny_bind ((mixKind X.prog X.w).pyHash (k := ks[i]) (kV_is rv2) ?_))
  have hroom : (zdp (ks.take i)).length + 1 < scanBound := by
   have := onceK_le (ks.take i) []
   have e : (ks.take i).length ≤ ks.length := by rw [List.length_take]; omega
   simp only [List.length_nil, scanBound] at *
   unfold zdp
   omega
  refine wpAny_setAddHashed_of (knd := mixKind X.prog X.w) (s := { s2 with toks := s2.toks + 1 }) (kV_is rv2) (key_scan rv2) ph hroom fun h' sb hS => ?_
  refine k _ h' _ sb (Nat.le_succ _) ?_
  have e1 : (fun j => memK j (zdp (ks.take i)) || decide (j = ks[i])) = fun j => memK j (zdp (ks.take (i + 1))) := funext fun j => by rw [hk, onceK_snoc, addK_mem]
  have e2 : (if memK ks[i] (zdp (ks.take i)) = true then (zdp (ks.take i)).length else (zdp (ks.take i)).length + 1) = (zdp (ks.take (i + 1))).length := by rw [hk, onceK_snoc, addK_len]
  rw [e1, e2] at hS
  exact hS
 ·intro h' tk ph k
  have I2 : Inv X pins σ H1 { s1 with heap := h', toks := tk } := I1.kept k
  obtain ⟨o, es, ep, t, ho, hex, hd, _, _, hb, hf, hn2⟩ := ph
  rw [List.take_of_length_le (by simp [hn])] at hn2
  exact args_nil (call_len_set ho hex hd hf (by have : es.size < 4096 := hb; omega) ⟨.int Yc4, H1, I2.tok _, ⟨_, by rw [hn2]⟩, q1⟩)⟩
end
/-- texts and ints as keys -/
def keysOf : List W → Option (List Key)
 | [] => some []
 | .t (.str x) :: r => (keysOf r).map (Sum.inr x :: ·)
 | .t (.int x) :: r => (keysOf r).map (Sum.inl x :: ·)
 | _ => none
def mLenSet (F : M W) : M W := fun eta hp => (F eta hp).bind fun w h => match (zdj h w).bind keysOf with
 | some ks => if ks.length ≤ 4000 then .ok (.t (.int Yc4)) h else .bad
 | none => .bad
section
variable {X : Cx} {Wx : WX} {a : Expr} {F : M W} {p p2 q pos : Pos}
theorem keys_rw {K : PySem.W.Frag} {s : S4} : ∀ {ws : List W} {vs : List V} {ks : List Key}, keysOf ws = some ks → RwL K s ws vs → vs = ks.map kV := by
 intro ws
 induction ws with
 | nil =>
  intro vs ks h r
  simp only [keysOf, Option.some.injEq] at h
  subst h
  exact r
 | cons w ws ih =>
  intro vs ks h r
  obtain ⟨v, t, e, a, b⟩ := r
  unfold keysOf at h
  split at h
  ·rename_i e2
   cases e2
  ·rename_i x r' e2
   cases e2
   obtain ⟨zs, h1, h2⟩ := Option.map_eq_some_iff.mp h
   simp only [Rw, Rf] at a
   rw [← h2, e, a, ih h1 b]
   rfl
  ·rename_i x r' e2
   cases e2
   obtain ⟨zs, h1, h2⟩ := Option.map_eq_some_iff.mp h
   simp only [Rw, Rf] at a
   rw [← h2, e, a, ih h1 b]
   rfl
  ·cases h
theorem ie_lenSet (hc : X.calm = true) (hm : X.mg "len" = none) (hm2 : X.mg "set" = none) (ha : IE X Wx a F) (hg : Gl X "len" := by rfl) (hg2 : Gl X "set" := by rfl)
  (na : starEach [a] X.env = (false, eval a X.env) :: starEach [] X.env := by rfl) : IE X Wx Ya1 (mLenSet F) :=
 PE.imp (pe_lenSetK hc hg hm hg2 hm2 ha na) fun σ H Q h =>
  tM.bind1 (R := fun (x : V) (H1 : Hp) => ∃ (l : Addr) (ks : List Key), x = .ref l ∧ SqL X.K H1 l (ks.map kV) ∧ ks.length ≤ 4000 ∧ Q (.int Yc4) H1)
   (k := fun (w : W) _ h => match (zdj h w).bind keysOf with | some ks => (if ks.length ≤ 4000 then .ok (.t (.int Yc4)) h else .bad : Res W) | none => .bad) h fun s eta w v R1 S1 f1 g => by
   split at g
   ·rename_i ks hk
    split at g
    ·rename_i hz
     obtain ⟨ws, h1, h2⟩ := Option.bind_eq_some_iff.mp hk
     obtain ⟨l, xs, e, sq, rl⟩ := litems_sq R1 h1 f1
     subst e
     have ev := keys_rw h2 rl
     subst ev
     exact ⟨l, ks, rfl, sq, hz, g _ s rfl Yh R1 Yg⟩
    ·exact g.elim
   ·exact g.elim
end
section
variable {X : Cx} {Wx : WX} {x : Str} {pos : Pos}
theorem ie_globS {v : Str} {t : Tok} (hm : X.mg x = some (.str v t)) (hg : Gl X x := by rfl) (hd : (x == ("__debug__" : Str)) = false := by decide) : IE X Wx Yg1 (mC (.str v)) :=
 ie_glob hg hm (v := .str v) ⟨_, rfl⟩ (fun s => by simp [Rw, Rf]) hd
/-- a tuple of texts -/
theorem ie_globT {a : Addr} {o : Obj} {us : List Value} {vs : List Str} {n : Nat} (hm : X.mg x = some (.ref a)) (hl : X.K.lookup a = some o) (hc : o.cls = .type "tuple") (hdn : o.dict = none) (hd : o.data = .seq us.toArray n) (hr : Vals (vs.map V.str) us) (hz : us.length ≤ 1000) (hg : Gl X x := by rfl) (hdb : (x == ("__debug__" : Str)) = false := by decide) : IE X Wx Yg1 (mC (.tup (vs.map T.str))) :=
 ie_glob hg hm (v := .ref a) rfl (fun s => by
  simp only [Rw, Rf]
  exact ⟨a, vs.map V.str, rfl, .inr ⟨o, us.toArray, n, hl, hc, hdn, hd, by rw [sizeLine_eq, List.size_toArray]; omega, by simpa using hr⟩, strs_rf vs⟩) hdb
/-- an own class -/
theorem ie_cls {c : Str} {C : Addr} (cn : CN X.K c C) (hm : X.mg x = some (.ref C)) (hg : Gl X x := by rfl) (hdb : (x == ("__debug__" : Str)) = false := by decide) : IE X Wx Yg1 (mC (.cls c)) :=
 ie_glob hg hm (v := .ref C) rfl (fun s => by
  simp only [Rw, Rf]
  exact ⟨C, rfl, cn⟩) hdb
/-- a built-in type -/
theorem ie_ty {n : String} (hm : X.mg x = none) (hb : bootBuiltins x = some (.type n)) (hg : Gl X x := by rfl) (hn : x ≠ "__name__" := by decide) (hdb : (x == ("__debug__" : Str)) = false := by decide) : IE X Wx Yg1 (mC (.ty n)) := ⟨fun pins s σ H Q I h => by
 refine ld_blt I hg hm hb ⟨.ty n, H, I, rfl, ?_⟩ hn hdb
 obtain ⟨s0, eta, e1, R1, S1, g⟩ := h
 subst e1
 exact g _ s0 rfl (Aft.refl s0) R1 Yg⟩
end
structure ClsF (K : PySem.W.Frag) (mg : Str → Option Value) (c : Str) (C : Addr) : Prop where
 cn : CN K c C
 mg : mg c = some (.ref C)
 cl : Cls K C
structure XF (P : Program) (w : World) (K : PySem.W.Frag) (mg : Str → Option Value) (base : Heap) (c : Str) (C fI : Addr) (fd : FuncData) (ps : List Str) (fld : Str) : Prop where
 T : OexC K C
 iC : PySem.W.findIn K (.ref C) "__init__" = some (some (.ref fI))
 tI : PySem.W.typeIn K (.ref fI) = some Yfn
 cn : CN K c C
 ok : FnOk P w K mg base Yj 1 fI fd ps (spI C fld)
 hot : L2H.FnH P w K mg base Yj 1 fI fd ps (spI C fld)
 mg : mg c = some (.ref C)
 bd : Binds K fd ps []
 em : PySem.W.exmOne K (.ref C) (.ref C) = some true
def hitC (c : Str) : Str → Option Bool := fun x => if x = c then some true else none
section
variable {P : Program} {w : World} {K : PySem.W.Frag} {mg : Str → Option Value} {base : Heap} {c : Str} {C fI : Addr} {fd : FuncData} {ps : List Str} {fld : Str}
theorem XF.sub (x : XF P w K mg base c C fI fd ps fld) : ∀ (c' : Str) (C' : Addr), hitC c c' = some true → CN K c' C' → PySem.W.subIn K (.ref C') Yg6 = some true := fun c' C' h n => by
 unfold hitC at h
 split at h
 ·rename_i e
  subst e
  cases n.inj x.cn
  exact x.T.exC
 ·cases h
theorem zdw {X : Cx} : L2.Takes X.nox W0 := fun u s' x => by
 obtain ⟨_, _, _, _, _, _, _, _, _, _, _, _, _, _, _, _, f⟩ := x
 exact f.elim
end
/-- int(text) -/
def oIntS : OpN := fun ws hp => match ws with
 | [.t (.str a)] => (match PySem.intText? a with | some n => if a.length ≤ 640 then .ok (.t (.int n)) hp else .bad | none => .bad)
 | _ => .bad
theorem ok_intS {K : PySem.W.Frag} {ω : World} {Wx : WX} : OpNOk K ω Wx oIntS (fun xs H Q => ∃ a n, xs = [.str a] ∧ PySem.intText? a = some n ∧ a.length ≤ 640 ∧ Q (.int n) H) := by
 intro s ws xs Q R r go
 unfold oIntS at go
 split at go
 ·obtain ⟨v, e, rv⟩ := RwL.one r
  simp only [Rw, Rf] at rv
  subst rv e
  split at go
  ·rename_i n hn
   split at go
   ·rename_i hz
    exact ⟨_, n, rfl, hn, hz, go _ s rfl Yh R Yg⟩
   ·exact go.elim
  ·exact go.elim
 ·exact go.elim
end Mir
namespace Mir
open PySem PySem.Spec L2
open PyProof.Rows hiding St
end Mir
namespace Mir
open PySem PySem.Spec L2
open PyProof.Rows hiding St
end Mir
namespace Mir
open PySem PySem.Spec L2
open PyProof.Rows hiding St
section
variable {X : Cx} {CX : CXT} {k : Nat} {f C : Addr} {fd : FuncData} {ps : List Str} {sp : Sp} {E : XK} {p pos : Pos} {e : Expr} {ta : TE}
/-- the builtin len where the class of the instance has a def __len__ -/
theorem len_ins {pins : List Yfb} {σ : L2.St} {H : Hp} {s : Shared} {a dx : Addr} {fs : List Yc2} {Q : VK} (I : Inv X pins σ H s) (ea : H a = some Yd3) (hm : Meth X.K C "__len__" f)
  (F : FnG X.prog X.w X.K X.mg X.base CX k f fd ps sp) (hr : Room (k + 1) X.A) (hgd : X.A.guards = some []) (hb : Binds X.K fd ps []) (hx : Passes CX X.nox E)
  (h : sp [.ref a] H Yfu E) {E' : Value → Shared → Prop} : wpAny Ybc X.A (call (.builtin "len") [.ref a]) Yej E' s := by
 obtain ⟨mA, O, _, _, _, _⟩ := ins_get I.hok ea
 obtain ⟨od, J, _⟩ := O.look
 have el : ([Value.ref a] ++ []).length = ps.length := F.len _ _ _ _ h
 refine Calls.call_function_entry kind_len plain_len entry_len (args_len1 _) ?_
 unfold Builtin.«len»
 refine wpAny_bind (m := oneArg "len" _) (wpAny_pure ?_)
 refine wpAny_bind (m := callSpecial? (.ref a) (Str.ofString "__len__")) (PySem.W.special_fn I.kIn J hm.at_ (beq_iff_eq.mp hm.fn) (wpAny_call (codeAny_mono (F.run X.A.in1 X.stack s H ⟨[.ref a], []⟩ [.ref a] [.ref a] _ E hr.in1 hgd I.env0.in1 (hb s [.ref a] I.kIn el) (.cons rfl .nil) h) ?_)))
 rintro (er | fl) s' q
 ·exact (hx pins σ H s er s' (I.wish _) q).elim
 ·cases fl with
  | ret u =>
   obtain ⟨v, H', I3, rv, i, ev, h0, h1, q3⟩ := I.after q
   subst ev
   obtain ⟨t, e⟩ := (show ∃ t, u = Value.int i t from rv)
   cases e
   refine wpAny_bind (wpAny_holding (wpAny_pure ?_))
   refine wpAny_bind (wpAny_letGo ?_)
   show wpAny _ _ (if i < 0 then _ else _) _ _ _
   rw [if_neg Yc]
   show wpAny _ _ (if i ≥ 2 ^ 63 then _ else _) _ _ _
   rw [if_neg Yc]
   exact wpAny_bind (wpAny_mkInt (wpAny_pure ⟨_, rfl, V.int i, H', I3.tok _, ⟨_, rfl⟩, q3⟩))
  | next => exact (show False from q).elim
  | brk => exact (show False from q).elim
  | cont => exact (show False from q).elim
def tLenOwn (C : Addr) (sp : Sp) (E : XK) (ta : TE) : TE := fun σ H Q => ta σ H fun x H1 => ∃ a dx fs, x = .ref a ∧ H1 a = some Yd3 ∧ sp [.ref a] H1 Yfu E
theorem pe_lenOwn (he : PE X e ta) (hm : Meth X.K C "__len__" f) (F : FnG X.prog X.w X.K X.mg X.base CX k f fd ps sp) (hr : Room (k + 1) X.A) (hgd : X.A.guards = some []) (hb : Binds X.K fd ps []) (hx : Passes CX X.nox E) (hg : Gl X "len") (hm2 : X.mg "len" = none)
  (na : starEach [e] X.env = (false, eval e X.env) :: starEach [] X.env := by rfl) : PE X (.Call (.Name "len" p) [e] [] pos) (tLenOwn C sp E ta) := ⟨fun pins s σ H Q I h => by
 refine Call_ (ld_blt I hg hm2 boot_len (callWith_builtin1 (args_cons (thn (he.run pins s σ H _ I h) ?_) na) na rfl))
 rintro v s1 ⟨x, H1, I1, r1, a, dx, fs, rfl, ea, q⟩
 cases r1
 exact args_nil (len_ins I1 ea hm F hr hgd hb hx q)⟩
end
/-- len(o) -/
def mLenOwn (c : Str) (f : OpN) (Fo : M W) : M W := fun eta hp => (Fo eta hp).bind fun o h1 => match insOf h1 o with
 | some (c', _) => if c' = c then (noEr (f [o] h1)).bind fun w h2 => (match w with | .t (.int i) => if 0 ≤ i ∧ i < 4294967296 then .ok w h2 else .bad | _ => .bad) else .bad
 | none => .bad
section
variable {X : Cx} {Wx : WX} {k : Nat} {f C : Addr} {fd : FuncData} {ps : List Str} {m : OpN} {n : Nat} {c : Str} {p pos : Pos} {e : Expr} {Fo : M W}
theorem ie_lenOwn (cn : CN X.K c C) (hm : Meth X.K C "__len__" f) (Fk : FnG X.prog X.w X.K X.mg X.base Yb7 k f fd ps Yc3) (hr : Room (k + 1) X.A) (hgd : X.A.guards = some []) (hb : Binds X.K fd ps []) (hl : ∀ ws hp, ws.length ≠ n → m ws hp = .bad) (hm2 : X.mg "len" = none) (ho : IE X Wx e Fo)
  (hg : Gl X "len" := by rfl) (na : starEach [e] X.env = (false, eval e X.env) :: starEach [] X.env := by rfl) : IE X Wx (.Call (.Name "len" p) [e] [] pos) (mLenOwn c m Fo) :=
 PE.imp (pe_lenOwn ho hm Fk hr hgd hb Ydx hg hm2 na) fun σ H Q h => by
  obtain ⟨s0, eta, e1, R0, S0, g0⟩ := h
  refine ⟨s0, eta, e1, R0, S0, Go.bind g0 fun w v s1 A1 R1 f1 eok g1 => ?_⟩
  clear eok
  split at g1
  ·rename_i c' fs hi
   split at g1
   ·rename_i hc
    subst hc
    obtain ⟨a, C', dx, vs, e, hH, cn', l⟩ := ins_at R1 hi f1
    cases cn.inj cn'
    subst e
    refine ⟨a, dx, vs, rfl, hH, s1, [w], rfl, R1, ⟨.ref a, [], rfl, f1, rfl⟩, ?_, ?_⟩
    ·by_cases q : [w].length = n
     ·exact q
     ·rw [hl _ _ q] at g1; exact g1.elim
    ·cases hq : m [w] s1.hp with
     | ok b h =>
      rw [hq] at g1
      intro v' s' e1 e2 e3 e4
      simp only [noEr, Res.bind] at g1
      split at g1
      ·rename_i i
       split at g1
       ·rename_i hi2
        have ev : v' = .int i := by simpa only [Rw, Rf] using e4
        exact ⟨i, ev, hi2.1, by have := hi2.2; omega, g1 v' s' e1 e2 e3 e4⟩
       ·exact g1.elim
      ·exact g1.elim
     | er _ _ _ => rw [hq] at g1; exact g1.elim
     | bad => rw [hq] at g1; exact g1.elim
   ·exact g1.elim
  ·exact g1.elim
end
end Mir
namespace Mir
open PySem PySem.Spec L2
open PyProof.Rows hiding St
section
variable {P : Program} {w : World} {A : Around} {E : Value → Shared → Prop} {s : Shared}
abbrev hK (P : Program) (w : World) (k : List Key) : Int := tupleKeyHash (mixKind P w) k
abbrev IsK (P : Program) (w : World) (h : Heap) (k : List Key) (a : Addr) : Prop := IsTupleKey (mixKind P w) h k a
/-- an int or a text: no class statement of its own, its hash asked for without a step -/
def Leaf (v : Value) : Prop := (∀ n, ofAClassStatement n v = pure false) ∧ ∃ b, ∀ n, hashByValue n v = pure b
theorem leaf_key {k : Key} {v : Value} (h : keyIs k v = true) : Leaf v := by
 rcases keyIs_shape h with ⟨i, t, _, rfl⟩ | ⟨x, t, _, rfl⟩
 ·exact ⟨fun n => by cases n <;> rfl, true, fun n => by cases n <;> rfl⟩
 ·exact ⟨fun n => by cases n <;> rfl, false, fun n => by cases n <;> rfl⟩
theorem leaves {k : List Key} {vs : List Value} (h : ItemsAre (mixKind P w) k vs) : ∀ v ∈ vs, Leaf v := by
 induction h with
 | nil => intro v hv; cases hv
 | cons h1 _ ih =>
  intro v hv
  rcases List.mem_cons.mp hv with rfl | hv
  ·exact leaf_key h1
  ·exact ih v hv
theorem plain_class {k : List Key} {b : Addr} {Q : Bool → Shared → Prop} (hk : IsK P w s.heap k b) (h : Q false s) : wpAny Ydl A (ofAClassStatement 8 (.ref b)) Q E s := by
 have ty := hk.typeIs
 obtain ⟨o, its, n, g, _, dat, it⟩ := hk
 have lv := leaves it
 unfold ofAClassStatement
 refine wpAny_bind (wpAny_typeOf ty ?_)
 have e : (("tuple" : String) == "tuple") = true := by decide
 simp only [e, if_true, Bool.not_true, Bool.false_eq_true, if_false]
 show wpAny _ _ (seqItems? (.ref b) >>= _) _ _ s
 refine wpAny_bind (wpAny_seqItems g dat (wpAny_bind ?_))
 show wpAny _ _ (forIn its _ _) _ _ s
 rw [← Array.forIn_toList]
 refine wpAny_forIn_list _ (fun l r z => r.1 = none ∧ z = s ∧ ∀ v ∈ l, Leaf v) _ ?_ ?_ _ _ ⟨rfl, rfl, lv⟩
 ·rintro v l r z ⟨h1, rfl, all⟩
  rw [(all v List.mem_cons_self).1]
  refine wpAny_bind (wpAny_pure ?_)
  simp only [Bool.false_eq_true, if_false]
  exact wpAny_pure ⟨rfl, rfl, fun u hu => all u Yea⟩
 ·rintro ⟨r1, r2⟩ z ⟨h1, rfl, _⟩
  cases h1
  exact wpAny_pure h
theorem plain_hash {k : List Key} {b : Addr} {Q : Bool → Shared → Prop} (hk : IsK P w s.heap k b) (h : ∀ b, Q b s) : wpAny Ydl A (hashByValue 8 (.ref b)) Q E s := by
 have ty := hk.typeIs
 obtain ⟨o, its, n, g, _, dat, it⟩ := hk
 have lv := leaves it
 unfold hashByValue
 refine wpAny_bind (wpAny_specialOf ty F.slot_tuple_hash.lookup ?_)
 show wpAny _ _ (seqItems? (.ref b) >>= _) _ _ s
 refine wpAny_bind (wpAny_seqItems g dat (wpAny_bind ?_))
 show wpAny _ _ (forIn its _ _) _ _ s
 rw [← Array.forIn_toList]
 refine wpAny_forIn_list _ (fun l r z => r.1 = none ∧ z = s ∧ ∀ v ∈ l, Leaf v) _ ?_ ?_ _ _ ⟨rfl, rfl, lv⟩
 ·rintro v l r z ⟨h1, rfl, all⟩
  obtain ⟨c, hc⟩ := (all v List.mem_cons_self).2
  rw [hc]
  refine wpAny_bind (wpAny_pure ?_)
  cases c with
  | true =>
   simp only [Bool.not_true, Bool.false_eq_true, if_false]
   exact wpAny_pure ⟨rfl, rfl, fun u hu => all u Yea⟩
  | false =>
   simp only [Bool.not_false, if_true]
   exact wpAny_pure (wpAny_pure (h false))
 ·rintro ⟨r1, r2⟩ z ⟨h1, rfl, _⟩
  cases h1
  exact wpAny_pure (h true)
/-- looking among such tuples shows nothing of the table -/
theorem unseen {k : List Key} {b : Addr} {Q : Bool → Shared → Prop} (hk : IsK P w s.heap k b) {ys : List Value} (hy : ∀ y ∈ ys, ∃ k' c, y = Value.ref c ∧ IsK P w s.heap k' c) (h : Q false s) :
  wpAny Ydl A (searchCouldBeSeen (.ref b) ys) Q E s := by
 unfold searchCouldBeSeen
 refine wpAny_bind (wpAny_forIn_list _ (fun l r z => r.1 = none ∧ z = s ∧ ∀ y ∈ l, ∃ k' c, y = Value.ref c ∧ IsK P w s.heap k' c) _ ?_ ?_ _ _ ⟨rfl, rfl, hy⟩)
 ·rintro v l r z ⟨h1, rfl, all⟩
  obtain ⟨k', c, rfl, hc⟩ := all v List.mem_cons_self
  have all' := fun u hu => all u Yea
  dsimp only
  by_cases q : (b == c || (carriedByValue (.ref b) && carriedByValue (.ref c))) = true
  ·exact wp_if_pos q (wpAny_pure ⟨rfl, rfl, all'⟩)
  ·refine wp_if_neg q (wpAny_bind (wpAny_eqIsQuiet_tuple hk ?_))
   simp only [Bool.not_true, Bool.false_eq_true, if_false]
   refine wpAny_bind (wpAny_eqIsQuiet_tuple hc ?_)
   simp only [Bool.not_true, Bool.false_eq_true, if_false]
   refine wpAny_bind (plain_class hk ?_)
   simp only [Bool.false_eq_true, if_false]
   refine wpAny_bind (plain_class hc ?_)
   simp only [Bool.false_eq_true, if_false]
   exact wpAny_pure ⟨rfl, rfl, all'⟩
 ·rintro ⟨r1, r2⟩ z ⟨h1, rfl, _⟩
  cases h1
  exact wpAny_pure h
/-- at a stands the set of the tuples L, with room to spare -/
structure SetM (P : Program) (w : World) (h : Heap) (a : Addr) (L : List Yen) (es : Array (Int × Value)) (ep : Nat) (t : SetTable) : Prop where
 ob : ∃ o, h.get? a = some o ∧ o.ExactSet ∧ o.data = .set es ep t
 rows : es.toList = L.map fun p => (hK P w p.2, Value.ref p.1)
 tab : TabOk t (L.map fun p => hK P w p.2)
 nd : (L.map (·.2)).Nodup
 tup : ∀ p ∈ L, IsK P w h p.2 p.1
 m7 : t.mask = 7
 few : L.length ≤ 4
variable {a : Addr} {L : List Yen} {es : Array (Int × Value)} {ep : Nat} {t : SetTable}
theorem SetM.size (R : SetM P w s.heap a L es ep t) : es.size = L.length := by
 rw [← Array.length_toList, R.rows, List.length_map]
theorem SetM.psize (R : SetM P w s.heap a L es ep t) : t.place.size = L.length := by rw [R.tab.sz, List.length_map]
theorem SetM.fits (R : SetM P w s.heap a L es ep t) : t.fits es.size = true := by
 have h1 := R.psize
 have h2 := R.size
 have h3 := R.few
 unfold SetTable.fits SetTable.fill
 rw [R.tab.dm, Bool.and_eq_true, beq_iff_eq, decide_eq_true_eq, R.m7]
 show t.place.size = es.size ∧ t.place.size + 0 ≤ 7
 omega
theorem SetM.at_ (R : SetM P w s.heap a L es ep t) {i : Nat} {p : Addr × List Key} (h : L[i]? = some p) : es[i]? = some (hK P w p.2, Value.ref p.1) := by
 rw [← Array.getElem?_toList, R.rows, List.getElem?_map, h]
 rfl
theorem nth_dummy {m : Nat} : ∀ (n : Nat) (p : SetTable.Probe), p.dummy = none → (nth m p n).dummy = none
 | 0, _, h => h
 | n + 1, p, h => by
  refine nth_dummy n (adv m p) ?_
  unfold adv
  split <;> exact h
/-- the looking for a tuple, from the c-th place of its way on -/
theorem look (R : SetM P w s.heap a L es ep t) {x : Addr} {k : List Key} (hx : IsK P w s.heap k x) (hu : A.units < cLine) {n : Nat} (hn : n < 10 * SetTable.turns t.mask)
  (free : way t.mask Yas n ∉ t.place.toList) (full : ∀ c, c < n → way t.mask Yas c ∈ t.place.toList) {Q : SetFound → Shared → Prop}
  (yes : k ∈ L.map (·.2) → Q (.there none) s) (no : k ∉ L.map (·.2) → Q (.free Yg7 false) s) :
  ∀ (f c : Nat) (stand : Option SetTable.Probe), stand.getD (t.probeStart Yas) = nth t.mask (runAt t.mask (SetTable.bits Yas % (t.mask + 1)) (SetTable.bits Yas)) c → c ≤ n → n - c < f →
   (∀ (i : Nat) p, L[i]? = some p → p.2 = k → ∃ c', c ≤ c' ∧ c' < n ∧ t.place.toList[i]? = some (way t.mask Yas c')) →
   wpAny Ydl A (setSearchFrom a (.ref x) Yas true f stand) Q E s := by
 intro f
 induction f with
 | zero => intro c stand _ _ h; omega
 | succ f ih =>
  intro c stand st hc hf there
  obtain ⟨o, ho, _, hd⟩ := R.ob
  let W0 : SetTable.Probe := runAt t.mask (SetTable.bits Yas % (t.mask + 1)) (SetTable.bits Yas)
  have step : ∀ q, nth t.mask (nth t.mask W0 c) q = nth t.mask W0 (c + q) := fun q => (nth_add t.mask c _ q).symm
  have jw : ∀ q, (nth t.mask (nth t.mask W0 c) q).j = way t.mask Yas (c + q) := fun q => congrArg SetTable.Probe.j (step q)
  have entry : ∀ (i : Nat) p, L[i]? = some p → (es[i]?.map (·.1)).getD 0 = hK P w p.2 := fun i p hp => by rw [R.at_ hp]; rfl
  have gone : ¬ t.gaveWay = true := by
   unfold SetTable.gaveWay
   rw [mask_odd R.tab.mok]
   decide
  rw [setSearchFrom_succ]
  refine wpAny_bind (wpAny_setState_of ho hd R.fits ?_)
  dsimp only
  refine wp_if_neg gone ?_
  rcases go_spec t R.tab.ris R.tab.dm (fun i => (es[i]?.map (·.1)).getD 0) (hK P w k) (10 * SetTable.turns t.mask) (n - c) (nth t.mask W0 c) (nth_dummy c _ rfl) (by omega)
   (fun q hq => by rw [jw]; exact full (c + q) Yc) (by rw [jw, show c + (n - c) = n by omega]; exact free) with ⟨q, i, hq, hi, _, before, pr⟩ | ⟨before, pr⟩
  ·have pr2 : t.probe (fun i => (es[i]?.map (·.1)).getD 0) Yas (stand.getD (t.probeStart Yas)) = some (.candidate (way t.mask Yas (c + q)) i (nth t.mask W0 (c + (q + 1)))) := by
    rw [st, ← jw, ← step]
    exact pr
   rw [pr2]
   dsimp only
   rw [jw] at hi
   have li : i < L.length := by
    have := (List.getElem?_eq_some_iff.mp hi).1
    rw [Array.length_toList, R.psize] at this
    exact this
   obtain ⟨p, hp⟩ : ∃ p, L[i]? = some p := ⟨L[i], List.getElem?_eq_getElem li⟩
   have mp : p ∈ L := List.mem_of_getElem? hp
   have rest : wpAny Ydl A (searchRest a (.ref x) Yas true f es t (way t.mask Yas (c + q)) i (nth t.mask W0 (c + (q + 1)))) Q E s := by
    unfold searchRest
    rw [R.at_ hp]
    dsimp only
    refine wpAny_bind (wpAny_holding (wpAny_eqBool_tuple hu (R.tup p mp) hx ?_))
    refine wpAny_bind (wpAny_setState_of ho hd R.fits ?_)
    dsimp only
    by_cases same : p.2 = k
    ·refine wp_if_pos (by simp [same]) ?_
     exact wpAny_pure (yes (List.mem_map.mpr ⟨p, mp, same⟩))
    ·have live : t.slot (way t.mask Yas (c + q)) = .live i := slot_live R.tab.ris hi
     refine wp_if_neg (by simp [same]) ?_
     rw [sameMem]
     dsimp only
     simp only [if_true, live, R.at_ hp]
     refine wpAny_bind (wpAny_isSame_ref_self (wpAny_bind (wpAny_pure ?_)))
     simp only [if_true]
     refine wp_if_neg (by simp [same]) ?_
     refine ih (c + (q + 1)) _ rfl Yc Yc fun i0 p0 h0 k0 => ?_
     obtain ⟨c', b1, b2, b3⟩ := there i0 p0 h0 k0
     refine ⟨c', ?_, b2, b3⟩
     rcases Nat.lt_trichotomy c' (c + q) with z | z | z
     ·exact absurd ((entry i0 p0 h0).trans (congrArg (hK P w) k0)) (before (c' - c) i0 Yc (by rw [jw, show c + (c' - c) = c' by omega]; exact b3))
     ·exfalso
      rw [z] at b3
      have e := slot_live R.tab.ris b3
      rw [live] at e
      injection e with e
      rw [← e, hp] at h0
      exact same ((congrArg Prod.snd (Option.some.inj h0)).trans k0)
     ·omega
   by_cases led : t.led = true
   ·exact wp_if_neg (by simp [led]) rest
   ·refine wp_if_pos (by simp [led]) (wpAny_bind (unseen hx (fun y hy => ?_) ?_))
    ·obtain ⟨e, he, rfl⟩ := List.mem_map.mp hy
     have he1 : e ∈ es ∧ e.1 = hK P w k := by simpa using he
     have he2 : e ∈ es.toList := by simpa using he1.1
     rw [R.rows] at he2
     obtain ⟨p2, hp2, rfl⟩ := List.mem_map.mp he2
     exact ⟨p2.2, p2.1, rfl, R.tup p2 hp2⟩
    ·exact wp_if_neg Ybr rest
  ·have pr2 : t.probe (fun i => (es[i]?.map (·.1)).getD 0) Yas (stand.getD (t.probeStart Yas)) = some (.empty Yg7 none) := by
    have e : way t.mask Yas n = (nth t.mask (nth t.mask W0 c) (n - c)).j := by rw [jw, show c + (n - c) = n by omega]
    rw [st, e]
    exact pr
   rw [pr2]
   dsimp only
   refine wpAny_pure (no fun hm => ?_)
   obtain ⟨p0, m0, k0⟩ := List.mem_map.mp hm
   obtain ⟨i0, h0⟩ := List.mem_iff_getElem?.mp m0
   obtain ⟨c', b1, b2, b3⟩ := there i0 p0 h0 k0
   exact before (c' - c) i0 Yc (by rw [jw, show c + (c' - c) = c' by omega]; exact b3) ((entry i0 p0 h0).trans (congrArg (hK P w) k0))
theorem look_at (R : SetM P w s.heap a L es ep t) {x : Addr} {k : List Key} (hx : IsK P w s.heap k x) (hu : A.units < cLine) {Q : SetFound → Shared → Prop} (yes : k ∈ L.map (·.2) → Q (.there none) s)
  (no : ∀ n, k ∉ L.map (·.2) → way t.mask Yas n ∉ t.place.toList → (∀ c, c < n → way t.mask Yas c ∈ t.place.toList) → Q (.free Yg7 false) s) :
  wpAny Ydl A (setSearch a (.ref x) Yas true) Q E s := by
 have few := R.few
 obtain ⟨n, hn, free, full⟩ := R.tab.first (by rw [List.length_map, R.m7]; omega) Yas
 have big : n < 100000 := by
  have : 10 * SetTable.turns t.mask ≤ 1420 := by
   unfold SetTable.turns
   rw [R.m7]
   decide
  omega
 unfold setSearch
 refine look R hx hu hn free full yes (fun h => no n h free full) 100000 0 none rfl (Nat.zero_le _) Yc fun i p hp e => ?_
 have hi : (L.map fun p => hK P w p.2)[i]? = some Yas := by rw [List.getElem?_map, hp, ← e]; rfl
 have lt : i < t.place.toList.length := by
  rw [Array.length_toList, R.psize]
  exact (List.getElem?_eq_some_iff.mp hp).1
 obtain ⟨c, hc, e⟩ := R.tab.before free hi (List.getElem?_eq_getElem lt)
 exact ⟨c, Nat.zero_le _, hc, by rw [List.getElem?_eq_getElem lt, e]⟩
end
section
variable {P : Program} {w : World} {A : Around} {E : Value → Shared → Prop} {s : Shared} {a : Addr} {L : List Yen} {es : Array (Int × Value)} {ep : Nat} {t : SetTable}
theorem isK_but {h h' : Heap} {k : List Key} {b : Addr} {o : Obj} (hb : IsK P w h k b) (ho : h.get? a = some o) (hd : o.data = .set es ep t) (hs : Heap.SameBut a h h') : IsK P w h' k b := by
 obtain ⟨o', its, n, g, c, d, it⟩ := hb
 have ne : b ≠ a := by
  rintro rfl
  rw [ho] at g
  cases g
  rw [hd] at d
  cases d
 exact ⟨o', its, n, (hs.2 b ne).trans g, c, d, it⟩
/-- one more put in -/
theorem add_in (R : SetM P w s.heap a L es ep t) {x : Addr} {k : List Key} (hx : IsK P w s.heap k x) (hu : A.units < cLine) (few : L.length < 4) {Q : Bool → Shared → Prop}
  (hQ : ∀ b h' L' es' ep' t', Heap.SameBut a s.heap h' → SetM P w h' a L' es' ep' t' → (k ∈ L.map (·.2) → L' = L) → (k ∉ L.map (·.2) → L'.Perm ((x, k) :: L)) → Q b { s with heap := h' }) :
  wpAny Ydl A (setAddHashed a (.ref x) Yas) Q E s := by
 obtain ⟨o, ho, hex, hd⟩ := R.ob
 unfold setAddHashed
 refine wpAny_holding ?_
 rw [show (100000 : Nat) = 99999 + 1 from rfl, setAddHashedIn_succ]
 refine wpAny_bind (wpAny_setState_of ho hd R.fits ?_)
 dsimp only
 refine wp_if_neg (by simp [byScan, Value.scannable]) ?_
 refine wpAny_bind (look_at R hx hu (fun hm => ?_) fun n hm free full => ?_)
 ·dsimp only
  exact wpAny_pure (hQ false s.heap L es ep t (Heap.SameBut.refl a s.heap) R (fun _ => rfl) fun z => absurd hm z)
 ·dsimp only
  refine wpAny_bind (wpAny_setState_of ho hd R.fits ?_)
  dsimp only
  obtain ⟨q1, _, q3, q4, _, _, _, _, q9⟩ := R.tab.put free full
  generalize hpt : t.put Yg7 = pt at q1 q3 q4 q9 ⊢
  obtain ⟨t1, p⟩ := pt
  dsimp only at q1 q3 q4 q9 ⊢
  subst q1
  generalize hj : SetTable.below t.place Yg7 = j at q3 ⊢
  let L1 := L.take j ++ (x, k) :: L.drop j
  have pm : L1.Perm ((x, k) :: L) := by
   have h : L1.Perm ((x, k) :: (L.take j ++ L.drop j)) := List.perm_middle
   rwa [List.take_append_drop] at h
  have l1 : L1.length = L.length + 1 := pm.length_eq
  have rows1 : (SetTable.insertAt es j (hK P w k, Value.ref x)).toList = L1.map fun p => (hK P w p.2, Value.ref p.1) := by
   rw [SetTable.toList_insertAt, R.rows]
   simp only [L1, List.map_append, List.map_cons, List.map_take, List.map_drop]
  have z1 : (SetTable.insertAt es j (hK P w k, Value.ref x)).size = L.length + 1 := by rw [← Array.length_toList, rows1, List.length_map, l1]
  have tab1 : TabOk t1 (L1.map fun p => hK P w p.2) := by
   have e : L1.map (fun p => hK P w p.2) = (L.map fun p => hK P w p.2).take j ++ hK P w k :: (L.map fun p => hK P w p.2).drop j := by
    simp only [L1, List.map_append, List.map_cons, List.map_take, List.map_drop]
   rw [e]
   exact q3
  have nd1 : (L1.map (·.2)).Nodup := by
   refine (pm.map (·.2)).nodup_iff.mpr ?_
   rw [List.map_cons]
   exact List.nodup_cons.mpr ⟨hm, R.nd⟩
  have fill1 : ¬ (t1.fill * 5 ≥ t1.mask * 3) := by
   rw [q9, q4, R.m7, List.length_map]
   omega
  have go : ∀ t2 : SetTable, t2.place = t1.place → t2.dummies = t1.dummies → t2.mask = t1.mask →
    wpAny Ydl A (do
     storeSet a Yb8 t2
     if !false && t2.tooFull then setRelay a (SetTable.grown (es.size + 1))
     return true) Q E s := fun t2 e1 e2 e3 => by
   refine wpAny_bind (wpAny_storeSet_of ho hd ?_ (by rw [z1, sizeLine_eq]; omega))
   have sb : Heap.SameBut a s.heap (s.heap.update a (Obj.putSet Yb8 t2)) := Heap.SameBut.update ..
   have full1 : t2.tooFull = false := by
    unfold SetTable.tooFull
    rw [decide_eq_false_iff_not]
    have : t2.fill = t1.fill := by unfold SetTable.fill; rw [e1, e2]
    rw [this, e3]
    exact fill1
   have done : ∀ b, Q b { s with heap := s.heap.update a (Obj.putSet Yb8 t2) } := fun b =>
    hQ b _ L1 _ (ep + 1) t2 sb ⟨⟨_, store_at ho hd, ⟨hex.1, hex.2.1, hex.2.2⟩, rfl⟩, rows1, ⟨by rw [e1]; exact tab1.ris, by rw [e2]; exact tab1.dm, by rw [e1]; exact tab1.sz, by rw [e3]; exact tab1.mok, by rw [e1, e3]; exact tab1.bd, by rw [e1, e3]; exact tab1.reach⟩, nd1, fun p hp => (by
     rcases List.mem_cons.mp (pm.mem_iff.mp hp) with rfl | hp
     ·exact isK_but hx ho hd sb
     ·exact isK_but (R.tup p hp) ho hd sb), by rw [e3, q4, R.m7], by rw [l1]; omega⟩ (fun z => absurd z hm) fun _ => pm
   rw [full1]
   first
    | exact wpAny_pure (done true)
    | exact wpAny_bind (wpAny_pure (wpAny_pure (done true)))
    | (simp only [Bool.not_false, Bool.and_false, Bool.false_eq_true, if_false]; exact wpAny_bind (wpAny_pure (wpAny_pure (done true))))
    | (simp only [Bool.not_false, Bool.and_false, Bool.false_eq_true, if_false]; exact wpAny_pure (done true))
  by_cases pl : t1.plain = true
  ·have br : ∀ b : Bool, wpAny Ydl A (do
     storeSet a Yb8 (if b = true then t1 else { t1 with plain := false })
     if !false && (if b = true then t1 else { t1 with plain := false }).tooFull then setRelay a (SetTable.grown (es.size + 1))
     return true) Q E s := fun b => by
    cases b with
    | true => exact go t1 rfl rfl rfl
    | false => exact go { t1 with plain := false } rfl rfl rfl
   first
    | (refine wpAny_bind ?_; refine wp_if_pos pl ?_; refine plain_hash hx ?_; exact br)
    | (refine wp_if_pos pl (wpAny_bind (plain_hash hx ?_)); exact br)
  ·first
    | (refine wpAny_bind ?_; refine wp_if_neg pl ?_; refine wpAny_pure ?_; exact go t1 rfl rfl rfl)
    | (refine wp_if_neg pl ?_; refine wpAny_bind (wpAny_pure ?_); exact go t1 rfl rfl rfl)
    | (refine wp_if_neg pl ?_; exact go t1 rfl rfl rfl)
end
def memT (k : List Key) (l : List (List Key)) : Bool := l.any fun j => decide (j = k)
theorem memT_iff {k : List Key} {l : List (List Key)} : memT k l = true ↔ k ∈ l := by simp [memT]
def onceT (ks : List (List Key)) : List (List Key) := ks.foldl Ycx []
theorem onceT_snoc (ks : List (List Key)) (k : List Key) : onceT (ks ++ [k]) = if memT k (onceT ks) = true then onceT ks else onceT ks ++ [k] := by
 unfold onceT
 rw [List.foldl_append]
 rfl
theorem onceT_le : ∀ (ks acc : List (List Key)), (ks.foldl Ycx acc).length ≤ acc.length + ks.length
 | [], acc => by simp
 | k :: r, acc => by
  have h := onceT_le r (if memT k acc = true then acc else acc ++ [k])
  have h2 : (if memT k acc = true then acc else acc ++ [k]).length ≤ acc.length + 1 := by split <;> simp
  simp only [List.foldl_cons, List.length_cons]
  omega
section
variable {X : Cx}
/-- the set behind the first i of the tuples ents -/
structure PhM (P : Program) (w : World) (S n0 : Addr) (ents : List Yen) (i : Nat) (h : Heap) : Prop where
 tup : ∀ e ∈ ents, IsK P w h e.2 e.1 ∧ e.1 < n0
 st : ∃ L es ep t, SetM P w h S L es ep t ∧ (∀ p ∈ L, p ∈ ents) ∧ (∀ k, k ∈ L.map (·.2) ↔ k ∈ onceT ((ents.map (·.2)).take i)) ∧ L.length = (onceT ((ents.map (·.2)).take i)).length
def tLenSetM (K : PySem.W.Frag) (ta : TE) : TE := fun σ H Q => ta σ H fun x H1 => ∃ (l : Addr) (es : List Yen), x = .ref l ∧ SqL K H1 l ((es.map (·.1)).map V.ref) ∧ (∀ e ∈ es, SqT K H1 e.1 (e.2.map kV)) ∧ es.length ≤ 4 ∧ Q (.int (((onceT (es.map (·.2))).length : Nat) : Int)) H1
theorem pe_lenSetM {a : Expr} {ta : TE} {p p2 q pos : Pos} (hc : X.calm = true) (hu : X.A.units + 64 < cLine) (hg : Gl X "len") (hm : X.mg "len" = none) (hg2 : Gl X "set") (hm2 : X.mg "set" = none) (ha : PE X a ta)
  (na : starEach [a] X.env = (false, eval a X.env) :: starEach [] X.env := by rfl) : PE X Ya1 (tLenSetM X.K ta) := ⟨fun pins s σ H Q I h => by
 refine Call_ (ld_blt I hg hm boot_len (callWith_builtin1 (args_cons (Call_ (ld_blt I hg2 hm2 boot_set (callWith_type1 (args_cons (thn (ha.run pins s σ H _ I h) ?_) na) na rfl))) rfl) rfl rfl))
 rintro v s1 ⟨x, H1, I1, r1, l, es, rfl, hq, ht, hz, q1⟩
 cases r1
 obtain ⟨its, rv, pl, _⟩ := I1.list hq
 have ei := refs_at rv
 subst ei
 have tp : ∀ e ∈ es, IsK X.prog X.w s1.heap e.2 e.1 ∧ e.1 < s1.heap.objs.size := fun e he => by
  obtain ⟨us, ru, tu, _⟩ := I1.tuple (ht e he)
  obtain ⟨o, g, c, n, d⟩ := tu
  exact ⟨⟨o, us.toArray, n, g, c, d, by simpa using items_are ru⟩, Heap.lt_size g⟩
 have hn : ((es.map (·.1)).map Value.ref).toArray.size = es.length := by simp
 refine args_nil (call_setL (items := ((es.map (·.1)).map Value.ref).toArray) (I1.ok.hd hc) pl.isList (PhM X.prog X.w s1.heap.objs.size s1.heap.objs.size es) ?_ ?_ ?_ ?_)
 ·intro led h g k
  refine ⟨fun e he => ?_, [], #[], 0, _, ⟨⟨_, g, ⟨rfl, rfl, rfl⟩, rfl⟩, rfl, ⟨List.Pairwise.nil, rfl, rfl, .inl rfl, fun x hx => (by cases hx), fun i h j hi => (by simp at hi)⟩, List.nodup_nil, fun p hp => (by cases hp), rfl, Nat.zero_le _⟩, fun p hp => (by cases hp), fun k => by simp [onceT], by simp [onceT]⟩
  obtain ⟨⟨o, us, n, g1, c, d, it⟩, lt⟩ := tp e he
  exact ⟨⟨o, us, n, k _ _ g1, c, d, it⟩, lt⟩
 ·rintro i h h' ⟨tup, L, e1, ep, t, R, sub, mem, len⟩ k
  have keep : ∀ e ∈ es, IsK X.prog X.w h' e.2 e.1 := fun e he => by
   obtain ⟨⟨o, us, n, g1, c, d, it⟩, lt⟩ := tup e he
   exact ⟨o, us, n, k _ _ (Nat.ne_of_lt (Nat.lt_succ_of_lt lt)) g1, c, d, it⟩
  obtain ⟨o, ho, r⟩ := R.ob
  exact ⟨fun e he => ⟨keep e he, (tup e he).2⟩, L, e1, ep, t, ⟨⟨o, k _ _ (Nat.ne_of_lt Ygd) ho, r⟩, R.rows, R.tab, R.nd, fun p hp => keep p (sub p hp), R.m7, R.few⟩, sub, mem, len⟩
 ·intro A' i v s2 Q2 E2 hA hAu hv ph k
  have hi : i < es.length := by
   have := (Array.getElem?_eq_some_iff.mp hv).1
   rwa [hn] at this
  obtain ⟨tup, L, e1, ep, t, R, sub, mem, len⟩ := ph
  have ev : v = .ref es[i].1 := by
   have e3 : ((es.map (·.1)).map Value.ref)[i]? = some v := by simpa using hv
   rw [List.getElem?_map, List.getElem?_map, List.getElem?_eq_getElem hi] at e3
   exact (Option.some.inj e3).symm
  subst ev
  have me : es[i] ∈ es := List.getElem_mem hi
  have tk : (es.map (·.2)).take (i + 1) = (es.map (·.2)).take i ++ [es[i].2] := by
   rw [List.take_succ, List.getElem?_map, List.getElem?_eq_getElem hi]
   rfl
  have fw : L.length < 4 := by
   have h1 := onceT_le ((es.map (·.2)).take i) []
   have h2 : ((es.map (·.2)).take i).length ≤ i := by rw [List.length_take]; omega
   rw [len]
   simp only [List.length_nil] at h1
   unfold onceT
   omega
  have hu' : A'.units < cLine := by omega
  unfold setAdd
  refine wpAny_holding (wpAny_bind (wpAny_pyHash_tuple (knd := mixKind X.prog X.w) hu' (tup _ me).1 ?_))
  refine add_in (s := { s2 with toks := s2.toks + (es[i].2.length + 1) }) (L := L) R (tup _ me).1 hu' fw fun b h' L' es' ep' t' sb R' same more => ?_
  have keep : ∀ e ∈ es, IsK X.prog X.w h' e.2 e.1 := fun e he => by
   obtain ⟨o, ho, _, hd⟩ := R.ob
   exact isK_but (tup e he).1 ho hd sb
  refine k b h' _ sb (Nat.le_add_right _ _) ⟨fun e he => ⟨keep e he, (tup e he).2⟩, L', es', ep', t', R', ?_⟩
  by_cases hm : es[i].2 ∈ L.map (·.2)
  ·have eL := same hm
   subst eL
   have hm2 := (mem _).mp hm
   rw [tk, onceT_snoc, if_pos (memT_iff.mpr hm2)]
   exact ⟨sub, mem, len⟩
  ·have pm := more hm
   have hm2 : ¬ es[i].2 ∈ onceT ((es.map (·.2)).take i) := fun z => hm ((mem _).mpr z)
   rw [tk, onceT_snoc, if_neg fun z => hm2 (memT_iff.mp z)]
   refine ⟨fun p hp => ?_, fun kk => ?_, by rw [pm.length_eq, List.length_cons, len, List.length_append]; rfl⟩
   ·rcases List.mem_cons.mp (pm.mem_iff.mp hp) with rfl | hp
    ·exact me
    ·exact sub p hp
   ·rw [(pm.map (·.2)).mem_iff, List.map_cons, List.mem_cons, List.mem_append, List.mem_singleton, mem]
    exact Or.comm
 ·intro h' tk ph k
  have I2 : Inv X pins σ H1 { s1 with heap := h', toks := tk } := I1.kept k
  obtain ⟨_, L, e1, ep, t, R, _, _, len⟩ := ph
  obtain ⟨o, ho, hex, hd⟩ := R.ob
  have sz := SetM.size (s := { s1 with heap := h', toks := tk }) R
  have fw := R.few
  rw [hn] at len
  rw [List.take_of_length_le Yae] at len
  exact args_nil (call_len_set ho hex hd (SetM.fits (s := { s1 with heap := h', toks := tk }) R) Yc ⟨.int (((onceT (es.map (·.2))).length : Nat) : Int), H1, I2.tok _, ⟨_, by rw [sz, len]⟩, q1⟩)⟩
end
def tupsT : List T → Option (List (List Key))
 | [] => some []
 | .tup xs :: r => match keysT xs, tupsT r with
  | some k, some ks => some (k :: ks)
  | _, _ => none
 | _ => none
/-- len(set(tuples)) -/
def mLenSetT (F : M W) : M W := fun eta hp => (F eta hp).bind fun w h => match w with
 | .t (.lst ts) => match tupsT ts with
  | some ks => if ks.length ≤ 4 then .ok (.t (.int (((onceT ks).length : Nat) : Int))) h else .bad
  | none => .bad
 | _ => .bad
section
variable {X : Cx} {Wx : WX} {a : Expr} {F : M W} {p p2 q pos : Pos}
theorem tups_rf {K : PySem.W.Frag} {fz : Addr → Prop} {H : Hp} : ∀ {ts : List T} {vs : List V} {ks : List (List Key)}, tupsT ts = some ks → RfL K fz H ts vs → ∃ es : List Yen, vs = (es.map (·.1)).map V.ref ∧ es.map (·.2) = ks ∧ ∀ e ∈ es, SqT K H e.1 (e.2.map kV)
 | [], vs, ks, h, r => by
  simp only [tupsT, Option.some.injEq] at h
  simp only [RfL] at r
  exact ⟨[], r, h, fun e he => by simp at he⟩
 | t :: ts, vs, ks, h, r => by
  unfold tupsT at h
  split at h
  ·rename_i e; cases e
  ·rename_i xs r' e
   cases e
   split at h
   ·rename_i k ks' h1 h2
    cases h
    simp only [RfL, Rf] at r
    obtain ⟨v, r', rfl, ⟨b, us, rfl, ft, l⟩, rr⟩ := r
    obtain ⟨es, e1, e2, e3⟩ := tups_rf h2 rr
    have eu := keys_rf h1 l
    subst eu
    refine ⟨(b, k) :: es, by rw [e1]; rfl, by rw [← e2]; rfl, fun e he => ?_⟩
    rcases List.mem_cons.mp he with rfl | he
    ·exact ft.sq
    ·exact e3 e he
   ·cases h
  ·cases h
theorem ie_lenSetT (hc : X.calm = true) (hu : X.A.units + 64 < cLine) (hm : X.mg "len" = none) (hm2 : X.mg "set" = none) (ha : IE X Wx a F) (hg : Gl X "len" := by rfl) (hg2 : Gl X "set" := by rfl)
  (na : starEach [a] X.env = (false, eval a X.env) :: starEach [] X.env := by rfl) : IE X Wx Ya1 (mLenSetT F) :=
 PE.imp (pe_lenSetM hc hu hg hm hg2 hm2 ha na) fun σ H Q h =>
  tM.bind1 (R := fun (x : V) (H1 : Hp) => ∃ (l : Addr) (es : List Yen), x = .ref l ∧ SqL X.K H1 l ((es.map fun e : Addr × List Key => e.1).map V.ref) ∧ (∀ e ∈ es, SqT X.K H1 e.1 (e.2.map kV)) ∧ es.length ≤ 4 ∧ Q (.int (((onceT (es.map fun e : Addr × List Key => e.2)).length : Nat) : Int)) H1)
   (k := fun (w : W) _ h => match w with | .t (.lst ts) => (match tupsT ts with | some ks => (if ks.length ≤ 4 then .ok (.t (.int (((onceT ks).length : Nat) : Int))) h else .bad : Res W) | none => .bad) | _ => .bad) h fun s eta w v R1 S1 f1 g => by
   split at g
   ·rename_i ts
    split at g
    ·rename_i ks hk
     split at g
     ·rename_i hz
      simp only [Rw, Rf] at f1
      obtain ⟨b, vs, rfl, fl, l⟩ := f1
      obtain ⟨es, e1, e2, e3⟩ := tups_rf hk l
      subst e1
      refine ⟨b, es, rfl, .inl (.inl fl.2), e3, ?_, ?_⟩
      ·rw [← e2, List.length_map] at hz
       exact hz
      ·rw [e2]
       exact g _ s rfl Yh R1 Yg
     ·exact g.elim
    ·exact g.elim
   ·exact g.elim
end
end Mir
namespace Mir
open PySem PySem.Spec L2
open PyProof.Rows hiding St
end Mir
namespace Mir
open PySem PySem.Spec L2
open PyProof.Rows hiding St
def slL (a : W) (lo hi : Option Int) (hp : IH) : Res W := match zdj hp a with
 | some ws => .ok Ycn (hp ++ [some (.lst (cutL ws lo hi))])
 | none => .bad
def mSlL (Fa : M W) (Fl Fh : MO) : M W := fun eta hp => (Fa eta hp).bind fun a h1 => (Fl eta h1).bind fun l h2 => (Fh eta h2).bind fun h h3 => slL a l h h3
end Mir
namespace Mir
open PySem PySem.Spec L2
open PyProof.Rows hiding St
end Mir
namespace Mir
open PySem PySem.Spec L2
open PyProof.Rows hiding St
end Mir
namespace Mir
open PySem PySem.Spec L2
open PyProof.Rows hiding St
mutual
def noLst : T → Bool
 | .lst _ => false
 | .scr _ => false
 | .exc _ _ _ => false
 | .tup xs => zc5 xs
 | .pr xs => zc5 xs
 | .dic _ xs => zc5 xs
 | .dit _ xs => zc5 xs
 | .ins _ _ xs => zc5 xs
 | .non => true
 | .bl _ => true
 | .int _ => true
 | .str _ => true
 | .ty _ => true
 | .cls _ => true
def zc5 : List T → Bool
 | [] => true
 | x :: xs => noLst x && zc5 xs
end
/-- the lists that live -/
def LiveL (s : S4) (a : Addr) : Prop := ∃ (i : Nat) (ws : List W), getL s.hp i = some ws ∧ s.rho[i]? = some a
/-- all of them as trees -/
def S4.lent (s : S4) : S4 := ⟨s.rho, fun a => s.fz a ∨ LiveL s a, s.hp.map fun _ => none, s.H⟩
/-- and living again -/
def S4.back (s s2 : S4) : S4 := ⟨s.rho, fun a => s2.fz a ∧ ¬ Live s a, s.hp, s2.H⟩
section
variable {K : PySem.W.Frag} {ω : World} {s s2 : S4}
theorem zc0 (a : Addr) : ¬ Live s.lent a := by
 rintro ⟨i, c, h, _⟩
 simp only [S4.lent, List.getElem?_map] at h
 cases q : s.hp[i]? <;> simp [q] at h
theorem LiveL.live {a : Addr} (h : LiveL s a) : Live s a := by
 obtain ⟨i, ws, g, r⟩ := h
 exact ⟨i, _, zbo g, r⟩
theorem LiveL.H (R : Rel K ω s) {a : Addr} (h : LiveL s a) : ∃ vs, s.H a = some (.lst vs) := by
 obtain ⟨i, ws, g, r⟩ := h
 obtain ⟨vs, e, _⟩ := R.cell i _ a (zbo g) r
 exact ⟨vs, e⟩
theorem Live.some (R : Rel K ω s) {a : Addr} (h : Live s a) : s.H a ≠ none := by
 obtain ⟨i, c, g, r⟩ := h
 exact R.trk a (List.mem_of_getElem? r)
theorem aft_lent : Aft s s.lent := ⟨⟨[], by simp [S4.lent], by simp⟩, fun _ h => .inl h, fun _ _ h _ => h, fun a h => h.elim .inl fun h => .inr (.inr h.live), fun a h => (zc0 a h).elim, fun _ h => h⟩
theorem rel_lent (R : Rel K ω s) : Rel K ω s.lent := ⟨by simp [S4.lent, R.len], R.nd, R.trk, fun a h => h.elim (R.ftrk a) fun h => Live.some R h.live, fun a h => (zc0 a h).elim, fun i c a h r => (zc0 a ⟨i, c, h, r⟩).elim⟩
theorem not_live (R : Rel K ω s) (A : Aft s.lent s2) {a : Addr} (h : s2.fz a) (hn : ∀ vs, s2.H a ≠ some (.lst vs)) : ¬ Live s a := by
 intro l
 rcases A.fnew a h with q | q | q
 ·rcases q with q | q
  ·exact R.fz a l q
  ·obtain ⟨vs, e⟩ := LiveL.H R q
   exact hn vs (A.keep a _ e (zc0 a))
 ·exact Live.some R l q
 ·exact zc0 a q
mutual
theorem Rf.back (R : Rel K ω s) (A : Aft s.lent s2) : ∀ (x : T) (v : V), noLst x = true → Rf K s2.fz s2.H x v → Rf K (s.back s2).fz (s.back s2).H x v
 | .non, _, _, h => by simpa [Rf] using h
 | .bl _, _, _, h => by simpa [Rf] using h
 | .int _, _, _, h => by simpa [Rf] using h
 | .str _, _, _, h => by simpa [Rf] using h
 | .ty _, _, _, h => by simpa [Rf] using h
 | .cls _, _, _, h => by simpa [Rf] using h
 | .exc _ _ _, _, n, _ => by simp [noLst] at n
 | .lst _, _, n, _ => by simp [noLst] at n
 | .scr _, _, n, _ => by simp [noLst] at n
 | .tup xs, v, n, h => by
  simp only [Rf] at h ⊢
  obtain ⟨a, vs, e, t, l⟩ := h
  refine ⟨a, vs, e, ?_, RfL.back R A xs vs Yeg l⟩
  rcases t with ⟨f, o, q, d⟩ | t
  ·exact .inl ⟨⟨f, not_live R A f fun vs z => by rw [q] at z; cases z⟩, o, q, d⟩
  ·exact .inr t
 | .pr xs, v, n, h => by
  simp only [Rf] at h ⊢
  obtain ⟨a, vs, e, ⟨f, q⟩, l⟩ := h
  exact ⟨a, vs, e, ⟨⟨f, not_live R A f fun vs z => by rw [q] at z; cases z⟩, q⟩, RfL.back R A xs vs Yeg l⟩
 | .dic ks xs, v, n, h => by
  simp only [Rf] at h ⊢
  obtain ⟨a, vs, e, ⟨f, o, q⟩, hl, l⟩ := h
  exact ⟨a, vs, e, ⟨⟨f, not_live R A f fun vs z => by rw [q] at z; cases z⟩, o, q⟩, hl, RfL.back R A xs vs Yeg l⟩
 | .dit ks xs, v, n, h => by
  simp only [Rf] at h ⊢
  obtain ⟨a, vs, e, ⟨f, q⟩, hl, l⟩ := h
  exact ⟨a, vs, e, ⟨⟨f, not_live R A f fun vs z => by rw [q] at z; cases z⟩, q⟩, hl, RfL.back R A xs vs Yeg l⟩
 | .ins c ns xs, v, n, h => by
  simp only [Rf] at h ⊢
  obtain ⟨a, C, vs, e, cn, ⟨f, dx, q⟩, hl, l⟩ := h
  exact ⟨a, C, vs, e, cn, ⟨⟨f, not_live R A f fun vs z => by rw [q] at z; cases z⟩, dx, q⟩, hl, RfL.back R A xs vs Yeg l⟩
theorem RfL.back (R : Rel K ω s) (A : Aft s.lent s2) : ∀ (xs : List T) (vs : List V), zc5 xs = true → RfL K s2.fz s2.H xs vs → RfL K (s.back s2).fz (s.back s2).H xs vs
 | [], _, _, h => by simpa [RfL] using h
 | x :: xs, vs, n, h => by
  simp only [zc5, Bool.and_eq_true] at n
  simp only [RfL] at h ⊢
  obtain ⟨v, r, e, a, b⟩ := h
  exact ⟨v, r, e, Rf.back R A x v n.1 a, RfL.back R A xs r n.2 b⟩
end
theorem aft_back (R : Rel K ω s) (A : Aft s.lent s2) : Aft s (s.back s2) := by
 refine ⟨⟨[], by simp [S4.back], by simp⟩, fun a h => ⟨A.fz a (.inl h), fun l => R.fz a l h⟩, fun a o h _ => A.keep a o h (zc0 a), fun a h => ?_, fun a h => .inl h, fun a h => A.trk a h⟩
 rcases A.fnew a h.1 with q | q | q
 ·exact q.elim .inl fun q => .inr (.inr q.live)
 ·exact .inr (.inl q)
 ·exact (zc0 a q).elim
theorem rel_back (R : Rel K ω s) (A : Aft s.lent s2) (R2 : Rel K ω s2) : Rel K ω (s.back s2) := by
 refine ⟨R.len, R.nd, fun a h => A.trk a (R.trk a h), fun a h => R2.ftrk a h.1, fun a l h => h.2 l, fun i c a h r => ?_⟩
 have e : s2.H a = s.H a := by
  cases q : s.H a with
  | none => exact absurd q (R.trk a (List.mem_of_getElem? r))
  | some o => exact A.keep a o q (zc0 a)
 show CellOk K ω (s.back s2) a c (s2.H a)
 rw [e]
 exact (R.cell i c a h r).aft (aft_back R A) R
end
end Mir
namespace Mir
open PySem PySem.Spec L2
open PyProof.Rows hiding St
end Mir
namespace Mir
open PySem PySem.Spec L2
open PyProof.Rows hiding St
section
variable {P : Program} {w : World}
/-- the set of the texts ks at a; its table can be walked -/
def SetS (P : Program) (w : World) (h : Heap) (a : Addr) (ks : List Str) : Prop :=
 ks.Nodup ∧ ∃ D : PySem.Froz.SD, h.get? a = some (PySem.Froz.sObj "set" D) ∧ PySem.Froz.TxOk P w D ks ∧ Ris D.2.2.place.toList ∧ (w.params.followText "set-order" = true ∨ D.2.2.led = true)
theorem SetS.at {h h' : Heap} {a : Addr} {ks : List Str} (z : SetS P w h a ks) (k : ∀ o, h.get? a = some o → h'.get? a = some o) : SetS P w h' a ks := by
 obtain ⟨nd, D, g, r⟩ := z
 exact ⟨nd, D, k _ g, r⟩
variable {A : Around} {E : Value → Shared → Prop} {s : Shared}
end
end Mir
namespace Mir
open PySem PySem.Spec L2
open PyProof.Rows hiding St
end Mir
namespace Mir
open PySem PySem.Spec L2
open PyProof.Rows hiding St
end Mir
namespace Mir
open PySem PySem.Spec L2
open PyProof.Rows hiding St
abbrev bare (kvs : List Ye1) : List Yei := kvs.map fun p => (Str.empty, p.2)
section
variable {K : PySem.W.Frag} {ω : World}
theorem RwK.bare {s : S4} : ∀ {ks : List (Key × W)} {vs : List (Key × V)}, RwK K s ks vs → RwF K s (bare ks) (vs.map fun p => (Str.empty, p.2))
 | [], _, h => by rw [show _ = [] from h]; rfl
 | x :: ks, vs, h => by
  obtain ⟨v, r, rfl, a, b⟩ := h
  exact ⟨v, _, rfl, a, RwK.bare b⟩
end
end Mir
namespace Mir
open PySem PySem.Spec L2
open PyProof.Rows hiding St
end Mir
namespace Mir
open PySem PySem.Spec L2
open PyProof.Rows hiding St
def getT (hp : IH) (i : Nat) : Option (List (T × W)) := match hp[i]? with
 | some (some (.dit kvs)) => some kvs
 | _ => none
def valT (kvs : List (T × W)) (k : NestedKey) : Option W := (kvs.find? fun kv => decide (nkT kv.1 = some k)).map (·.2)
def putT (kvs : List (T × W)) (t : T) (k : NestedKey) (w : W) : List (T × W) :=
 if (kvs.any fun kv => decide (nkT kv.1 = some k)) = true then kvs.map (fun kv => if nkT kv.1 = some k then (kv.1, w) else kv) else kvs ++ [(t, w)]
theorem getT_eq {hp : IH} {i : Nat} {ws : List (T × W)} (h : getT hp i = some ws) : hp[i]? = some (some (.dit ws)) := by
 unfold getT at h
 split at h
 ·rename_i kvs e
  simp only [Option.some.injEq] at h
  rw [e, h]
 ·cases h
/-- what the entries hold at a key -/
def valN (xs : List Yaa) (k : NestedKey) : Option V := (xs.find? fun x => decide (x.1 = k)).map (·.2.2)
def putN (xs : List Yaa) (k : NestedKey) (a : Addr) (v : V) : List Yaa :=
 if (xs.find? fun x => decide (x.1 = k)).isSome = true then xs.map (fun x => if x.1 = k then (x.1, x.2.1, v) else x) else xs ++ [(k, a, v)]
section
variable {K : PySem.W.Frag} {ω : World} {s : S4}
theorem RwD.length : ∀ {ws : List (T × W)} {vs : List (NestedKey × Addr × V)}, RwD K s ws vs → ws.length = vs.length
 | [], _, r => by rw [show _ = [] from r]; rfl
 | x :: ws, _, r => by
  obtain ⟨k, b, v, r', rfl, _, _, _, _, h⟩ := r
  simp [RwD.length h]
theorem RwD.val (k : NestedKey) : ∀ {ws : List (T × W)} {vs : List (NestedKey × Addr × V)} {w : W}, RwD K s ws vs → valT ws k = some w → ∃ v, valN vs k = some v ∧ Rw K s w v
 | [], _, _, _, h => by simp [valT] at h
 | x :: ws, _, w, r, h => by
  obtain ⟨k', b, v, r', rfl, h1, h2, h3, h4, h5⟩ := r
  by_cases q : k' = k
  ·subst q
   have : x.2 = w := by simpa [valT, List.find?_cons, h1] using h
   exact ⟨v, by simp [valN, List.find?_cons], this ▸ h4⟩
  ·have h' : valT ws k = some w := by simpa [valT, List.find?_cons, h1, q] using h
   obtain ⟨u, e1, e2⟩ := RwD.val k h5 h'
   exact ⟨u, by simpa [valN, List.find?_cons, q] using e1, e2⟩
theorem RwD.no (k : NestedKey) : ∀ {ws : List (T × W)} {vs : List (NestedKey × Addr × V)}, RwD K s ws vs → valT ws k = none → valN vs k = none
 | [], _, r, _ => by rw [show _ = [] from r]; rfl
 | x :: ws, _, r, h => by
  obtain ⟨k', b, v, r', rfl, h1, h2, h3, h4, h5⟩ := r
  by_cases q : k' = k
  ·subst q
   simp [valT, List.find?_cons, h1] at h
  ·have h' : valT ws k = none := by simpa [valT, List.find?_cons, h1, q] using h
   have := RwD.no k h5 h'
   simpa [valN, List.find?_cons, q] using this
theorem RwD.any (k : NestedKey) : ∀ {ws : List (T × W)} {vs : List (NestedKey × Addr × V)}, RwD K s ws vs → (ws.any fun kv => decide (nkT kv.1 = some k)) = (vs.find? fun x => decide (x.1 = k)).isSome
 | [], _, r => by rw [show _ = [] from r]; rfl
 | x :: ws, _, r => by
  obtain ⟨k', b, v, r', rfl, h1, h2, h3, h4, h5⟩ := r
  by_cases q : k' = k
  ·subst q
   simp [h1, List.find?_cons]
  ·simp [h1, List.find?_cons, q, RwD.any k h5]
theorem RwD.mapPut (k : NestedKey) {w : W} {v : V} (rw_ : Rw K s w v) : ∀ {ws : List (T × W)} {vs : List (NestedKey × Addr × V)}, RwD K s ws vs → RwD K s (ws.map fun kv => if nkT kv.1 = some k then (kv.1, w) else kv) (vs.map fun x => if x.1 = k then (x.1, x.2.1, v) else x)
 | [], _, r => by rw [show _ = [] from r]; rfl
 | x :: ws, _, r => by
  obtain ⟨k', b, u, r', rfl, h1, h2, h3, h4, h5⟩ := r
  have ih := RwD.mapPut k rw_ h5
  simp only [List.map_cons, h1, Option.some.injEq]
  by_cases q : k' = k
  ·rw [if_pos q, if_pos q]
   exact ⟨k', b, v, _, rfl, h1, h2, h3, rw_, ih⟩
  ·rw [if_neg q, if_neg q]
   exact ⟨k', b, u, _, rfl, h1, h2, h3, h4, ih⟩
theorem RwD.snoc {t : T} {k : NestedKey} {b : Addr} {w : W} {v : V} (h1 : nkT t = some k) (h2 : k.depth ≤ 8) (h3 : Rf K s.fz s.H t (.ref b)) (h4 : Rw K s w v) : ∀ {ws : List (T × W)} {vs : List (NestedKey × Addr × V)}, RwD K s ws vs → RwD K s (ws ++ [(t, w)]) (vs ++ [(k, b, v)])
 | [], _, r => by
  rw [show _ = [] from r]
  exact ⟨k, b, v, [], rfl, h1, h2, h3, h4, rfl⟩
 | x :: ws, _, r => by
  obtain ⟨k', b', u, r', rfl, g1, g2, g3, g4, g5⟩ := r
  exact ⟨k', b', u, _, rfl, g1, g2, g3, g4, RwD.snoc h1 h2 h3 h4 g5⟩
theorem RwD.put {t : T} {k : NestedKey} {b : Addr} {w : W} {v : V} (h1 : nkT t = some k) (h2 : k.depth ≤ 8) (h3 : Rf K s.fz s.H t (.ref b)) (h4 : Rw K s w v) {ws : List (T × W)} {vs : List Yaa} (r : RwD K s ws vs) : RwD K s (putT ws t k w) (putN vs k b v) := by
 unfold putT putN
 rw [r.any k]
 split
 ·exact r.mapPut k h4
 ·exact r.snoc h1 h2 h3 h4
/-- where a live dict lies -/
theorem Rel.dit (R : Rel K ω s) {i : Nat} {v : V} {ws : List (T × W)} (g : getT s.hp i = some ws) (r : Rw K s (.r i) v) : ∃ a xs, v = .ref a ∧ s.rho[i]? = some a ∧ s.H a = some (DitO ω a xs) ∧ RwD K s ws xs ∧ ¬ s.fz a := by
 obtain ⟨a, e1, e2⟩ := r
 obtain ⟨xs, h1, h2⟩ := R.cell i _ a (getT_eq g) e1
 exact ⟨a, xs, e2, e1, h1, h2, R.fz a ⟨i, _, getT_eq g, e1⟩⟩
end
abbrev RelN : List Yaa → List Ya7 → Prop := Paired fun (p : NestedKey × Addr × V) (q : NestedKey × Addr × Value) => p.1 = q.1 ∧ p.2.1 = q.2.1 ∧ RelV p.2.2 q.2.2
theorem RelN.len {xs : List Yaa} {ys : List Ya7} (r : RelN xs ys) : xs.length = ys.length := Paired.length r
theorem RelN.val (k : NestedKey) {xs : List Yaa} {ys : List Ya7} (r : RelN xs ys) : RelO (valN xs k) ((atKey ys k).map (·.2)) := by
 induction r with
 | nil => exact True.intro
 | @cons p q ps qs h t ih =>
  obtain ⟨h1, h2, h3⟩ := h
  by_cases e : q.1 = k
  ·have e' : p.1 = k := h1.trans e
   simp only [valN, atKey, List.find?_cons, e, e', decide_true, Option.map_some]
   exact h3
  ·have e' : ¬ p.1 = k := fun z => e (h1 ▸ z)
   simp only [valN, atKey, List.find?_cons, e, e', decide_false]
   exact ih
theorem RelN.mapPut (k : NestedKey) {v : V} {u : Value} (rv : RelV v u) {xs : List Yaa} {ys : List Ya7} (r : RelN xs ys) : RelN (xs.map fun x => if x.1 = k then (x.1, x.2.1, v) else x) (ys.map (putAt k u)) := by
 induction r with
 | nil => exact .nil
 | @cons p q ps qs h t ih =>
  obtain ⟨h1, h2, h3⟩ := h
  simp only [List.map_cons]
  refine .cons ?_ ih
  unfold putAt
  by_cases e : q.1 = k
  ·rw [if_pos e, if_pos (h1.trans e)]
   exact ⟨h1, h2, rv⟩
  ·rw [if_neg e, if_neg (fun z => e (h1 ▸ z))]
   exact ⟨h1, h2, h3⟩
theorem RelN.snoc {k : NestedKey} {a : Addr} {v : V} {u : Value} (rv : RelV v u) {xs : List Yaa} {ys : List Ya7} (r : RelN xs ys) : RelN (xs ++ [(k, a, v)]) (ys ++ [(k, a, u)]) := by
 induction r with
 | nil => exact .cons ⟨rfl, rfl, rv⟩ .nil
 | cons h t ih => exact .cons h ih
theorem RelN.some (k : NestedKey) {xs : List Yaa} {ys : List Ya7} (r : RelN xs ys) : (xs.find? fun x => decide (x.1 = k)).isSome = (atKey ys k).isSome := by
 induction r with
 | nil => rfl
 | @cons p q ps qs h t ih =>
  by_cases e : q.1 = k
  ·have e' : p.1 = k := h.1.trans e
   simp [atKey, List.find?_cons, e, e']
  ·have e' : ¬ p.1 = k := fun z => e (h.1 ▸ z)
   simp only [atKey, List.find?_cons, e, e', decide_false] at ih ⊢
   exact ih
theorem RelN.put {k : NestedKey} {a : Addr} {v : V} {u : Value} (rv : RelV v u) {xs : List Yaa} {ys : List Ya7} (r : RelN xs ys) : RelN (putN xs k a v) (storedH ys k a u) := by
 unfold putN storedH
 rw [r.some k]
 split
 ·exact r.mapPut k rv
 ·exact r.snoc rv
end Mir
namespace Mir
open PySem PySem.Spec L2
open PyProof.Rows hiding St
section
variable {K : PySem.W.Frag} {ω : World} {s : S4}
theorem RwD.isSome (k : NestedKey) {ws : List (T × W)} {vs : List Yaa} (r : RwD K s ws vs) : (valN vs k).isSome = (valT ws k).isSome := by
 cases h : valT ws k with
 | none => rw [r.no k h]; rfl
 | some w => obtain ⟨v, e, _⟩ := r.val k h; rw [e]; rfl
end
end Mir
namespace Mir
open PySem PySem.Spec L2
open PyProof.Rows hiding St
end Mir
namespace Mir
open PySem PySem.Spec L2
open PyProof.Rows hiding St
section
variable {X : Cx} {k : Nat} {f C : Addr} {fd : FuncData} {ps : List Str} {sp : Sp} {E : XK}
theorem str_ins {CX : CXT} {pins : List Yfb} {σ : L2.St} {H : Hp} {s : Shared} {a dx : Addr} {fs : List Yc2} {Q : VK} (I : Inv X pins σ H s) (ea : H a = some Yd3) (hm : Meth X.K C "__str__" f)
  (F : FnG X.prog X.w X.K X.mg X.base CX k f fd ps sp) (hr : Room (k + 2) X.A) (hgd : X.A.guards = some []) (hb : Binds X.K fd ps []) (hx : Passes CX X.nox E)
  (h : sp [.ref a] H (fun z H' => ∃ t : Str, z = .str t ∧ Q z H') E) {E' : Value → Shared → Prop} : wpAny Ybc X.A (call Ycf [.ref a]) Yej E' s := by
 obtain ⟨mA, O, _, _, _, _⟩ := ins_get I.hok ea
 obtain ⟨od, J, _⟩ := O.look
 have el : ([Value.ref a] ++ []).length = ps.length := F.len _ _ _ _ h
 refine PySem.W.kso_call (K := X.K) (by have := hr.units; show X.A.units + 1 + 1 < cLine; omega) I.kIn J hm.at_ hm.fn ?_
 refine wpAny_call (codeAny_mono (F.run X.A.in1.in1 X.stack s H ⟨[.ref a], []⟩ [.ref a] [.ref a] _ E hr.in1.in1 hgd I.env0.in1.in1 (hb s [.ref a] I.kIn el) (.cons rfl .nil) h) ?_)
 rintro (er | fl) s' q
 ·exact (hx pins σ H s er s' (I.wish _) q).elim
 ·cases fl with
  | ret u =>
   obtain ⟨v, H', I3, rv, t, ev, q3⟩ := I.after q
   subst ev
   obtain ⟨tk, e⟩ := (show ∃ tk, u = Value.str t tk from rv)
   cases e
   exact ⟨V.str t, H', I3, ⟨_, rfl⟩, q3⟩
  | next => exact (show False from q).elim
  | brk => exact (show False from q).elim
  | cont => exact (show False from q).elim
end
/-- str(o): an alternative for each class -/
structure StrAlt (X : Cx) (c : Str) (m : OpN) : Prop where
 ex : ∃ (C f : Addr) (fd : FuncData) (ps : List Str) (k n : Nat), CN X.K c C ∧ Meth X.K C "__str__" f ∧ FnG X.prog X.w X.K X.mg X.base Yb7 k f fd ps Yc3 ∧ Room (k + 2) X.A ∧ Binds X.K fd ps [] ∧ ∀ ws hp, ws.length ≠ n → m ws hp = .bad
theorem StrAlt.mk' {X : Cx} {c : Str} {m : OpN} {C f : Addr} {fd : FuncData} {ps : List Str} {k n : Nat} (cn : CN X.K c C) (hm : Meth X.K C "__str__" f) (F : FnG X.prog X.w X.K X.mg X.base Yb7 k f fd ps Yc3) (hr : Room (k + 2) X.A) (hb : Binds X.K fd ps []) (hl : ∀ ws hp, ws.length ≠ n → m ws hp = .bad) : StrAlt X c m :=
 ⟨C, f, fd, ps, k, n, cn, hm, F, hr, hb, hl⟩
def AltsOk (X : Cx) : List Ya0 → Prop
 | [] => True
 | p :: r => StrAlt X p.1 p.2 ∧ AltsOk X r
def zcg (alts : List Ya0) : OpN := fun ws hp => match ws with
 | [o] => (match insOf hp o with
  | some (c, _) => (match alts.find? fun p => decide (p.1 = c) with
   | some p => (noEr (p.2 [o] hp)).bind fun w h2 => (match w with | .t (.str t) => .ok (.t (.str t)) h2 | _ => .bad)
   | none => .bad)
  | none => .bad)
 | _ => .bad
theorem AltsOk.get {X : Cx} : ∀ {alts : List (Str × OpN)} {p : Str × OpN}, AltsOk X alts → p ∈ alts → StrAlt X p.1 p.2
 | [], _, _, h => nomatch h
 | q :: r, p, ok, h => by
  rcases List.mem_cons.mp h with rfl | h
  ·exact ok.1
  ·exact AltsOk.get ok.2 h
def rStrO (X : Cx) (alts : List Ya0) : List V → Hp → VK → Prop := fun vs H Q => ∃ (a C dx : Addr) (fs : List Yc2) (p : Str × OpN) (n : Nat), vs = [.ref a] ∧ H a = some Yd3 ∧ CN X.K p.1 C ∧ p ∈ alts ∧
 ∀ n, (∀ ws hp, ws.length ≠ n → p.2 ws hp = .bad) → spM X.K X.w p.2 n [.ref a] H (fun z H' => ∃ t : Str, z = .str t ∧ Q z H') E0
theorem zd2 {X : Cx} {alts : List Ya0} (ok : AltsOk X alts) (hgd : X.A.guards = some []) : CallR X Ycf (rStrO X alts) := by
 intro pins s σ H xs us Q I r h
 obtain ⟨a, C, dx, fs, p, _, rfl, ea, cn, hp, hs⟩ := h
 rw [Vals.ref1 r]
 obtain ⟨C', f, fd, ps, k, n, cn', hm, F, hr, hb, hl⟩ := (ok.get hp).ex
 cases cn.inj cn'
 exact str_ins I ea hm F hr hgd hb Ydx (hs n hl)
theorem zd9 {X : Cx} {Wx : WX} {alts : List Ya0} : OpNOk X.K X.w Wx (zcg alts) (rStrO X alts) := by
 intro s ws xs Q R r go
 unfold zcg at go
 split at go
 ·rename_i o
  split at go
  ·rename_i c fs hi
   split at go
   ·rename_i p hf
    obtain ⟨v, rfl, rx⟩ := RwL.one r
    obtain ⟨a, C, dx, vs, rfl, hH, cn, l⟩ := ins_at R hi rx
    have e : p.1 = c := by simpa using List.find?_some hf
    refine ⟨a, C, dx, vs, p, 0, rfl, hH, e ▸ cn, List.mem_of_find?_eq_some hf, fun n hl => ?_⟩
    refine ⟨s, [o], rfl, R, ⟨.ref a, [], rfl, rx, rfl⟩, ?_, ?_⟩
    ·by_cases q : [o].length = n
     ·exact q
     ·rw [hl _ _ q] at go; exact go.elim
    ·cases hq : p.2 [o] s.hp with
     | ok b h =>
      rw [hq] at go
      intro v' s' e1 e2 e3 e4
      simp only [noEr, Res.bind] at go
      split at go
      ·rename_i t
       have ev : v' = .str t := by simpa only [Rw, Rf] using e4
       exact ⟨t, ev, go v' s' e1 e2 e3 e4⟩
      ·exact go.elim
     | er _ _ _ => rw [hq] at go; exact go.elim
     | bad => rw [hq] at go; exact go.elim
   ·exact go.elim
  ·exact go.elim
 ·exact go.elim
end Mir
namespace Mir
open PySem PySem.Spec L2
open PyProof.Rows hiding St
end Mir
namespace Mir
open PySem PySem.Spec L2
open PyProof.Rows hiding St
end Mir
namespace Mir
open PySem PySem.Spec L2
open PyProof.Rows hiding St
end Mir
namespace Mir
open PySem PySem.Spec L2
open PyProof.Rows hiding St
end Mir
namespace Mir
open PySem PySem.Spec L2
open PyProof.Rows hiding St
end Mir
namespace MirQ
open PySem PySem.Spec PyProof.Rows
open Builtin
section
variable {M : Model} {prog : Program} {w : World} {A : Around} {E : Value → Shared → Prop} {s : Shared} {K : PySem.W.Frag} {x C L f : Addr} {h₀ : Heap} {m : Str → Option Value} {ox : Obj} {od : Option Obj} {b : Value}
theorem ifBound_objNe {args : List Value} {Q : Option Value → Shared → Prop} (X : K.In s.heap) (I : PySem.W.InstAt s.heap x ox C od) (hs : PySem.W.findIn K (.ref C) "__ne__" = some (some Ybg))
  (h : wpAny M A (call Ybg (.ref x :: args)) (fun v => Q (some v)) E s) : wpAny M A (callSpecialIfBound? (.ref x) "__ne__" args) Q E s := by
 simp only [callSpecialIfBound?, bindSpecialIfBound?]
 refine wpAny_holding (wpAny_bind (wpAny_bind (wpAny_bind (I.type.here ((PySem.W.looks_findIn X hs).here ?_)))))
 refine wpAny_bind (wpAny_askSetting (wpAny_ite ?_))
 have fin : wpAny M A (call Ybg ([.ref x] ++ args) >>= fun v => pure (some v)) Q E s := wpAny_bind (wpAny_mono h (fun v s' h' => wpAny_pure h') fun _ _ h' => h')
 split
 ·exact wpAny_bind Ygw
 ·exact wpAny_tryCatch (wpAny_bind Ygw)
theorem objNe_entry_K (X : K.In s.heap) (I : PySem.W.InstAt s.heap x ox C od) (hs : PySem.W.findIn K (.ref C) "__eq__" = some Yg8) (hf : PySem.W.isFn K (.ref f) = true) (hu : A.units < cLine) {Q : Fin → Shared → Prop}
  (hcall : wpAny Y9 A (call (.ref f) [.ref x, b]) (fun v s' => ∃ r, v = .bool r ∧ Q (.done (.ret (.bool (!r)))) s') E s) :
  wpAny Y9 A (Builtin.«object.__ne__» ⟨[.ref x, b], []⟩) Q E s := by
 unfold Builtin.«object.__ne__»
 repeat (first
  | with_reducible refine wpAny_cRoomFor hu ?_
  | (refine wpAny_bind (m := callSpecialIfBound? (.ref x) (Str.ofString "__eq__") [b])
        (PySem.W.ifBound_K X I hs hf (wpAny_mono hcall (fun r s' hr => by
          obtain ⟨c, rfl, hq⟩ := hr
          repeat (first | exact hq | exact wpAny_pure hq | exact wpAny_truthy_bool hq | (refine wpAny_bind (m := truthy (.bool _)) (wpAny_truthy_bool ?_)) | wp_step)) fun _ _ e => e)))
  | wp_step)
theorem cmpNe_K {Q : Value → Shared → Prop} (hu : A.units + 1 < cLine) (Fh : Fr h₀ L s.heap m) (X₀ : K.In h₀) (I : PySem.W.InstAt s.heap x ox C od) (hb : PySem.W.Looks Y9 s.heap (typeOf b) (.ref C))
  (hne : PySem.W.findIn K (.ref C) "__ne__" = some (some Ybg)) (hm : PySem.W.mroIn K C Yek = some true)
  (hs : PySem.W.findIn K (.ref C) "__eq__" = some Yg8) (hf : PySem.W.isFn K (.ref f) = true)
  (h : wpAny Y9 A.in1 (call (.ref f) [.ref x, b]) (fun v s' => ∃ r, v = .bool r ∧ Q (.bool (!r)) s') E s) : wpAny Y9 A (richCompare .NotEq (.ref x) b) Q E s := by
 have X := X₀.keeps Fh.keep
 have one : wpAny Y9 A (tryCompare (.ref x) "__ne__" b) (fun r s' => ∃ v, r = some v ∧ Q v s') E s := by
  unfold tryCompare
  refine wpAny_bind (ifBound_objNe X I hne (wpAny_call (codeAny_call_builtin F.cmp_object.ne.plain F.cmpEntry_ne (PySem.W.check_slot F.cmpKind_ne F.cmpSplit_ne (I.type.andThen (PySem.W.looks_mroIn X hm)) (F.cmpArgs_ne _ _)
   (objNe_entry_K (A := A.in1) X I hs hf hu (wpAny_mono h (fun v s' hv => ?_) fun _ _ e => e))))))
  obtain ⟨r, rfl, hq⟩ := hv
  exact ⟨r, rfl, wpAny_pure ⟨_, rfl, hq⟩⟩
 unfold richCompare
 simp only [oneThing_ref]
 refine wpAny_holding (wpAny_bind (wpAny_cRoomFor (Nat.lt_of_succ_lt hu) ?_))
 rw [cmpInfo_NotEq]
 dsimp only
 refine wpAny_bind (I.type.here (wpAny_bind (hb.here ?_)))
 rw [show (Value.ref C != Value.ref C) = false from by simp]
 simp only [Bool.false_eq_true, if_false]
 refine wpAny_bind (wpAny_pure ?_)
 simp only [Bool.false_eq_true, if_false]
 refine wpAny_bind (wpAny_mono one (fun r s' z => ?_) fun _ _ e => e)
 obtain ⟨v, rfl, hq⟩ := z
 exact wpAny_pure hq
end
end MirQ
namespace Mir
open PySem PySem.Spec L2
open PyProof.Rows hiding St
section
variable {X : Cx} {k : Nat} {f C : Addr} {fd : FuncData} {ps : List Str} {sp : Sp} {E : XK}
theorem eq_call {CX : CXT} {A : Around} {pins : List Yfb} {σ : L2.St} {H : Hp} {s : Shared} {a c : Addr} {Q : Bool → Hp → Prop} (I : Inv X pins σ H s)
  (F : FnG X.prog X.w X.K X.mg X.base CX k f fd ps sp) (hr : Room k A) (hfr : A.frames = X.A.frames) (hgd : A.guards = some []) (hb : Binds X.K fd ps []) (hx : Passes CX X.nox E)
  (h : sp [.ref a, .ref c] H (fun z H' => ∃ t : Bool, z = .bl t ∧ Q t H') E) {E' : Value → Shared → Prop} {R : Value → Shared → Prop} (hR : ∀ (t : Bool) (H' : Hp) (s' : Shared), Inv X pins σ H' s' → Q t H' → R (.bool t) s') :
  wpAny Ybc A (call (.ref f) [.ref a, .ref c]) R E' s := by
 have el : ([Value.ref a, Value.ref c] ++ []).length = ps.length := F.len _ _ _ _ h
 have e0 : Env0 X.prog X.w X.K X.mg X.base A X.stack s H := by
  have e := I.env0
  exact ⟨by rw [hfr]; exact e.frames, e.mod, e.bs, e.bsz, e.funs, e.frf, e.hok, e.bare⟩
 refine wpAny_call (codeAny_mono (F.run A X.stack s H ⟨[.ref a, .ref c], []⟩ [.ref a, .ref c] [.ref a, .ref c] _ E hr hgd e0 (hb s [.ref a, .ref c] I.kIn el) (.cons rfl (.cons rfl .nil)) h) ?_)
 rintro (er | fl) s' q
 ·exact (hx pins σ H s er s' (I.wish _) q).elim
 ·cases fl with
  | ret u =>
   obtain ⟨v, H', I3, rv, t, ev, q3⟩ := I.after q
   subst ev
   cases rv
   exact hR t H' s' I3 q3
  | next => exact (show False from q).elim
  | brk => exact (show False from q).elim
  | cont => exact (show False from q).elim
end
/-- o == p: an alternative for each class -/
structure EqAlt (X : Cx) (c : Str) (m : OpN) : Prop where
 ex : ∃ (C f : Addr) (fd : FuncData) (ps : List Str) (k n : Nat), CN X.K c C ∧ Meth X.K C "__eq__" f ∧ FnG X.prog X.w X.K X.mg X.base Yb7 k f fd ps Yc3 ∧ Room (k + 2) X.A ∧ Binds X.K fd ps [] ∧ (∀ ws hp, ws.length ≠ n → m ws hp = .bad) ∧
  PySem.W.findIn X.K (.ref C) "__ne__" = some (some Ybg) ∧ PySem.W.mroIn X.K C Yek = some true
theorem EqAlt.mk' {X : Cx} {c : Str} {m : OpN} {C f : Addr} {fd : FuncData} {ps : List Str} {k n : Nat} (cn : CN X.K c C) (hm : Meth X.K C "__eq__" f) (F : FnG X.prog X.w X.K X.mg X.base Yb7 k f fd ps Yc3) (hr : Room (k + 2) X.A) (hb : Binds X.K fd ps []) (hl : ∀ ws hp, ws.length ≠ n → m ws hp = .bad)
  (hne : PySem.W.findIn X.K (.ref C) "__ne__" = some (some Ybg)) (ho : PySem.W.mroIn X.K C Yek = some true) : EqAlt X c m :=
 ⟨C, f, fd, ps, k, n, cn, hm, F, hr, hb, hl, hne, ho⟩
def EqAlts (X : Cx) : List Ya0 → Prop
 | [] => True
 | p :: r => EqAlt X p.1 p.2 ∧ EqAlts X r
def oEqO (neg : Bool) (alts : List Ya0) : Op2 := fun a b hp => match insOf hp a with
 | some (c, _) => (match insOf hp b with
  | some (c', _) => if c = c' then (match alts.find? fun p => decide (p.1 = c) with
   | some p => (noEr (p.2 [a, b] hp)).bind fun w h2 => (match w with | .t (.bl t) => .ok (.t (.bl (if neg then !t else t))) h2 | _ => .bad)
   | none => .bad) else .bad
  | none => .bad)
 | none => .bad
theorem EqAlts.get {X : Cx} : ∀ {alts : List (Str × OpN)} {p : Str × OpN}, EqAlts X alts → p ∈ alts → EqAlt X p.1 p.2
 | [], _, _, h => nomatch h
 | q :: r, p, ok, h => by
  rcases List.mem_cons.mp h with rfl | h
  ·exact ok.1
  ·exact EqAlts.get ok.2 h
def rEqO (X : Cx) (neg : Bool) (alts : List Ya0) : R2 := fun x y H Q => ∃ (a b C dx dy : Addr) (fs gs : List Yc2) (p : Str × OpN), x = .ref a ∧ y = .ref b ∧ H a = some Yd3 ∧ H b = some (.ins C dy gs) ∧ CN X.K p.1 C ∧ p ∈ alts ∧
 ∀ n, (∀ ws hp, ws.length ≠ n → p.2 ws hp = .bad) → spM X.K X.w p.2 n [.ref a, .ref b] H (fun z H' => ∃ t : Bool, z = .bl t ∧ Q (.bl (if neg then !t else t)) H') E0
theorem op_eqO {X : Cx} {alts : List Ya0} (ok : EqAlts X alts) (hgd : X.A.guards = some []) : OpR X (compareOp .Eq) (rEqO X false alts) := by
 intro pins s σ H x y v u Q I rx ry h
 obtain ⟨a, b, C, dx, dy, fs, gs, p, rfl, rfl, ea, eb, cn, hp, hs⟩ := h
 cases rx
 cases ry
 obtain ⟨C', f, fd, ps, k, n, cn', hm, F, hr, hb, hl, _, _⟩ := (ok.get hp).ex
 cases cn.inj cn'
 obtain ⟨mA, J, _⟩ := ins_get I.hok ea
 obtain ⟨mB, J', _⟩ := ins_get I.hok eb
 obtain ⟨od, J, _⟩ := J.look
 obtain ⟨od', J', _⟩ := J'.look
 obtain ⟨m, hF⟩ := I.fr
 show wpAny Ybc X.A (richCompare .Eq (.ref a) (.ref b)) Yej X.xe s
 refine PySem.W.cmp_K (op := .Eq) (tb := .ref C) hr.units0 hF I.ok.mod.kin J J'.type (by simp [PySem.W.notFirst]) hm.at_ hm.fn ?_
 exact eq_call (Q := fun t H' => Q (.bl t) H') I F (hr.mono Yc) rfl hgd hb Ydx (hs n hl) fun t H' s' I' q => ⟨.bl t, H', I', rfl, q⟩
theorem op_neO {X : Cx} {alts : List Ya0} (ok : EqAlts X alts) (hgd : X.A.guards = some []) : OpR X (compareOp .NotEq) (rEqO X true alts) := by
 intro pins s σ H x y v u Q I rx ry h
 obtain ⟨a, b, C, dx, dy, fs, gs, p, rfl, rfl, ea, eb, cn, hp, hs⟩ := h
 cases rx
 cases ry
 obtain ⟨C', f, fd, ps, k, n, cn', hm, F, hr, hb, hl, hne, ho⟩ := (ok.get hp).ex
 cases cn.inj cn'
 obtain ⟨mA, J, _⟩ := ins_get I.hok ea
 obtain ⟨mB, J', _⟩ := ins_get I.hok eb
 obtain ⟨od, J, _⟩ := J.look
 obtain ⟨od', J', _⟩ := J'.look
 obtain ⟨m, hF⟩ := I.fr
 show wpAny Ybc X.A (richCompare .NotEq (.ref a) (.ref b)) Yej X.xe s
 refine MirQ.cmpNe_K (by have := hr.units; omega) hF I.ok.mod.kin J J'.type hne ho hm.at_ hm.fn ?_
 exact eq_call (A := X.A.in1) (Q := fun t H' => Q (.bl (!t)) H') I F (hr.in1.mono Yc) rfl hgd hb Ydx (hs n hl) fun t H' s' I' q => ⟨t, rfl, .bl (!t), H', I', rfl, q⟩
theorem ok_eqO {X : Cx} {Wx : WX} {neg : Bool} {alts : List Ya0} : zc6 X.K X.w Wx (oEqO neg alts) (rEqO X neg alts) := by
 intro s a b x y Q R ra rb go
 unfold oEqO at go
 split at go
 ·rename_i c fs hi
  split at go
  ·rename_i c' fs' hi'
   split at go
   ·rename_i ec
    subst ec
    split at go
    ·rename_i p hf
     obtain ⟨pa, C, dx, vs, rfl, hH, cn, l⟩ := ins_at R hi ra
     obtain ⟨pb, C', dy, vs', rfl, hH', cn', l'⟩ := ins_at R hi' rb
     cases cn.inj cn'
     have e : p.1 = c := by simpa using List.find?_some hf
     refine ⟨pa, pb, C, dx, dy, vs, vs', p, rfl, rfl, hH, hH', e ▸ cn, List.mem_of_find?_eq_some hf, fun n hl => ?_⟩
     refine ⟨s, [a, b], rfl, R, ⟨.ref pa, [.ref pb], rfl, ra, ⟨.ref pb, [], rfl, rb, rfl⟩⟩, ?_, ?_⟩
     ·by_cases q : [a, b].length = n
      ·exact q
      ·rw [hl _ _ q] at go; exact go.elim
     ·cases hq : p.2 [a, b] s.hp with
      | ok z h =>
       rw [hq] at go
       intro v' s' e1 e2 e3 e4
       simp only [noEr, Res.bind] at go
       split at go
       ·rename_i t
        have ev : v' = .bl t := by simpa only [Rw, Rf] using e4
        exact ⟨t, ev, go (.bl (if neg then !t else t)) s' e1 e2 e3 rfl⟩
       ·exact go.elim
      | er _ _ _ => rw [hq] at go; exact go.elim
      | bad => rw [hq] at go; exact go.elim
    ·exact go.elim
   ·exact go.elim
  ·exact go.elim
 ·exact go.elim
end Mir
namespace Mir
open PySem PySem.Spec L2
open PyProof.Rows hiding St
end Mir
namespace Mir
open PySem PySem.Spec L2
open PyProof.Rows hiding St
end Mir
namespace MirI
open PySem PySem.Spec PyProof.Rows PySem.SeqAt
open AutoSeq1 (wpAny_loadPart')
open MeetsSeq MeetsSeq2 MeetsSeq3 SeqRoads2
open Builtin
theorem str_eq_inst (a : Str) (t : Tok) (x C dx : Addr) : Meets (Builtin.«str.__eq__» ⟨[.str a t, .ref x], []⟩) (fun _ R s => s.heap.get? x = some Ycy ∧ R (.ok (.ret .notImplemented)) s) :=
 .of_wp fun prog w A R s h => by
  obtain ⟨hp, g, d, tk, os⟩ := s; obtain ⟨hl, h⟩ := h
  wp_walk using wpAny_loadPart' hl
  exact ⟨_, rfl, h⟩
section
variable {M : Model} {prog : Program} {w : World} {A : Around} {E : Value → Shared → Prop} {s : Shared} {K : PySem.W.Frag} {x C dx f : Addr} {od : Option Obj}
theorem isInst_no {T : String} {R : Bool → Shared → Prop} (X : K.In s.heap) (I : PySem.W.InstAt s.heap x Ycy C od) (e : PySem.W.subIn K (.ref C) (.type T) = some false) (h : R false s) : wpAny M A (isInstance (.ref x) (.type T)) R E s := by
 unfold isInstance
 refine wpAny_bind (I.type.here ?_)
 refine (PySem.W.looks_subIn X e).here ?_
 exact h
theorem tuple_eq_inst {l : Addr} {items : Array Value} {n : Nat} {dd : Option Addr} {sl : Array Ybk} {Q : Fin → Shared → Prop} (X : K.In s.heap) (I : PySem.W.InstAt s.heap x Ycy C od) (e : PySem.W.subIn K (.ref C) Yb0 = some false)
  (hl : s.heap.get? l = some { cls := .type "tuple", dict := dd, data := .seq items n, slots := sl }) (hq : Q (.done (.ret .notImplemented)) s) : wpAny Y9 A (Builtin.«tuple.__eq__» ⟨[.ref l, .ref x], []⟩) Q E s := by
 unfold Builtin.«tuple.__eq__»
 repeat (first
  | with_reducible refine wpAny_bind (m := isInstance (.ref x) (.type "tuple")) (isInst_no X I e ?_)
  | wp_step)
 exact hq
theorem rc_refl {l : Value} {T : String} {Q : Value → Shared → Prop} (hu : A.units < cLine) (X : K.In s.heap) (I : PySem.W.InstAt s.heap x Ycy C od) (hl : s.TypeIs l T) (hsub : PySem.W.subIn K (.ref C) (.type T) = some false)
  (hd : wpAny Y9 A (tryCompare l "__eq__" (.ref x)) (fun r s' => r = none ∧ s' = s) E s) (hs : PySem.W.findIn K (.ref C) "__eq__" = some Yg8) (hf : PySem.W.isFn K (.ref f) = true)
  (h : wpAny Y9 A (call (.ref f) [.ref x, l]) Yb1 E s) : wpAny Y9 A (richCompare .Eq l (.ref x)) Q E s := by
 unfold richCompare
 rw [hl.oneThing_none]
 refine wpAny_holding (wpAny_bind (wpAny_cRoomFor hu ?_))
 rw [cmpInfo_Eq]
 dsimp only
 refine wpAny_bind (wpAny_typeOf hl (wpAny_bind (I.type.here ?_)))
 rw [show (Value.type T != Value.ref C) = true from rfl]
 simp only [if_true]
 refine wpAny_bind ((PySem.W.looks_subIn X hsub).here ?_)
 simp only [Bool.false_eq_true, if_false, Bool.not_false, if_true]
 refine wpAny_bind (m := tryCompare l _ (.ref x)) (wpAny_mono hd (fun r s1 z => ?_) fun _ _ e => e)
 obtain ⟨z1, z2⟩ := z
 subst z1
 subst z2
 have two : wpAny Y9 A (tryCompare (.ref x) "__eq__" l) (fun r s' => ∃ v, r = some v ∧ Q v s') E s1 := by
  unfold tryCompare
  refine wpAny_bind (PySem.W.ifBound_K X I hs hf (wpAny_mono h (fun v s' hv => ?_) fun _ _ e => e))
  obtain ⟨r, rfl, hq⟩ := hv
  exact wpAny_pure ⟨_, rfl, hq⟩
 refine wpAny_bind (m := tryCompare (.ref x) _ l) (wpAny_mono two (fun r s2 z => ?_) fun _ _ e => e)
 obtain ⟨v, rfl, hq⟩ := z
 exact wpAny_pure hq
theorem rc_str {y : Str} {t : Tok} {Q : Value → Shared → Prop} (hu : A.units < cLine) (X : K.In s.heap) (I : PySem.W.InstAt s.heap x Ycy C od) (hsub : PySem.W.subIn K (.ref C) Ycf = some false) (hs : PySem.W.findIn K (.ref C) "__eq__" = some Yg8) (hf : PySem.W.isFn K (.ref f) = true)
  (h : wpAny Y9 A (call (.ref f) [.ref x, .str y t]) Yb1 E s) : wpAny Y9 A (richCompare .Eq (.str y t) (.ref x)) Q E s :=
 rc_refl hu X I (typeIs_str s y t) hsub (wpAny_tryCompare_declines (typeIs_str s y t) F.slot_str_eq (call_meets F.slot_str_eq (typeIs_str s y t) F.entry_str_eq (F.args_str_eq_2 _ _) (str_eq_inst y t x C dx) ⟨I.at_, rfl, rfl, rfl⟩)) hs hf h
theorem rc_non {Q : Value → Shared → Prop} (hu : A.units < cLine) (X : K.In s.heap) (I : PySem.W.InstAt s.heap x Ycy C od) (hsub : PySem.W.subIn K (.ref C) Ybx = some false) (hs : PySem.W.findIn K (.ref C) "__eq__" = some Yg8) (hf : PySem.W.isFn K (.ref f) = true)
  (h : wpAny Y9 A (call (.ref f) [.ref x, .none]) Yb1 E s) : wpAny Y9 A (richCompare .Eq .none (.ref x)) Q E s :=
 rc_refl hu X I (show s.TypeIs .none "NoneType" from rfl) hsub (wpAny_tryCompare_declines (show s.TypeIs .none "NoneType" from rfl) F.slot_NoneType_eq (call_gives F.slot_NoneType_eq rfl F.entry_NoneType_eq (F.args_NoneType_eq_2 _ _) (NoneType___eq___none_ref_0 x) ⟨rfl, rfl, rfl⟩)) hs hf h
theorem rc_tup {l : Addr} {items : Array Value} {Q : Value → Shared → Prop} (hu : A.units < cLine) (X : K.In s.heap) (I : PySem.W.InstAt s.heap x Ycy C od) (ht : s.heap.IsTuple l items) (hsub : PySem.W.subIn K (.ref C) Yb0 = some false) (hs : PySem.W.findIn K (.ref C) "__eq__" = some Yg8) (hf : PySem.W.isFn K (.ref f) = true)
  (h : wpAny Y9 A (call (.ref f) [.ref x, .ref l]) Yb1 E s) : wpAny Y9 A (richCompare .Eq (.ref l) (.ref x)) Q E s := by
 obtain ⟨⟨cls, dd, data, sl⟩, ho, hc, n, hd⟩ := id ht
 simp only at hc hd
 subst hc hd
 refine rc_refl hu X I ⟨_, ho, rfl⟩ hsub (wpAny_tryCompare_declines ⟨_, ho, rfl⟩ F.slot_tuple_eq ?_) hs hf h
 refine GQ.call_here F.slot_tuple_eq ⟨_, ho, rfl⟩ F.entry_tuple_eq (F.args_tuple_eq_2 _ _) ?_
 exact tuple_eq_inst (A := A.in1) X ⟨I.at_, I.cls, I.no, I.dict⟩ hsub ho ⟨rfl, rfl, rfl⟩
/-- x in (..): each item is compared, in order -/
theorem tuple_inG {l : Addr} {items : Array Value} {n : Nat} {dd : Option Addr} {sl : Array Ybk} {y : Value} {R : Result → Shared → Prop} (I : Nat → Shared → Prop)
  (turn : ∀ i (h1 : i < items.size) s, I i s → wpAny Y9 A.in1 (eqBool items[i] y) (fun r s' => if r = true then R Ygh s' else I (i + 1) s') (fun e s' => R (.error e) s') s)
  (fin : ∀ s, I items.size s → R (.ok (.ret (.bool false))) s) (hl1 : s.heap.get? l = some { cls := .type "tuple", dict := dd, data := .seq items n, slots := sl }) (h : I 0 s) :
  wpAny Y9 A.in1 (Builtin.«tuple.__contains__» ⟨[.ref l, y], []⟩) (GQ.FinOf prog w A R) (fun e s' => R (.error e) s') s := by
 have h0 := h
 obtain ⟨hp, g, d, tk, os⟩ := s
 wp_walk using wpAny_loadPart' hl1, wpAny_forIn_array _ (fun rest b s' => b.1 = none ∧ ∃ i, rest = items.toList.drop i ∧ i ≤ items.size ∧ I i s') _
 case turn =>
  rintro z rest b s' ⟨hb', i, hz, hi, hI⟩
  have hlt : i < items.toList.length := by
   rcases Nat.lt_or_ge i items.toList.length with h' | h'
   ·exact h'
   ·rw [List.drop_of_length_le h'] at hz; cases hz
  have h1 : i < items.size := by simpa using hlt
  rw [List.drop_eq_getElem_cons hlt] at hz
  injection hz with hzx hrest
  have hz : z = items[i] := by rw [hzx]; simp
  subst hz
  refine wpAny_bind (wpAny_mono (turn i h1 s' hI) (fun r s2 q2 => ?_) fun _ _ x => x)
  cases r with
  | true =>
   simp only [if_true] at q2
   wp_walk
   exact q2
  | false =>
   simp only [Bool.false_eq_true, if_false] at q2
   wp_walk
   exact ⟨rfl, i + 1, hrest, h1, q2⟩
 case fin =>
  rintro ⟨b1, b2⟩ s' ⟨hb', i, hz, hi, hI⟩
  simp only at hb'
  subst hb'
  have hge : items.size ≤ i := by
   rcases Nat.lt_or_ge i items.toList.length with h' | h'
   ·rw [List.drop_eq_getElem_cons h'] at hz; cases hz
   ·simpa using h'
  have hi' : i = items.size := by omega
  have hR := fin s' (hi' ▸ hI)
  wp_walk
  exact hR
 case h =>
  exact ⟨rfl, 0, rfl, Nat.zero_le _, h0⟩
end
end MirI
namespace Mir
open PySem PySem.Spec L2
open PyProof.Rows hiding St
/-- o == p and o in (..): an alternative for each class -/
structure InAlt (X : Cx) (c : Str) (m : OpN) : Prop where
 ex : ∃ (C f : Addr) (fd : FuncData) (ps : List Str) (k n : Nat), CN X.K c C ∧ Meth X.K C "__eq__" f ∧ FnG X.prog X.w X.K X.mg X.base Yb7 k f fd ps Yc3 ∧ Room (k + 4) X.A ∧ Binds X.K fd ps [] ∧ (∀ ws hp, ws.length ≠ n → m ws hp = .bad) ∧
  PySem.W.subIn X.K (.ref C) Ycf = some false ∧ PySem.W.subIn X.K (.ref C) Yb0 = some false ∧ PySem.W.subIn X.K (.ref C) Ybx = some false
theorem InAlt.mk' {X : Cx} {c : Str} {m : OpN} {C f : Addr} {fd : FuncData} {ps : List Str} {k n : Nat} (cn : CN X.K c C) (hm : Meth X.K C "__eq__" f) (F : FnG X.prog X.w X.K X.mg X.base Yb7 k f fd ps Yc3) (hr : Room (k + 4) X.A) (hb : Binds X.K fd ps []) (hl : ∀ ws hp, ws.length ≠ n → m ws hp = .bad)
  (h1 : PySem.W.subIn X.K (.ref C) Ycf = some false) (h2 : PySem.W.subIn X.K (.ref C) Yb0 = some false) (h3 : PySem.W.subIn X.K (.ref C) Ybx = some false) : InAlt X c m :=
 ⟨C, f, fd, ps, k, n, cn, hm, F, hr, hb, hl, h1, h2, h3⟩
def InAlts (X : Cx) : List Ya0 → Prop
 | [] => True
 | p :: r => InAlt X p.1 p.2 ∧ InAlts X r
theorem InAlts.get {X : Cx} : ∀ {alts : List (Str × OpN)} {p : Str × OpN}, InAlts X alts → p ∈ alts → InAlt X p.1 p.2
 | [], _, _, h => nomatch h
 | q :: r, p, ok, h => by
  rcases List.mem_cons.mp h with rfl | h
  ·exact ok.1
  ·exact InAlts.get ok.2 h
/-- classes that are no subclasses of one another -/
def Unrel (X : Cx) (alts : List Ya0) : Prop := ∀ c d C D, c ∈ alts.map (·.1) → d ∈ alts.map (·.1) → CN X.K c C → CN X.K d D → c ≠ d → C ≠ D ∧ PySem.W.subIn X.K (.ref C) (.ref D) = some false
def clsOf : T → Option Str
 | .ins c _ _ => some c
 | _ => none
def isPlainI : T → Bool
 | .str _ => true
 | .tup _ => true
 | .non => true
 | _ => false
/-- which comparison is asked for an item -/
def inPick (alts : List Ya0) (c : Str) (t : T) : Option (Str × OpN × Bool) := match clsOf t with
 | some d => if d = c then none else (alts.find? fun p => decide (p.1 = d)).map fun p => (p.1, p.2, true)
 | none => if isPlainI t = true then (alts.find? fun p => decide (p.1 = c)).map fun p => (p.1, p.2, false) else none
def inGo (alts : List Ya0) (c : Str) (a : W) : List T → IH → Res W
 | [], hp => .ok (.t Yx) hp
 | t :: ts, hp => match inPick alts c t with
  | some (_, m, fl) => (noEr (m (if fl then [.t t, a] else [a, .t t]) hp)).bind fun w h2 => match w with
   | .t (.bl true) => .ok (.t Yb5) h2
   | .t (.bl false) => inGo alts c a ts h2
   | _ => .bad
  | none => .bad
def oInO (alts : List Ya0) : Op2 := fun a b hp => match a, b with
 | .t (.ins c ns xs), .t (.tup ts) => if (alts.any fun p => decide (p.1 = c)) = true then inGo alts c (.t Yaq) ts hp else .bad
 | _, _ => .bad
/-- the items, one behind another -/
def InP (X : Cx) (alts : List Ya0) (a C : Addr) : List V → Hp → VK → Prop
 | [], H, Q => Q Yx H
 | v :: vs, H, Q => (∃ dx fs, H a = some Yd3) ∧ (
   (∃ p, p ∈ alts ∧ CN X.K p.1 C ∧ ((∃ x, v = .str x) ∨ v = .non ∨ (∃ q zs, v = .ref q ∧ SqT X.K H q zs)) ∧ ∀ n, (∀ ws hp, ws.length ≠ n → p.2 ws hp = .bad) → spM X.K X.w p.2 n [.ref a, v] H Yeh E0) ∨
   (∃ p b D dy gs, p ∈ alts ∧ CN X.K p.1 D ∧ v = .ref b ∧ H b = some (.ins D dy gs) ∧ (∃ q, q ∈ alts ∧ CN X.K q.1 C ∧ q.1 ≠ p.1) ∧ ∀ n, (∀ ws hp, ws.length ≠ n → p.2 ws hp = .bad) → spM X.K X.w p.2 n [v, .ref a] H Yeh E0))
def rInO (X : Cx) (alts : List Ya0) : R2 := fun x y H Q => ∃ (a C l : Addr) (vs : List V), x = .ref a ∧ y = .ref l ∧ SqT X.K H l vs ∧ InP X alts a C vs H Q
theorem eq_callB {X : Cx} {k : Nat} {f : Addr} {fd : FuncData} {ps : List Str} {sp : Sp} {E : XK} {CX : CXT} {A : Around} {pins : List Yfb} {σ : L2.St} {H : Hp} {s : Shared} {v1 v2 : V} {u1 u2 : Value} {Q : Bool → Hp → Prop} (I : Inv X pins σ H s)
  (F : FnG X.prog X.w X.K X.mg X.base CX k f fd ps sp) (hr : Room k A) (hfr : A.frames = X.A.frames) (hgd : A.guards = some []) (hb : Binds X.K fd ps []) (hx : Passes CX X.nox E) (r1 : RelV v1 u1) (r2 : RelV v2 u2)
  (h : sp [v1, v2] H (fun z H' => ∃ t : Bool, z = .bl t ∧ Q t H') E) {E' : Value → Shared → Prop} {R : Value → Shared → Prop} (hR : ∀ (t : Bool) (H' : Hp) (s' : Shared), Inv X pins σ H' s' → Q t H' → R (.bool t) s') :
  wpAny Ybc A (call (.ref f) [u1, u2]) R E' s := by
 have el : ([u1, u2] ++ []).length = ps.length := F.len _ _ _ _ h
 have e0 : Env0 X.prog X.w X.K X.mg X.base A X.stack s H := by
  have e := I.env0
  exact ⟨by rw [hfr]; exact e.frames, e.mod, e.bs, e.bsz, e.funs, e.frf, e.hok, e.bare⟩
 refine wpAny_call (codeAny_mono (F.run A X.stack s H ⟨[u1, u2], []⟩ [u1, u2] [v1, v2] _ E hr hgd e0 (hb s [u1, u2] I.kIn el) (.cons r1 (.cons r2 .nil)) h) ?_)
 rintro (er | fl) s' q
 ·exact (hx pins σ H s er s' (I.wish _) q).elim
 ·cases fl with
  | ret u =>
   obtain ⟨v, H', I3, rv, t, ev, q3⟩ := I.after q
   subst ev
   cases rv
   exact hR t H' s' I3 q3
  | next => exact (show False from q).elim
  | brk => exact (show False from q).elim
  | cont => exact (show False from q).elim
theorem eqBool_of {M : Model} {A : Around} {E : Value → Shared → Prop} {s : Shared} {u v : Value} {Q : Bool → Shared → Prop} (h0 : (u == v) = false) (hf : ∀ a t b t', u = .float a t → v = .float b t' → False) (h : wpAny M A (richCompare .Eq u v) (fun r s' => ∃ b, r = .bool b ∧ Q b s') E s) : wpAny M A (eqBool u v) Q E s := by
 unfold eqBool
 refine wpAny_holding ?_
 rw [h0]
 simp only [Bool.false_eq_true, if_false]
 split
 ·rename_i a t b t' e
  injection e with e1 e2
  exact (hf _ _ _ _ e1 e2).elim
 ·refine wpAny_bind (wpAny_mono h (fun r s' hv => ?_) fun _ _ x => x)
  obtain ⟨b, rfl, q⟩ := hv
  exact wpAny_truthy_bool q
theorem op_inO {X : Cx} {alts : List Ya0} (ok : InAlts X alts) (un : Unrel X alts) (hu : X.A.units + 64 < cLine) (hgd : X.A.guards = some []) : OpR X (compareOp .In) (rInO X alts) := by
 intro pins s σ H x y v u Q I rx ry h
 obtain ⟨a, C, l, vs, rfl, rfl, hs, ip⟩ := h
 cases rx
 cases ry
 obtain ⟨its, r, e, z⟩ := I.tuple hs
 obtain ⟨⟨cls, dd, data, sl⟩, ho, hc, n, hd⟩ := id e
 simp only at hc hd
 subst hc hd
 have ul : X.A.in1.units < cLine := by show X.A.units + 1 < cLine; omega
 show wpAny _ X.A (do return .bool (← contains (.ref l) (.ref a))) Yej X.xe s
 refine wpAny_bind (wpAny_contains_slot ⟨_, ho, rfl⟩ F.slot_tuple_contains (wpAny_mono (GQ.call_here (Q := fun v s' => ∃ b, v = .bool b ∧ EP X pins σ Q (.bool b) s') F.slot_tuple_contains ⟨_, ho, rfl⟩ F.entry_tuple_contains (F.args_tuple_contains_2 _ _) (MirI.tuple_inG (A := X.A) (fun i s' => ∃ H', Inv X pins σ H' s' ∧ InP X alts a C (vs.drop i) H' Q) (fun i h1 s' q => ?_) (fun s' q => ?_) ho ⟨H, I, ip⟩)) (fun v s' hv => ?_) fun _ _ e => e))
 ·obtain ⟨H', I', ip⟩ := q
  have hi : i < its.length := by simpa using h1
  have hv : i < vs.length := by rw [r.length]; exact hi
  obtain ⟨u, hu', ru⟩ := r.get (List.getElem?_eq_getElem hv)
  have g1 : its.toArray[i] = u := by
   rw [List.getElem?_eq_getElem hi] at hu'
   simpa using Option.some.inj hu'
  rw [g1]
  rw [List.drop_eq_getElem_cons hv] at ip
  unfold InP at ip
  obtain ⟨⟨dx, fs, ea⟩, ip⟩ := ip
  obtain ⟨mA, J0, _⟩ := ins_get I'.hok ea
  obtain ⟨od, J, _⟩ := J0.look
  obtain ⟨mm, hF⟩ := I'.fr
  have XK := I'.ok.mod.kin.keeps hF.keep
  have post : ∀ (t : Bool) (H2 : Hp) (s2 : Shared), Inv X pins σ H2 s2 → (if t = true then Q Yb5 H2 else InP X alts a C Yf3 H2 Q) → (if t = true then wants Ya2 X.xe Ygh s2 else ∃ H', Inv X pins σ H' s2 ∧ InP X alts a C Yf3 H' Q) := fun t H2 s2 I2 q => by
   cases t with
   | true => exact ⟨true, rfl, .bl true, H2, I2, rfl, q⟩
   | false => exact ⟨H2, I2, q⟩
  rcases ip with ⟨p, hp, cn, kind, sp⟩ | ⟨p, b, D, dy, gs, hp, cn, ev, eb, ⟨q, hq, cnq, ne⟩, sp⟩
  ·obtain ⟨C', f, fd, ps, k, n, cn', hm, Fg, hr, hb, hl, s1, s2, s3⟩ := (ok.get hp).ex
   cases cn.inj cn'
   have call : wpAny Ybc X.A.in1 (call (.ref f) [.ref a, u]) (fun v s' => ∃ r, v = .bool r ∧ (if r = true then wants Ya2 X.xe Ygh s' else ∃ H', Inv X pins σ H' s' ∧ InP X alts a C Yf3 H' Q)) (fun e s' => wants Ya2 X.xe (.error e) s') s' :=
    eq_callB (A := X.A.in1) (Q := fun t H2 => if t = true then Q Yb5 H2 else InP X alts a C Yf3 H2 Q) I' Fg (hr.in1.mono Yc) rfl hgd hb Ydx (show L2.RelV (.ref a) (.ref a) from rfl) ru (sp n hl) fun t H2 s2 I2 q => ⟨t, rfl, post t H2 s2 I2 q⟩
   have call' := wpAny_mono call (Q' := fun v s' => ∃ r, v = .bool r ∧ ∃ b, Value.bool r = .bool b ∧ (if b = true then wants Ya2 X.xe Ygh s' else ∃ H', Inv X pins σ H' s' ∧ InP X alts a C Yf3 H' Q)) (fun v s' ⟨r, e, q⟩ => ⟨r, e, r, rfl, q⟩) fun _ _ e => e
   rcases kind with ⟨x, ev⟩ | ev | ⟨q, zs, ev, sq⟩
   ·rw [ev] at ru
    obtain ⟨tk, rfl⟩ := ru
    exact eqBool_of rfl Yfg (MirI.rc_str ul XK J s1 hm.at_ hm.fn call')
   ·rw [ev] at ru
    obtain rfl : u = .none := ru
    exact eqBool_of rfl Yfg (MirI.rc_non ul XK J s3 hm.at_ hm.fn call')
   ·rw [ev] at ru
    obtain rfl : u = .ref q := ru
    obtain ⟨its2, r2, e2, z2⟩ := I'.tuple sq
    have na : q ≠ a := fun e => by
     subst e
     obtain ⟨o, g1, g2, _⟩ := e2
     have := J.at_
     rw [g1] at this
     cases this
     cases g2
    exact eqBool_of (by simp [na]) Yfg (MirI.rc_tup ul XK J e2 s2 hm.at_ hm.fn call')
  ·obtain ⟨D', f, fd, ps, k, n, cn', hm, Fg, hr, hb, hl, s1, s2, s3⟩ := (ok.get hp).ex
   cases cn.inj cn'
   rw [ev] at ru
   obtain rfl : u = .ref b := ru
   obtain ⟨CD, sb⟩ := un q.1 p.1 C D (List.mem_map_of_mem hq) (List.mem_map_of_mem hp) cnq cn ne
   have na : b ≠ a := fun e => by
    subst e
    rw [ea] at eb
    cases eb
    exact CD rfl
   obtain ⟨mB, K0, _⟩ := ins_get I'.hok eb
   obtain ⟨od', JB, _⟩ := K0.look
   refine eqBool_of (by simp [na]) Yfg ?_
   refine PySem.W.cmp_K (op := .Eq) (tb := .ref C) ul hF I'.ok.mod.kin JB J.type (by simp [PySem.W.notFirst, sb]) hm.at_ hm.fn ?_
   have sp' := sp n hl
   rw [ev] at sp'
   exact eq_callB (A := X.A.in1) (Q := fun t H2 => if t = true then Q Yb5 H2 else InP X alts a C Yf3 H2 Q) I' Fg (hr.in1.mono Yc) rfl hgd hb Ydx (show L2.RelV (.ref b) (.ref b) from rfl) (show L2.RelV (.ref a) (.ref a) from rfl) sp' fun t H2 s2 I2 q => ⟨t, rfl, post t H2 s2 I2 q⟩
 ·obtain ⟨H', I', ip⟩ := q
  have : vs.drop its.toArray.size = [] := by
   rw [List.size_toArray, ← r.length]
   exact List.drop_length ..
  rw [this] at ip
  exact ⟨false, rfl, .bl false, H', I', rfl, ip⟩
 ·obtain ⟨b, rfl, hq⟩ := hv
  exact wpAny_truthy_bool (wpAny_pure hq)
theorem ins_treeW {K : PySem.W.Frag} {ω : World} {s : S4} (R : Rel K ω s) {c : Str} {ns : List Str} {xs : List T} {v : V} (r : Rf K s.fz s.H Yaq v) : ∃ a C dx fs, v = .ref a ∧ CN K c C ∧ s.H a = some Yd3 := by
 obtain ⟨fs, hi⟩ : ∃ fs, insOf s.hp (.t (.ins c ns xs)) = some (c, fs) := ⟨_, rfl⟩
 obtain ⟨a, C, dx, vs, e, hH, cn, _⟩ := ins_at R hi (show Rw K s (.t Yaq) v from r)
 exact ⟨a, C, dx, vs, e, cn, hH⟩
theorem inGo_ok {X : Cx} {Wx : WX} {alts : List Ya0} {c : Str} {ns : List Str} {xs : List T} {pa C : Addr} (cn : CN X.K c C) (hin : ∃ q ∈ alts, q.1 = c) {Q : VK} : ∀ (ts : List T) (vs : List V) (s : S4), Rel X.K X.w s → Rf X.K s.fz s.H Yaq (.ref pa) → RfL X.K s.fz s.H ts vs → Go X.K X.w Wx (Rw X.K) s (inGo alts c (.t Yaq) ts s.hp) Q → InP X alts pa C vs s.H Q
 | [], vs, s, R, ra, l, go => by
  have e : vs = [] := by simpa [RfL] using l
  subst e
  exact go Yx s rfl Yh R rfl
 | t :: ts, vs, s, R, ra, l, go => by
  simp only [RfL] at l
  obtain ⟨v, r, rfl, rt, rl⟩ := l
  unfold inGo at go
  split at go
  ·rename_i d m fl hp
   obtain ⟨a', C', dx, fs, e1, cn', eH⟩ := ins_treeW R ra
   cases e1
   cases cn.inj cn'
   -- behind the comparison
   have rest : ∀ ws : List W, (noEr (m ws s.hp)).bind (fun w h2 => match w with
     | .t (.bl true) => .ok (.t Yb5) h2
     | .t (.bl false) => inGo alts c (.t Yaq) ts h2
     | _ => .bad) = (noEr (m (if fl then [.t t, .t Yaq] else [.t Yaq, .t t]) s.hp)).bind (fun w h2 => match w with
     | .t (.bl true) => .ok (.t Yb5) h2
     | .t (.bl false) => inGo alts c (.t Yaq) ts h2
     | _ => (.bad : Res W)) → Go X.K X.w W0 (Rw X.K) s (noEr (m ws s.hp)) (fun z H' => ∃ t : Bool, z = .bl t ∧ if t = true then Q Yb5 H' else InP X alts pa C r H' Q) := fun ws ew => by
    rw [← ew] at go
    cases hq : m ws s.hp with
    | ok w h2 =>
     rw [hq] at go
     simp only [noEr, Res.bind] at go
     intro v' s' e1 A' R' r'
     split at go
     ·have ev : v' = .bl true := by simpa only [Rw, Rf] using r'
      exact ⟨true, ev, go Yb5 s' e1 A' R' rfl⟩
     ·have ev : v' = .bl false := by simpa only [Rw, Rf] using r'
      refine ⟨false, ev, ?_⟩
      simp only [Bool.false_eq_true, if_false]
      subst e1
      exact inGo_ok cn hin ts r s' R' (Rf.aft A' R _ _ ra) (RfL.aft A' R _ _ rl) (go.aft A')
     ·exact go.elim
    | er _ _ _ => rw [hq] at go; exact go.elim
    | bad => rw [hq] at go; exact go.elim
   unfold inPick at hp
   refine ⟨⟨dx, fs, eH⟩, ?_⟩
   split at hp
   ·rename_i d' hc
    split at hp
    ·cases hp
    ·rename_i nd
     obtain ⟨p, hf, e⟩ := Option.map_eq_some_iff.mp hp
     cases e
     have pd : p.1 = d' := by simpa using List.find?_some hf
     cases t with
     | ins c2 ns2 xs2 =>
      have ec : c2 = d' := by simpa [clsOf] using hc
      subst ec
      obtain ⟨b, D, dy, gs, rfl, cnD, eD⟩ := ins_treeW R rt
      refine .inr ⟨p, b, D, dy, gs, List.mem_of_find?_eq_some hf, pd ▸ cnD, rfl, eD, ?_, fun n hl => ?_⟩
      ·obtain ⟨q, hq, e⟩ := hin
       exact ⟨q, hq, e ▸ cn, by rw [e, pd]; exact fun z => nd z.symm⟩
      ·refine ⟨s, [.t (.ins c2 ns2 xs2), .t Yaq], rfl, R, ⟨.ref b, [.ref pa], rfl, rt, ⟨.ref pa, [], rfl, ra, rfl⟩⟩, ?_, ?_⟩
       ·by_cases q : [W.t (.ins c2 ns2 xs2), .t Yaq].length = n
        ·exact q
        ·rw [show (if true = true then [W.t (.ins c2 ns2 xs2), .t Yaq] else [.t Yaq, .t (.ins c2 ns2 xs2)]) = [W.t (.ins c2 ns2 xs2), .t Yaq] from rfl, hl _ _ q] at go; exact go.elim
       ·exact rest _ rfl
     | _ => cases hc
   ·split at hp
    ·rename_i hc hi
     obtain ⟨p, hf, e⟩ := Option.map_eq_some_iff.mp hp
     cases e
     have pd : p.1 = c := by simpa using List.find?_some hf
     refine .inl ⟨p, List.mem_of_find?_eq_some hf, pd ▸ cn, ?_, fun n hl => ?_⟩
     ·cases t with
      | str x => exact .inl ⟨x, by simpa [Rf] using rt⟩
      | non => exact .inr (.inl (by simpa [Rf] using rt))
      | tup zs =>
       obtain ⟨q, us, rfl, tq, _⟩ : ∃ a vs, v = .ref a ∧ FTup X.K s.fz s.H a vs ∧ RfL X.K s.fz s.H zs vs := by simpa only [Rf] using rt
       exact .inr (.inr ⟨q, us, rfl, tq.sq⟩)
      | _ => simp [isPlainI] at hi
     ·refine ⟨s, [.t Yaq, .t t], rfl, R, ⟨.ref pa, [v], rfl, ra, ⟨v, [], rfl, rt, rfl⟩⟩, ?_, ?_⟩
      ·by_cases q : [W.t Yaq, .t t].length = n
       ·exact q
       ·rw [show (if false = true then [W.t t, .t Yaq] else [.t Yaq, .t t]) = [W.t Yaq, .t t] from rfl, hl _ _ q] at go; exact go.elim
      ·exact rest _ rfl
    ·cases hp
  ·exact go.elim
theorem ok_inO {X : Cx} {Wx : WX} {alts : List Ya0} : zc6 X.K X.w Wx (oInO alts) (rInO X alts) := by
 intro s a b x y Q R ra rb go
 unfold oInO at go
 split at go
 ·rename_i c ns xs ts
  obtain ⟨pa, C, dx, fs, rfl, cn, eH⟩ := ins_treeW R (show Rf X.K s.fz s.H Yaq x from ra)
  obtain ⟨l, vs, rfl, t, lv⟩ : ∃ a vs, y = .ref a ∧ FTup X.K s.fz s.H a vs ∧ RfL X.K s.fz s.H ts vs := by
   have rb : Rf X.K s.fz s.H (.tup ts) y := rb
   simpa only [Rf] using rb
  split at go
  ·rename_i hin
   obtain ⟨q, hq, e⟩ := List.any_eq_true.mp hin
   exact ⟨pa, C, l, vs, rfl, rfl, t.sq, inGo_ok cn ⟨q, hq, of_decide_eq_true e⟩ ts vs s R ra lv go⟩
  ·exact go.elim
 ·exact go.elim
end Mir
namespace Mir
open PySem PySem.Spec L2
theorem unrel2 {X : Cx} {c d : Str} {C D : Addr} {m m' : OpN} (cn : CN X.K c C) (dn : CN X.K d D) (h1 : PySem.W.subIn X.K (.ref C) (.ref D) = some false) (h2 : PySem.W.subIn X.K (.ref D) (.ref C) = some false) (ne : C ≠ D) : Unrel X [(c, m), (d, m')] := by
 intro a b A B ha hb na nb hne
 simp only [List.map_cons, List.map_nil, List.mem_cons, List.not_mem_nil, or_false] at ha hb
 rcases ha with rfl | rfl <;> rcases hb with rfl | rfl
 ·exact absurd rfl hne
 ·cases na.inj cn
  cases nb.inj dn
  exact ⟨ne, h1⟩
 ·cases na.inj dn
  cases nb.inj cn
  exact ⟨ne.symm, h2⟩
 ·exact absurd rfl hne
end Mir
namespace Mir
open PySem PySem.Spec L2
open PyProof.Rows hiding St
/-- a live thing as a tree -/
def deepL (hp : IH) : Nat → W → Option T
 | _, .t x => some x
 | 0, .r _ => none
 | n + 1, .r i => match getL hp i with
  | some ws => (ws.mapM (deepL hp n)).map T.lst
  | none => none
def lendO (hp : IH) : Option W → Option W
 | some w => (deepL hp 3 w).map W.t
 | none => none
section
variable {K : PySem.W.Frag} {ω : World} {s s2 : S4}
theorem deepL_rel (R : Rel K ω s) : ∀ (n : Nat) (w : W) (x : T) (v : V), deepL s.hp n w = some x → Rw K s w v → Rf K s.lent.fz s.lent.H x v
 | n, .t x, y, v, h, r => by
  have : x = y := by cases n <;> simpa [deepL] using h
  subst this
  exact Rf.aft aft_lent R x v r
 | 0, .r i, y, v, h, r => by simp [deepL] at h
 | n + 1, .r i, y, v, h, r => by
  unfold deepL at h
  split at h
  ·rename_i ws g
   obtain ⟨ts, hm, rfl⟩ := Option.map_eq_some_iff.mp h
   obtain ⟨p, vs, e, e1, e2, l, _⟩ := R.lst g r
   subst e
   simp only [Rf]
   refine ⟨p, vs, rfl, ⟨.inr ⟨i, ws, g, e1⟩, e2⟩, ?_⟩
   have key : ∀ (ws : List W) (ts : List T) (vs : List V), ws.mapM (deepL s.hp n) = some ts → RwL K s ws vs → RfL K s.lent.fz s.lent.H ts vs := fun ws => by
    induction ws with
    | nil =>
     intro ts vs hm l
     simp only [List.mapM_nil, Option.pure_def, Option.some.injEq] at hm
     subst hm
     simpa [RfL, RwL] using l
    | cons w ws ih =>
     intro ts vs hm l
     rw [List.mapM_cons] at hm
     obtain ⟨x, hx, hm⟩ := Option.bind_eq_some_iff.mp hm
     obtain ⟨us, hu, hm⟩ := Option.bind_eq_some_iff.mp hm
     simp only [Option.pure_def, Option.some.injEq] at hm
     subst hm
     obtain ⟨v, r, rfl, a, b⟩ := l
     simp only [RfL]
     exact ⟨v, r, rfl, deepL_rel R n w x v hx a, ih us r hu b⟩
   exact key ws ts vs hm l
  ·cases h
theorem lendO_sl (R : Rel K ω s) {eta : IS} {σ : St} (S : Sl K s eta σ) : Sl K s.lent (eta.map (lendO s.hp)) σ := by
 refine ⟨by rw [List.length_map]; exact S.1, fun i w e => ?_⟩
 rw [List.getElem?_map] at e
 cases h : eta[i]? with
 | none => rw [h] at e; cases e
 | some o =>
  rw [h] at e
  cases o with
  | none => cases e
  | some w0 =>
   simp only [Option.map_some, Option.some.injEq, lendO] at e
   obtain ⟨x, hx, rfl⟩ := Option.map_eq_some_iff.mp e
   obtain ⟨v, ev, rv⟩ := S.2 i w0 h
   exact ⟨v, ev, deepL_rel R 3 w0 x v hx rv⟩
end
def mLendE (F : M W) : M W := fun eta hp => match F (eta.map (lendO hp)) (hp.map fun _ => none) with
 | .ok (.t x) _ => if noLst x = true then .ok (.t x) hp else .bad
 | _ => .bad
theorem ie_lendE {X : Cx} {Wx : WX} {e : Expr} {F : M W} (he : IE X Wx e F) : IE X Wx e (mLendE F) := PE.imp he fun σ H Q h => by
 obtain ⟨s, eta, e1, R, S, g⟩ := h
 refine ⟨s.lent, eta.map (lendO s.hp), e1, rel_lent R, lendO_sl R S, ?_⟩
 have eh : s.lent.hp = s.hp.map fun _ => none := rfl
 rw [eh]
 unfold mLendE at g
 split at g
 ·rename_i x h' hq
  rw [hq]
  split at g
  ·rename_i nx
   intro v s2 e2 A2 R2 r2
   exact g v (s.back s2) rfl (aft_back R A2) (rel_back R A2 R2) (Rf.back R A2 x v nx r2)
  ·exact g.elim
 ·exact g.elim
end Mir
namespace Mir
open PySem PySem.Spec L2
open PyProof.Rows hiding St
/-- the run ends well, with a value and a heap of which Q holds -/
structure Wp {A : Type} (r : Res A) (Q : A → IH → Prop) : Prop where
 out : match r with
  | .ok a h => Q a h
  | _ => False
section
variable {A B : Type} {r : Res A} {k : A → IH → Res B} {P Q : A → IH → Prop} {R : B → IH → Prop} {a : A} {h hp : IH}
theorem Wp.ok (q : Q a h) : Wp (.ok a h) Q := ⟨q⟩
theorem Wp.ex (q : Wp r Q) : ∃ a h, r = .ok a h ∧ Q a h := by
 obtain ⟨q⟩ := q
 cases r <;> first | exact ⟨_, _, rfl, q⟩ | exact q.elim
theorem Wp.bind (q : Wp r fun a h => Wp (k a h) R) : Wp (r.bind k) R := by
 obtain ⟨a, h, rfl, q2⟩ := q.ex
 exact q2
theorem Wp.noEr (q : Wp r Q) : Wp (noEr r) Q := by
 obtain ⟨a, h, rfl, q2⟩ := q.ex
 exact Wp.ok q2
theorem Wp.mono (q : Wp r P) (i : ∀ a h, P a h → Q a h) : Wp r Q := by
 obtain ⟨a, h, rfl, q2⟩ := q.ex
 exact Wp.ok (i _ _ q2)
theorem Wp.of (e : r = .ok a h) (q : Q a h) : Wp r Q := by rw [e]; exact Wp.ok q
theorem Wp.rw {r' : Res A} (e : r = r') (q : Wp r' Q) : Wp r Q := by rw [e]; exact q
theorem Wp.ite {c : Prop} [Decidable c] {x y : Res A} (t : c → Wp x Q) (f : ¬ c → Wp y Q) : Wp (if c then x else y) Q := by
 split
 ·exact t ‹_›
 ·exact f ‹_›
theorem Wp.itt {c : Prop} [Decidable c] {x y : Res A} (hc : c) (t : Wp x Q) : Wp (if c then x else y) Q := by rw [if_pos hc]; exact t
theorem Wp.itf {c : Prop} [Decidable c] {x y : Res A} (hc : ¬ c) (t : Wp y Q) : Wp (if c then x else y) Q := by rw [if_neg hc]; exact t
end
section
variable {eta : IS} {hp : IH} {Q : W → IH → Prop} {QL : List W → IH → Prop} {QB : Bool → IH → Prop} {QF : Fl → IH → Prop}
theorem zb6 {i : Nat} {w : W} (e : eta[i]? = some (some w)) (q : Q w hp) : Wp (mVar i eta hp) Q := Wp.of (varP e) q
theorem vc_c {x : T} (q : Q (.t x) hp) : Wp (mC x eta hp) Q := Wp.ok q
theorem vc_bin {f : Op2} {Fa Fb : M W} (q : Wp (Fa eta hp) fun a h1 => Wp (Fb eta h1) fun b h2 => Wp (f a b h2) Q) : Wp (mBin f Fa Fb eta hp) Q := Wp.bind (q.mono fun _ _ q => Wp.bind q)
theorem vc_un {f : Op1} {Fa : M W} (q : Wp (Fa eta hp) fun a h1 => Wp (f a h1) Q) : Wp (mUn f Fa eta hp) Q := Wp.bind q
theorem zbh (q : QL [] hp) : Wp (mNil eta hp) QL := Wp.ok q
theorem zan {Fa : M W} {Fr : M (List W)} (q : Wp (Fa eta hp) fun a h1 => Wp (Fr eta h1) fun r h2 => QL (a :: r) h2) : Wp (zab Fa Fr eta hp) QL := Wp.bind (q.mono fun _ _ q => Wp.bind Ydn)
theorem vc_app {f : OpN} {Fs : M (List W)} (q : Wp (Fs eta hp) fun ws h1 => Wp (f ws h1) Q) : Wp (mApp f Fs eta hp) Q := Wp.bind q
theorem vc_test {f : W → IH → Res Bool} {F : M W} (q : Wp Yf4 fun a h1 => Wp (f a h1) QB) : Wp (zai f F eta hp) QB := Wp.bind q
theorem vc_asB {b : Bool} (q : QB b hp) : Wp (asB Ye7 hp) QB := Wp.ok q
theorem vc_and {U V : M Bool} (q : Wp (U eta hp) fun a h1 => Wp (if a then V eta h1 else .ok false h1) QB) : Wp (mAnd U V eta hp) QB := Wp.bind q
theorem vc_or {U V : M Bool} (q : Wp (U eta hp) fun a h1 => Wp (if a then .ok true h1 else V eta h1) QB) : Wp (mOr U V eta hp) QB := Wp.bind q
theorem vc_not {U : M Bool} (q : Wp (U eta hp) fun a h1 => QB (!a) h1) : Wp (mNot U eta hp) QB := Wp.bind Ydn
theorem vc_if {A : Type} {QA : A → IH → Prop} {U : M Bool} {F G : M A} (q : Wp (U eta hp) fun b h1 => Wp (if b then F eta h1 else G eta h1) QA) : Wp (mIf U F G eta hp) QA := Wp.bind q
theorem zc2 (q : QF Ydu hp) : Wp (zbm eta hp) QF := Wp.ok q
theorem za2 {S R : M Fl} (q : Wp (S eta hp) fun fl h1 => Wp (thenF R fl h1) QF) : Wp (mSeq S R eta hp) QF := Wp.bind q
theorem zbp {R : M Fl} {e : IS} (q : Wp (R e hp) QF) : Wp (thenF R (.nx e) hp) QF := q
theorem vc_rt {R : M Fl} {w : W} (q : QF (.rt w) hp) : Wp (thenF R (.rt w) hp) QF := Wp.ok q
theorem vc_ret {F : M W} (q : Wp Yf4 fun a h1 => QF (.rt a) h1) : Wp (mRet F eta hp) QF := Wp.bind Ydn
theorem vc_drop {F : M W} (q : Wp Yf4 fun _ h1 => QF Ydu h1) : Wp (mDrop F eta hp) QF := Wp.bind Ydn
theorem zcu {i : Nat} {F : M W} (q : Wp Yf4 fun a h1 => QF (.nx Ygc) h1) : Wp (mSet i F eta hp) QF := Wp.bind Ydn
theorem vc_asg {F : M W} {G : W → IS → Option IS} (q : Wp Yf4 fun a h1 => ∃ e, G a eta = some e ∧ QF (.nx e) h1) : Wp (mAsg F G eta hp) QF := Wp.bind (q.mono fun a h1 ⟨e, he, q⟩ => by show Wp (match G a eta with | some e => .ok (.nx e) h1 | none => .bad) QF; rw [he]; exact Wp.ok q)
theorem vc_par2 {i j : Nat} {Fs : M (List W)} (q : Wp (Fs eta hp) fun ws h1 => ∃ a b, ws = [a, b] ∧ QF (.nx ((eta.set i (some a)).set j (some b))) h1) : Wp (mPar [i, j] Fs eta hp) QF := Wp.bind (q.mono fun ws h1 ⟨a, b, he, q⟩ => by subst he; exact Wp.ok q)
theorem vc_parG {n : Nat} {Fs : M (List W)} {Gs : List W → IS → Option IS} (q : Wp (Fs eta hp) fun ws h1 => (ws.length = n ∧ n ≤ 16777216) ∧ ∃ e, Gs ws eta = some e ∧ QF (.nx e) h1) : Wp (mParG n Fs Gs eta hp) QF := Wp.bind (q.mono fun ws h1 ⟨hl, e, he, q⟩ => by
 show Wp (if ws.length = n ∧ n ≤ 16777216 then (match Gs ws eta with | some e => .ok (.nx e) h1 | none => .bad) else .bad) QF
 rw [if_pos hl, he]
 exact Wp.ok q)
theorem vc_for {Fi : M (List W)} {G : W → IS → Option IS} {S : M Fl} (q : Wp (Fi eta hp) fun ws h1 => Wp (forL G S ws eta h1) QF) : Wp (mFor Fi G S eta hp) QF := Wp.bind q
theorem vc_sq {F : M W} (q : Wp Yf4 fun a h1 => Wp (sqI a h1) QL) : Wp (mSq F eta hp) QL := Wp.bind q
theorem vc_src {f : List W → IH → Res (List W)} {Fs : M (List W)} (q : Wp (Fs eta hp) fun ws h1 => Wp (f ws h1) QL) : Wp (mSrc f Fs eta hp) QL := Wp.bind q
theorem zd3 {f : OpN} {Fs : M (List W)} (q : Wp (Fs eta hp) fun ws h1 => Wp (f ws h1) Q) : Wp (zaz f [] Fs eta hp) Q := Wp.bind (q.mono fun ws h1 q => by
 show Wp (noEr (f (ws ++ [].map W.t) h1)) Q
 rw [List.map_nil, List.append_nil]
 exact Wp.noEr q)
theorem vc_callD {f : OpN} {ds : List T} {Fs : M (List W)} (q : Wp (Fs eta hp) fun ws h1 => Wp (f (ws ++ ds.map W.t) h1) Q) : Wp (zaz f ds Fs eta hp) Q := Wp.bind (q.mono fun ws h1 q => Wp.noEr q)
theorem vc_meth {ty : W → IH → Bool} {f : OpM} {Fo : M W} {Fs : M (List W)} (q : Wp (Fo eta hp) fun w h1 => ty w h1 = true ∧ Wp (Fs eta h1) fun ws h2 => Wp (f w ws h2) Q) : Wp (mMeth ty f Fo Fs eta hp) Q := Wp.bind (q.mono fun w h1 ⟨t, q⟩ => by
 show Wp (if ty w h1 = true then (Fs eta h1).bind fun ws h2 => f w ws h2 else .bad) Q
 rw [if_pos t]
 exact Wp.bind q)
theorem vc_sl {Fa : M W} {Fl Fh : MO} (q : Wp (Fa eta hp) fun a h1 => Wp (Fl eta h1) fun l h2 => Wp (Fh eta h2) fun h h3 => Wp (slW a l h h3) Q) : Wp (mSl Fa Fl Fh eta hp) Q := Wp.bind Yhi
theorem vc_slL {Fa : M W} {Fl Fh : MO} (q : Wp (Fa eta hp) fun a h1 => Wp (Fl eta h1) fun l h2 => Wp (Fh eta h2) fun h h3 => Wp (slL a l h h3) Q) : Wp (mSlL Fa Fl Fh eta hp) Q := Wp.bind Yhi
theorem vc_noPart {QO : Option Int → IH → Prop} (q : QO none hp) : Wp (zbb eta hp) QO := Wp.ok q
theorem vc_part {QO : Option Int → IH → Prop} {F : M W} (q : Wp Yf4 fun a h1 => ∃ i, a = .t (.int i) ∧ QO (some i) h1) : Wp (zc8 F eta hp) QO := Wp.bind (q.mono fun a h1 ⟨i, e, q⟩ => by subst e; exact Wp.ok q)
theorem vc_fz {i : Nat} {S : M Fl} {w : W} (e : eta[i]? = some (some w)) (q : Wp (zcz w hp) fun w' h1 => Wp (S (eta.set i (some w')) h1) QF) : Wp (mFz i S eta hp) QF := by
 rw [p_fz, e]
 exact Wp.bind q
theorem vc_comp {fin : OpN} {Fi : M (List W)} {G : W → IS → Option IS} {U : M Bool} {E : M W} {vs : List Nat} (q : Wp (Fi eta hp) fun ws h1 => ws.length ≤ 16777216 ∧ Wp (zc3 G U E (wipeI eta vs) ws h1) fun r h2 => Wp (fin r h2) Q) : Wp (zba fin Fi G U E vs eta hp) Q := Wp.bind (q.mono fun ws h1 ⟨hl, q⟩ => by
 show Wp (if ws.length ≤ 16777216 then (zc3 G U E (wipeI eta vs) ws h1).bind fun r h2 => fin r h2 else .bad) Q
 rw [if_pos hl]
 exact Wp.bind q)
theorem vc_chain {f g : Op2} {Fa Fb Fc : M W} (q : Wp (Fa eta hp) fun a h1 => Wp (Fb eta h1) fun b h2 => Wp (f a b h2) fun z h3 => ∃ t, z = .t (.bl t) ∧ if t then Wp (Fc eta h3) fun c h4 => Wp (g b c h4) Q else Q (.t Yx) h3) : Wp (mChain f g Fa Fb Fc eta hp) Q :=
 Wp.bind (q.mono fun _ _ q => Wp.bind (q.mono fun _ _ q => Wp.bind (q.mono fun z h3 ⟨t, e, q⟩ => by subst e; cases t <;> first | exact Wp.ok q | exact Wp.bind q)))
theorem vc_fld {cs : List Str} {f : Str} {F : M W} (q : Wp Yf4 fun a h1 => Wp (fldW cs f a h1) Q) : Wp (mFld cs f F eta hp) Q := Wp.bind q
theorem vc_yes (q : QB true hp) : Wp (mYes eta hp) QB := Wp.ok q
theorem vc_newL {ws : List W} (hl : ws.length ≤ 16777216) (q : Q Ycn Ygu) : Wp (newL ws hp) Q := by
 unfold newL
 rw [if_pos hl]
 exact Wp.ok q
theorem vc_lstE {ws : List W} {ts : List T} (e : allT ws = some ts) (hl : ts.length ≤ 16777216) (q : Q Y8 hp) : Wp (zaq ws hp) Q := by
 unfold zaq
 simp only [e, hl, if_true]
 exact Wp.ok q
theorem vc_tupE {ws : List W} {ts : List T} (e : allT ws = some ts) (hl : ts.length ≤ 16777216) (q : Q Yag hp) : Wp (zbj ws hp) Q := by
 unfold zbj
 simp only [e, hl, if_true]
 exact Wp.ok q
theorem allT_ts : ∀ ts : List T, allT Yo = some ts
 | [] => rfl
 | t :: ts => by simp only [List.map_cons, allT, allT_ts ts]; rfl
theorem vc_lstM {ts : List T} (hl : ts.length ≤ 16777216) (q : Q Y8 hp) : Wp (zaq Yo hp) Q := vc_lstE (allT_ts ts) hl q
theorem vc_sqL {ts : List T} (q : QL Yo hp) : Wp (sqI Y8 hp) QL := Wp.ok q
theorem vc_sqT {ts : List T} (q : QL Yo hp) : Wp (sqI Yag hp) QL := Wp.ok q
theorem vc_slWl {ts : List T} {lo hi : Option Int} (q : Q (.t (.lst Yft)) hp) : Wp (slW Y8 lo hi hp) Q := Wp.ok q
theorem vc_slWt {ts : List T} {lo hi : Option Int} (q : Q (.t (.tup Yft)) hp) : Wp (slW Yag lo hi hp) Q := Wp.ok q
theorem vc_slLl {ts : List T} {lo hi : Option Int} (q : Q Ycn (hp ++ [some (.lst (cutL Yo lo hi))])) : Wp (slL Y8 lo hi hp) Q := Wp.ok q
theorem vc_sm {f : OpM} {Fo Fe : M W} (q : Wp (Fo eta hp) fun w h1 => ∃ a, w = .t (.str a) ∧ Wp (Fe eta h1) fun u h2 => Wp (f Yf2 [u] h2) Q) : Wp (mSM f Fo Fe eta hp) Q := Wp.bind (q.mono fun w h1 ⟨a, e, q⟩ => by subst e; exact Wp.bind q)
theorem vc_frz {F : M W} (q : Wp Yf4 fun a h1 => Wp (zcz a h1) Q) : Wp (mFrz F eta hp) Q := Wp.bind q
theorem vc_frzD {F : M W} (q : Wp Yf4 fun a h1 => Wp (freezeD a h1) Q) : Wp (mFrzD F eta hp) Q := Wp.bind q
theorem vc_fnM {n nn : Nat} {B : M Fl} {ws : List W} {eta : IS} (hl : ws.length = n) (he : ws.map some ++ List.replicate (nn - n) none = eta) (q : Wp (B eta hp) fun fl h1 => ∃ w, fl = .rt w ∧ Q w h1) : Wp (fnM n nn B ws hp) Q := by
 obtain ⟨fl, h1, e, w, rfl, q⟩ := q.ex
 exact Wp.of (fnM_ok hl he e) q
theorem vc_fnP {n nn : Nat} {B : M Fl} {ts : List T} {eta : IS} (hl : ts.length = n) (he : (ts.map W.t).map some ++ List.replicate (nn - n) none = eta) (q : Wp (B eta []) fun fl _ => ∃ t, fl = .rt (.t t) ∧ Q (.t t) hp) : Wp (fnP n nn B Yo hp) Q := by
 obtain ⟨fl, h1, e, t, rfl, q⟩ := q.ex
 exact Wp.of (zdz hl he e) q
/-- a loop: I holds ahead of each turn, of what is still to come -/
theorem vc_loop {G : W → IS → Option IS} {S : M Fl} (I : List W → IS → IH → Prop) (turn : ∀ w ws eta hp, I (w :: ws) eta hp → ∃ e1, G w eta = some e1 ∧ Wp (S e1 hp) fun fl h => ∃ e, fl = .nx e ∧ I ws e h) : ∀ (ws : List W) (eta : IS) (hp : IH), I ws eta hp → (∀ e h, I [] e h → QF (.nx e) h) → Wp (forL G S ws eta hp) QF
 | [], eta, hp, i, q => Wp.ok (q _ _ i)
 | w :: ws, eta, hp, i, q => by
  obtain ⟨e1, g, t⟩ := turn w ws eta hp i
  obtain ⟨fl, h, e, e2, rfl, i2⟩ := t.ex
  have r := vc_loop I turn ws e2 h i2 q
  simp only [forL, g]
  rw [e, zae]
  exact r
/-- a comprehension: acc is what has been gathered -/
theorem vc_compL {G : W → IS → Option IS} {U : M Bool} {E : M W} (I : List W → List W → IH → Prop) (turn : ∀ w ws acc hp, I (w :: ws) acc hp → ∃ e1, G w eta = some e1 ∧ Wp (U e1 hp) fun b h1 => if b then Wp (E e1 h1) fun x h2 => I ws (acc ++ [x]) h2 else I ws acc h1) : ∀ (ws acc : List W) (hp : IH) (QL : List W → IH → Prop), I ws acc hp → (∀ r h, I [] (acc ++ r) h → QL r h) → Wp (zc3 G U E eta ws hp) QL
 | [], acc, hp, QL, i, q => Wp.ok (q [] _ (by rw [List.append_nil]; exact i))
 | w :: ws, acc, hp, QL, i, q => by
  obtain ⟨e1, g, t⟩ := turn w ws acc hp i
  obtain ⟨b, h1, eb, t⟩ := t.ex
  simp only [zc3, turnL, g, noEr_bind, Res.bind_assoc, eb, zb8, zae]
  cases b with
  | false =>
   have := vc_compL I turn ws acc h1 QL (by simpa using t) q
   simp only [Bool.false_eq_true, if_false, zb8, zae]
   exact Wp.bind (this.mono fun _ _ q => Wp.ok q)
  | true =>
   simp only [if_true] at t ⊢
   obtain ⟨x, h2, ex, i2⟩ := t.ex
   have := vc_compL I turn ws (acc ++ [x]) h2 (fun r h => QL (x :: r) h) i2 fun r h i => q (x :: r) h (by rw [List.append_assoc] at i; exact i)
   simp only [ex, zb8, zae]
   exact Wp.bind (this.mono fun _ _ q => Wp.ok q)
end
end Mir
namespace D
open PySem PySem.Spec L2 Mir
open PyProof.Rows hiding St
theorem exm_self {K : PySem.W.Frag} {S : Addr} (h1 : PySem.W.subIn K (.ref S) Yg6 = some true) (h2 : PySem.W.isClsIn K S = true) (h3 : PySem.W.typeIn K (.ref S) = some (.type "type")) (h4 : PySem.W.subIn K (.ref S) (.ref S) = some true) : PySem.W.exmOne K (.ref S) (.ref S) = some true := by
 have h2' : (PySem.W.clsIn K S).isSome = true := h2
 unfold PySem.W.exmOne
 simp [PySem.W.kitCls, h1, h2', h3, h4]
abbrev DFn (K : PySem.W.Frag) (x q : Str) (s : Stmt) (a : Addr) (d : FuncData) : Prop := FunD K x q (defArgs s) (defBody s) (defScope s) [] [] a d
def MDf (K : PySem.W.Frag) (x : Str) (s : Stmt) (a : Addr) (d : FuncData) : Prop := PySem.W.nsIn K mainGlobals x = some (some (.ref a)) ∧ DFn K x x s a d
def HDf (K : PySem.W.Frag) (C : Addr) (x q : Str) (s : Stmt) (a : Addr) (d : FuncData) : Prop := PySem.W.findIn K (.ref C) x = some (some (.ref a)) ∧ PySem.W.isFn K (.ref a) = true ∧ DFn K x q s a d
section
variable {K : PySem.W.Frag} {x q : Str} {s : Stmt} {C a : Addr} {d : FuncData}
theorem DFn.of {oc kV dc pm cd ct : Value} {od an : Option Addr} {sl : Array Ybk} (h1 : K.lookup a = some ⟨oc, od, .func Yan, sl⟩) (h2 : PySem.W.codeIn K cd q = true) (h3 : PySem.W.keepIn K (.ref a) = true) :
  DFn K x q s a Yan := ⟨⟨oc, od, .none, kV, dc, pm, an, cd, ct, sl, rfl, h1, h2, .inl ⟨rfl, rfl⟩, .inl rfl⟩, h3⟩
theorem _root_.PyProof.Rows.FunD.kp {A : Arguments} {B : List Stmt} {S : Scope} {l : List V} {k : List Yc2} (h : FunD K x q A B S l k a d) : PySem.W.keepIn K (.ref a) = true := h.2
theorem MDf.of {oc kV dc pm cd ct : Value} {od an : Option Addr} {sl : Array Ybk} (h0 : PySem.W.nsIn K mainGlobals x = some (some (.ref a))) (h1 : K.lookup a = some ⟨oc, od, .func Yfl, sl⟩) (h2 : PySem.W.codeIn K cd x = true) (h3 : PySem.W.keepIn K (.ref a) = true) :
  MDf K x s a Yfl := ⟨h0, DFn.of h1 h2 h3⟩
theorem HDf.of {oc kV dc pm cd ct : Value} {od an : Option Addr} {sl : Array Ybk} (h0 : PySem.W.findIn K (.ref C) x = some (some (.ref a))) (h4 : PySem.W.isFn K (.ref a) = true) (h1 : K.lookup a = some ⟨oc, od, .func Yan, sl⟩) (h2 : PySem.W.codeIn K cd q = true) (h3 : PySem.W.keepIn K (.ref a) = true) :
  HDf K C x q s a Yan := ⟨h0, h4, DFn.of h1 h2 h3⟩
theorem kt_of {t : Value} (hd : PySem.W.hasDictIn K C = true) (ty : PySem.W.typeIn K (.ref C) = some (.type "type")) (s : PySem.W.subIn K t (.ref C) = some false) (ne : (t == .ref C) = false) : PySem.W.kitOne K t (.ref C) = some false := by
 obtain ⟨cd, hc, _⟩ := PySem.W.any_some hd
 unfold PySem.W.kitOne
 rw [ne, if_neg Ybr]
 show (if _ then _ else _) = _
 rw [if_pos (by rw [hc, ty]; rfl)]
 exact s
theorem ne_of {B : Addr} (h : C ≠ B) : ((Value.ref C) == .ref B) = false := Bool.eq_false_iff.mpr fun q => h (Value.ref.inj (beq_iff_eq.mp q))
theorem HDf.me (h : HDf K C x q s a d) : Meth K C x a := ⟨h.1, h.2.1, h.2.2.kp⟩
theorem pp_of {p : Addr} {rs : List Value} (h1 : PySem.W.findIn K (.ref C) x = some (some (.ref p))) (h2 : PySem.W.specialIn K (.ref p) "__get__" = some (some (.builtin "property.__get__"))) (h3 : PySem.W.takesIn K (.ref p) = some true) (h4 : PySem.W.recIn K p "property" = some (.ref a :: rs)) : PropOf K C x p a := ⟨h1, h2, h3, ⟨_, h4⟩⟩
end
theorem law_sp {K : PySem.W.Frag} {w : World} {F : OpN} {H : Hp} {a : Addr} {ns : List Int} (hF : ∃ hp', F [.t Yaj] [] = .ok (.t Yb5) hp')
  (h : (∃ o, H a = some Ygn) ∨ (∃ (o : Obj) (its : Array Value) (m : Nat), K.lookup a = some o ∧ o.cls = .type "list" ∧ o.dict = none ∧ o.data = .seq its m ∧ its.size ≤ sizeLine ∧ Vals Yda its.toList)) :
  spM K w F 1 [.ref a] H (fun v _ => v = .bl true) fun _ _ _ => False := by
 obtain ⟨hp', e⟩ := hF
 let s : S4 := ⟨[], fun b => b = a ∧ ∃ o, H a = some Ygn, [], H⟩
 have nl : ∀ b, ¬ Live s b := fun b l => by
  obtain ⟨i, c, e1, _⟩ := l
  simp [s] at e1
 have R : Rel K w s := ⟨rfl, List.nodup_nil, fun b m => absurd m (by simp [s]), fun b f => by obtain ⟨e1, o, e2⟩ := f; subst e1; show H b ≠ none; rw [e2]; simp, fun b l => absurd l (nl b), fun i c b e1 => by simp [s] at e1⟩
 refine ⟨s, [.t Yaj], rfl, R, ?_, rfl, ?_⟩
 ·refine ⟨.ref a, [], rfl, ?_, rfl⟩
  simp only [Rw, Rf]
  refine ⟨a, ns.map V.int, rfl, ?_, ints_rf ns⟩
  rcases h with ⟨o, h⟩ | h
  ·exact .inl ⟨⟨rfl, o, h⟩, o, h⟩
  ·exact .inr h
 ·show Go K w W0 (Rw K) s (noEr (F [.t Yaj] [])) _
  rw [e]
  intro b s' _ _ _ r
  simpa only [Rw, Rf] using r
theorem no_cx {P : Program} {w : World} {o : List Env} {H : Hp} {s : Shared} {e : Value} {s' : Shared} (h : L2.CX P w o H s Yey e s') : False := by
 obtain ⟨_, _, _, _, _, _, _, _, _, _, _, _, f⟩ := h
 exact f
def topS (i : Nat) : Stmt := PySem.Challenge.pw_untorn_k05_readers_made.main.body.getD i (.Pass ⟨0, 0, 0, 0⟩)
abbrev s_w_deal : Stmt := topS 31
abbrev ylq : Stmt := topS 32
abbrev yj4 : Stmt := topS 34
abbrev ylr : Stmt := topS 33
abbrev ymv : Stmt := topS 35
abbrev ycy : Stmt := topS 36
abbrev yhe : Stmt := topS 37
abbrev yjh : Stmt := topS 41
abbrev ydj : Stmt := topS 38
abbrev ybu : Stmt := topS 39
abbrev yhf : Stmt := topS 11
abbrev yfx : Stmt := topS 10
abbrev yj5 : Stmt := topS 22
abbrev ycb : Stmt := topS 23
abbrev yfq : Stmt := topS 12
abbrev yj6 : Stmt := topS 24
abbrev yfv : Stmt := topS 25
abbrev yey : Stmt := topS 26
abbrev yh : Stmt := inClass (topS 29) 0
abbrev ydk : Stmt := inClass (topS 29) 2
abbrev ygd : Stmt := inClass (topS 29) 3
abbrev yge : Stmt := inClass (topS 29) 6
abbrev yez : Stmt := topS 40
abbrev yh1 : Stmt := inClass (topS 29) 5
abbrev yji : Stmt := inClass (topS 28) 6
abbrev yj7 : Stmt := inClass (topS 28) 5
abbrev yh2 : Stmt := inClass (topS 28) 0
abbrev yno : Stmt := topS 42
abbrev AllMk (F : OpN) : Prop := ∀ {l : PySem.W.OpenLaw} {w : World} {K : PySem.W.Frag} {h : Heap} {mg : Str → Option Value} {fa : Addr} (KX : K.In h) (G : h.Ns mainGlobals mg) (hfa : mg "law" = some (.ref fa))
  {ye : Addr} (y9 : PySem.W.nsIn K mainGlobals "Kind" = some (some Yby))
  (ykw : PySem.W.plainGet K ye Str.empty = true)
  (yen : PySem.W.hasDictIn K ye = true)
  (ykx : PySem.W.plainOver K ye = true)
  (yky : PySem.W.findIn K Yby "__setattr__" = some Ydk)
  (ykz : PySem.W.makesIn K ye = true)
  (yk0 : PySem.W.keepIn K Yby = true)
  (yec : PySem.W.findIn K Yby "deeds" = some none)
  (yed : PySem.W.findIn K Yby "steps" = some none)
  (ye0 : PySem.W.findIn K Yby "name" = some none)
  (ss_Kind : PySem.W.subIn K Yby Ycf = some false)
  (st_Kind : PySem.W.subIn K Yby Yb0 = some false)
  (sn_Kind : PySem.W.subIn K Yby Ybx = some false)
  {ya : Addr} (yq : PySem.W.nsIn K mainGlobals "Reader" = some (some Ya4))
  (yhg : PySem.W.plainGet K ya Str.empty = true)
  (yb8 : PySem.W.hasDictIn K ya = true)
  (yhh : PySem.W.plainOver K ya = true)
  (yhi : PySem.W.findIn K Ya4 "__setattr__" = some Ydk)
  (yhj : PySem.W.makesIn K ya = true)
  (yhk : PySem.W.keepIn K Ya4 = true)
  (yc5 : PySem.W.findIn K Ya4 "tests" = some none)
  (yc6 : PySem.W.findIn K Ya4 "deeds" = some none)
  (ycc : PySem.W.findIn K Ya4 "checks" = some none)
  (yc7 : PySem.W.findIn K Ya4 "steps" = some none)
  (ydl : PySem.W.findIn K Ya4 "name" = some none)
  (nn_Reader : PySem.W.findIn K Ya4 "__ne__" = some (some Ybg))
  (no_Reader : PySem.W.mroIn K ya Yek = some true)
  (ss_Reader : PySem.W.subIn K Ya4 Ycf = some false)
  (st_Reader : PySem.W.subIn K Ya4 Yb0 = some false)
  (sn_Reader : PySem.W.subIn K Ya4 Ybx = some false)
  (sb_Reader_Kind : PySem.W.subIn K Ya4 Yby = some false)
  (sb_Kind_Reader : PySem.W.subIn K Yby Ya4 = some false)
  (ne_Reader_Kind : ya ≠ ye)
  (ih : PySem.W.specialIn K Ybi "__get__" = some (some (.builtin "getset_descriptor.__get__")))
  (it : PySem.W.takesIn K Ybi = some true)
  (ia_Kind : PySem.W.findIn K Yby "__class__" = some (some Ybi))
  (im_Kind : PySem.W.mroIn K ye Yek = some true)
  (ia_Reader : PySem.W.findIn K Ya4 "__class__" = some (some Ybi))
  (im_Reader : PySem.W.mroIn K ya Yek = some true)
  (ty_Kind : PySem.W.typeIn K Yby = some (.type "type"))
  (ks_str_Kind : PySem.W.subIn K Ycf Yby = some false)
  (ks_tuple_Kind : PySem.W.subIn K Yb0 Yby = some false)
  (ycd : PySem.W.subIn K Ybx Yby = some false)
  (ty_Reader : PySem.W.typeIn K Ya4 = some (.type "type"))
  (ks_str_Reader : PySem.W.subIn K Ycf Ya4 = some false)
  (ks_tuple_Reader : PySem.W.subIn K Yb0 Ya4 = some false)
  (ybl : PySem.W.subIn K Ybx Ya4 = some false)
  {yd : Addr} (ybv : PySem.W.nsIn K mainGlobals "InvalidKind" = some (some Ygi))
  {yif yig : Str} {yih : Addr} {yii ye9 : List Value} {yij : List Str} {yik : List Value} {yil : Bool} {yim : Option Bool} {yin : Option Addr} {yio yip yiq yir yis : Option Value} (ydm : K.lookup yd = some (excClassObj yif yig yd yih yii ye9 true yij yik yil yim yin yio yip yiq yir yis "ValueError.__new__"))
  (ydn : PySem.HandSPX.refsVE ye9 = true)
  (yc8 : PySem.W.findIn K Ygi "__setattr__" = some Ydk)
  (ybw : PySem.W.subIn K Ygi Yg6 = some true)
  (ybx : PySem.W.typeIn K Ygi = some (.type "type"))
  (ydo : PySem.W.keepIn K Ygi = true)
  {y7 : Addr} (yby : PySem.W.findIn K Ygi "__init__" = some (some (.ref y7)))
  (ybz : PySem.W.typeIn K (.ref y7) = some Yfn)
  {yit ydp ydq ydr yds : Value} {yiu ydt : Option Addr} {yav yb0 : Addr} {yiv : Array Ybk} (ydu : K.lookup y7 = some ⟨yit, yiu, .func Ys, yiv⟩)
  (ydv : PySem.W.codeIn K (.ref yav) "InvalidKind.__init__" = true)
  {yiw : Value} {yix : Option Addr} {yfa : Array Value} {yiy : Array Ybk} {yfb : Str} {yiz : Tok} (ydw : K.lookup yav = some ⟨yiw, yix, .fields yfa, yiy⟩)
  (ydx : yfa[2]? = some (.str yfb yiz))
  (ydy : ((l.prog.main.file : Str) == yfb) = true)
  {yi0 : Value} {yi1 : Option Addr} {yi2 : Array Ybk} (ydz : K.lookup yb0 = some ⟨yi0, yi1, .cell (some Ygi), yi2⟩)
  (yd0 : PySem.W.ks_superIn K yd yd "__init__" = some Ydd)
  (yd1 : PySem.W.subIn K Ygi (.type "ValueError") = some true)
  (yd2 : PySem.W.mroIn K yd Ygi = some true)
  (yc9 : PySem.W.findIn K Ygi "word" = some none)
  (yda : PySem.W.isClsIn K yd = true)
  (ydb : PySem.W.subIn K Ygi Ygi = some true)
  {yb : Addr} (ybc : PySem.W.nsIn K mainGlobals "InvalidReader" = some (some Ygj))
  {ygf ygg : Str} {ygh : Addr} {ygi yeh : List Value} {ygj : List Str} {ygk : List Value} {ygl : Bool} {ygm : Option Bool} {ygn : Option Addr} {ygo ygp ygq ygr ygs : Option Value} (yce : K.lookup yb = some (excClassObj ygf ygg yb ygh ygi yeh true ygj ygk ygl ygm ygn ygo ygp ygq ygr ygs "ValueError.__new__"))
  (ycf : PySem.HandSPX.refsVE yeh = true)
  (ybq : PySem.W.findIn K Ygj "__setattr__" = some Ydk)
  (ybd : PySem.W.subIn K Ygj Yg6 = some true)
  (ybe : PySem.W.typeIn K Ygj = some (.type "type"))
  (ycg : PySem.W.keepIn K Ygj = true)
  {y5 : Addr} (ybf : PySem.W.findIn K Ygj "__init__" = some (some (.ref y5)))
  (ybg : PySem.W.typeIn K (.ref y5) = some Yfn)
  {ygt ych yci ycj yck : Value} {ygu ycl : Option Addr} {yaa ybh : Addr} {ygv : Array Ybk} (ycm : K.lookup y5 = some ⟨ygt, ygu, .func Yr, ygv⟩)
  (ycn : PySem.W.codeIn K (.ref yaa) "InvalidReader.__init__" = true)
  {ygw : Value} {ygx : Option Addr} {yei : Array Value} {ygy : Array Ybk} {yej : Str} {ygz : Tok} (yco : K.lookup yaa = some ⟨ygw, ygx, .fields yei, ygy⟩)
  (ycp : yei[2]? = some (.str yej ygz))
  (ycq : ((l.prog.main.file : Str) == yej) = true)
  {yg0 : Value} {yg1 : Option Addr} {yg2 : Array Ybk} (ycr : K.lookup ybh = some ⟨yg0, yg1, .cell (some Ygj), yg2⟩)
  (ycs : PySem.W.ks_superIn K yb yb "__init__" = some Ydd)
  (yct : PySem.W.subIn K Ygj (.type "ValueError") = some true)
  (ycu : PySem.W.mroIn K yb Ygj = some true)
  (ybr : PySem.W.findIn K Ygj "word" = some none)
  (ybs : PySem.W.isClsIn K yb = true)
  (ybt : PySem.W.subIn K Ygj Ygj = some true)
  (xsup : PySem.W.nsIn K mainGlobals "super" = some none)
  (xany : PySem.W.nsIn K PySem.cStatics "thirdparty.any" = some none)
  (xtop : (l.prog.main.scope.names.lookup ("super" : Str)).isSome = false)
  {v_MOST_LETTERS : Tok} (w_MOST_LETTERS : PySem.W.nsIn K mainGlobals "MOST_LETTERS" = some (some (.int (4) v_MOST_LETTERS)))
  {v_MOST_DIGITS : Tok} (w_MOST_DIGITS : PySem.W.nsIn K mainGlobals "MOST_DIGITS" = some (some (.int (9) v_MOST_DIGITS)))
  {v_LETTERS : Tok} (w_LETTERS : PySem.W.nsIn K mainGlobals "LETTERS" = some (some (.str "abcdefghijklmnopqrstuvwxyz" v_LETTERS)))
  {v_DIGITS : Tok} (w_DIGITS : PySem.W.nsIn K mainGlobals "DIGITS" = some (some (.str "0123456789" v_DIGITS)))
  {yfc : Addr} {o_BARRED : Obj} {us_BARRED : List Value} {yjj : Nat} (w_BARRED : PySem.W.nsIn K mainGlobals "BARRED" = some (some (.ref yfc)))
  (lk_BARRED : K.lookup yfc = some o_BARRED)
  (yeo : o_BARRED.cls = .type "tuple")
  (yep : o_BARRED.dict = none)
  (oa_BARRED : o_BARRED.data = .seq us_BARRED.toArray yjj)
  (or_BARRED : Vals Yfm us_BARRED)
  (oz_BARRED : us_BARRED.length ≤ 1000)
  {yaw : Addr} {o_READER_WORDS : Obj} {us_READER_WORDS : List Value} {yd3 : Nat} (w_READER_WORDS : PySem.W.nsIn K mainGlobals "READER_WORDS" = some (some (.ref yaw)))
  (lk_READER_WORDS : K.lookup yaw = some o_READER_WORDS)
  (yah : o_READER_WORDS.cls = .type "tuple")
  (yai : o_READER_WORDS.dict = none)
  (oa_READER_WORDS : o_READER_WORDS.data = .seq us_READER_WORDS.toArray yd3)
  (or_READER_WORDS : Vals ((["read", "look"] : List Str).map V.str) us_READER_WORDS)
  (oz_READER_WORDS : us_READER_WORDS.length ≤ 1000)
  {yax : Addr} {o_WRITER_WORDS : Obj} {us_WRITER_WORDS : List Value} {yd4 : Nat} (w_WRITER_WORDS : PySem.W.nsIn K mainGlobals "WRITER_WORDS" = some (some (.ref yax)))
  (lk_WRITER_WORDS : K.lookup yax = some o_WRITER_WORDS)
  (yaj : o_WRITER_WORDS.cls = .type "tuple")
  (yak : o_WRITER_WORDS.dict = none)
  (oa_WRITER_WORDS : o_WRITER_WORDS.data = .seq us_WRITER_WORDS.toArray yd4)
  (or_WRITER_WORDS : Vals ((["write", "bump"] : List Str).map V.str) us_WRITER_WORDS)
  (oz_WRITER_WORDS : us_WRITER_WORDS.length ≤ 1000)
  (ynp : PySem.W.nsIn K mainGlobals "int" = some none)
  (ynq : PySem.W.nsIn K mainGlobals "abs" = some none)
  (ynr : PySem.W.nsIn K mainGlobals "len" = some none)
  (yl2 : PySem.W.nsIn K mainGlobals "list" = some none)
  (yk1 : PySem.W.nsIn K mainGlobals "range" = some none)
  (yfr : PySem.W.nsIn K mainGlobals "enumerate" = some none)
  (yns : PySem.W.nsIn K mainGlobals "str" = some none)
  (ynt : PySem.W.nsIn K mainGlobals "all" = some none)
  (ye1 : PySem.W.nsIn K mainGlobals "isinstance" = some none)
  (yk2 : PySem.W.nsIn K mainGlobals "tuple" = some none)
  (ynu : PySem.W.nsIn K mainGlobals "set" = some none)
  (ynv : PySem.W.nsIn K mainGlobals "max" = some none)
  (ynw : PySem.W.nsIn K mainGlobals "min" = some none)
  (yl3 : PySem.W.nsIn K mainGlobals "repr" = some none)
  {ad_w_deal : Addr} {ymy : FuncData} (yfd : MDf K "_law_deal" s_w_deal ad_w_deal ymy)
  {ad_w_draw : Addr} {ymz : FuncData} (yfe : MDf K "_law_draw" ylq ad_w_draw ymz)
  {ad_w_mixed : Addr} {yl4 : FuncData} (yeq : MDf K "_law_mixed" yj4 ad_w_mixed yl4)
  {ad_w_pick : Addr} {ym0 : FuncData} (yff : MDf K "_law_pick" ylr ad_w_pick ym0)
  {ad_w_put : Addr} {ynz : FuncData} (yga : MDf K "_law_put" ymv ad_w_put ynz)
  {ad_w_glances : Addr} {yj8 : FuncData} (ycz : MDf K "_law_glances" ycy ad_w_glances yj8)
  {ad_w_tests : Addr} {yl5 : FuncData} (yer : MDf K "_law_tests" yhe ad_w_tests yl5)
  {ad_w_titles : Addr} {yk6 : FuncData} (yd5 : MDf K "_law_titles" yjh ad_w_titles yk6)
  {ad_w_deed_texts : Addr} {yhl : FuncData} (yay : MDf K "_law_deed_texts" ydj ad_w_deed_texts yhl)
  {ad_w_test_texts : Addr} {yhm : FuncData} (yaz : MDf K "_law_test_texts" ybu ad_w_test_texts yhm)
  {ad_is_name : Addr} {yl6 : FuncData} (yet : MDf K "is_name" yhf ad_is_name yl6)
  {ad_is_sequence : Addr} {yi3 : FuncData} (ybi : MDf K "is_sequence" yfx ad_is_sequence yi3)
  {ad_deed_in : Addr} {yl7 : FuncData} (yeu : MDf K "deed_in" yj5 ad_deed_in yl7)
  {ad_deeds_in : Addr} {yk7 : FuncData} (yd6 : MDf K "deeds_in" ycb ad_deeds_in yk7)
  {ad_number_in : Addr} {yj9 : FuncData} (yc0 : MDf K "number_in" yfq ad_number_in yj9)
  {ad_spot_in : Addr} {yl8 : FuncData} (yev : MDf K "spot_in" yj6 ad_spot_in yl8)
  {ad_test_in : Addr} {yl9 : FuncData} (yew : MDf K "test_in" yfv ad_test_in yl9)
  {ad_tests_in : Addr} {yk8 : FuncData} (yd7 : MDf K "tests_in" yey ad_tests_in yk8)
  {ad_Reader_init : Addr} {yfg ya0 ya1 ya2 yab ya3 : Value} {yfh ya4 : Option Addr} {sl_Reader_init : Array Ybk}
  {y8 : Addr} {to_Reader_init : Obj} {tn_Reader_init : Nat}
  (at_Reader_init : PySem.W.findIn K Ya4 "__init__" = some (some (.ref ad_Reader_init)))
  (fn_Reader_init : PySem.W.isFn K (.ref ad_Reader_init) = true)
  (yee : K.lookup ad_Reader_init = some ⟨yfg, yfh, .func Yv, sl_Reader_init⟩)
  (yef : PySem.W.codeIn K yab "Reader.__init__" = true)
  (yeg : PySem.W.keepIn K (.ref ad_Reader_init) = true)
  {e_Reader_init : Addr} {eo_Reader_init : Obj} {en_Reader_init : Nat}
  (t_Reader_init : K.lookup y8 = some to_Reader_init)
  (u_Reader_init : to_Reader_init.data = .seq ([.ref e_Reader_init] : List Value).toArray tn_Reader_init)
  (el_Reader_init : K.lookup e_Reader_init = some eo_Reader_init)
  (ec_Reader_init : eo_Reader_init.cls = .type "tuple")
  (ed_Reader_init : eo_Reader_init.dict = none)
  (ea_Reader_init : eo_Reader_init.data = .seq #[] en_Reader_init)
  {ydc ad_Reader_reads : Addr} (ya5 : PropOf K ya "reads" ydc ad_Reader_reads)
  {yhn : FuncData} (yb1 : DFn K "reads" "Reader.reads" ydk ad_Reader_reads yhn)
  {ad_Reader_len : Addr} {yjx : FuncData} (yde : HDf K ya "__len__" "Reader.__len__" ygd ad_Reader_len yjx)
  {ad_Reader_str : Addr} {yjy : FuncData} (ydf : HDf K ya "__str__" "Reader.__str__" yge ad_Reader_str yjy)
  {ad_w_reader_text : Addr} {yg3 : FuncData} (yal : MDf K "_law_reader_text" yez ad_w_reader_text yg3)
  {ad_Reader_eq : Addr} {yka : FuncData} (yeb : HDf K ya "__eq__" "Reader.__eq__" yh1 ad_Reader_eq yka)
  {ad_Kind_str : Addr} {yk9 : FuncData} (ye2 : HDf K ye "__str__" "Kind.__str__" yji ad_Kind_str yk9)
  {ad_Kind_eq : Addr} {yma : FuncData} (yfw : HDf K ye "__eq__" "Kind.__eq__" yj7 ad_Kind_eq yma)
  {ad_Kind_init : Addr} {ykb : FuncData} (yc1 : HDf K ye "__init__" "Kind.__init__" yh2 ad_Kind_init ykb)
  {ad_law : Addr} {yot : FuncData} (ymb : MDf K "law" yno ad_law yot), ∃ fd : FuncData, (∀ (s : Shared) (v : Value), BindsTo s fd ⟨[v], []⟩ [("_law_script", v)]) ∧ ∀ base : Heap, K.In base → base.Ns mainGlobals mg → FnG l.prog w K mg base (L2.CX l.prog w) 9 fa fd ["_law_script"] (spM K w F 1)
end D
section
namespace D
open PySem PySem.W PySem.Calls PyProof.Rows
abbrev rowH : OpenRow := OpenLaw.row PySem.Challenge.rw_untorn_k05_readers_made
abbrev viewH : Program := view rowH.prog [42]
def looseH : List PySem.Str := (["RecordError", "InvalidKind", "InvalidReader", "InvalidText", "BARRED", "LETTERS", "DIGITS", "MOST_LETTERS", "is_sequence", "is_name", "number_in", "WRITER_WORDS", "READER_WORDS", "MOST_DIGITS", "KIND", "READER", "NAMED", "IF", "BESIDE", "deed_in", "deeds_in", "spot_in", "test_in", "tests_in", "named_in", "Kind", "Reader", "_law_deal", "_law_draw", "_law_pick"] : List PySem.Str) ++ (["_law_mixed", "_law_put", "_law_glances", "_law_tests", "_law_deed_texts", "_law_test_texts", "_law_reader_text", "_law_titles"] : List PySem.Str)
theorem obsH_eq {as : List Addr} (s : SharedT) : as.map (HandSHeadRun.getT s) = as.map s.abs.heap.get? := congrArg (fun g => as.map g) (funext (HandSHeadRun.getT_eq s))
end D
local macro_rules | `(tactic| o_headL (kHook $K $a $e)) => `(tactic| refine HandSHeadRun.head_any (r := D.rowH) (q := D.viewH) (H := PySem.W.kHook $K $a $e) (ob := fun s => List.map (HandSHeadRun.getT s) $a) (M := 12000) (loose := D.looseH) (d := HandSHeadRun.topDef D.rowH.prog 42) (kwd := []) (fun s => D.obsH_eq s) (by kernel_rfl) (fun s => by kernel_rfl) (fun w os => by kernel_rfl) (by kernel_rfl) (by kernel_rfl) (by kernel_rfl) (by rfl) (by first | assumption | decide +kernel) (by decide +kernel) ⟨rfl, rfl, rfl, rfl, rfl, by decide +kernel⟩ ?hw ?hc)
local macro_rules | `(tactic| simp_arith!) => `(tactic| first | (as_aux_lemma => k_is) | k_is)
open PySem PySem.W PyProof.Rows
set_option maxHeartbeats 0 in
theorem D.early {F : Mir.OpN} (hM : D.AllMk F) (hL : ∀ {ns : List Int}, ns.length ≤ 63 → ∃ hp', F [.t (.scr (ns.map Mir.T.int))] [] = .ok (.t Yb5) hp') : PySem.Challenge.rw_untorn_k05_readers_made.Holds := by
 w_on; o_law; k_headL; (case hw => w_witness2)
 k_fill
 refine Mir.walkG (l := PySem.Challenge.rw_untorn_k05_readers_made) (n := 63) (k := 9) (x := "_law_script") (CX := fun w => L2.CX PySem.Challenge.rw_untorn_k05_readers_made.prog w) (sp := fun w => Mir.spM _ w F 1) rfl Ybr rfl ⟨rfl, by decide, by decide⟩ (fun w h Y => PySem.W.kIn_of Y) ?F (fun _ _ _ _ hl hS => D.law_sp (hL hl) hS) (fun _ _ _ _ _ h => D.no_cx h)
 case F =>
  intro w mg fa h KX G hmg
  refine' hM KX G hmg ?y9 ?ykw ?yen ?ykx ?yky ?ykz ?yk0 ?yec ?yed ?ye0 ?ss_Kind ?st_Kind ?sn_Kind ?yq ?yhg ?yb8 ?yhh ?yhi ?yhj ?yhk ?yc5 ?yc6 ?ycc ?yc7 ?ydl ?nn_Reader ?no_Reader ?ss_Reader ?st_Reader ?sn_Reader ?sb_Reader_Kind ?sb_Kind_Reader ?ne_Reader_Kind ?ih ?it ?ia_Kind ?im_Kind ?ia_Reader ?im_Reader ?ty_Kind ?ks_str_Kind ?ks_tuple_Kind ?ycd ?ty_Reader ?ks_str_Reader ?ks_tuple_Reader ?ybl ?ybv ?ydm ?ydn ?yc8 ?ybw ?ybx ?ydo ?yby ?ybz ?ydu ?ydv ?ydw ?ydx ?ydy ?ydz ?yd0 ?yd1 ?yd2 ?yc9 ?yda ?ydb ?ybc ?yce ?ycf ?ybq ?ybd ?ybe ?ycg ?ybf ?ybg ?ycm ?ycn ?yco ?ycp ?ycq ?ycr ?ycs ?yct ?ycu ?ybr ?ybs ?ybt ?xsup ?xany ?xtop ?w_MOST_LETTERS ?w_MOST_DIGITS ?w_LETTERS ?w_DIGITS ?w_BARRED ?lk_BARRED ?yeo ?yep ?oa_BARRED ?or_BARRED ?oz_BARRED ?w_READER_WORDS ?lk_READER_WORDS ?yah ?yai ?oa_READER_WORDS ?or_READER_WORDS ?oz_READER_WORDS ?w_WRITER_WORDS ?lk_WRITER_WORDS ?yaj ?yak ?oa_WRITER_WORDS ?or_WRITER_WORDS ?oz_WRITER_WORDS ?ynp ?ynq ?ynr ?yl2 ?yk1 ?yfr ?yns ?ynt ?ye1 ?yk2 ?ynu ?ynv ?ynw ?yl3 ?yfd ?yfe ?yeq ?yff ?yga ?ycz ?yer ?yd5 ?yay ?yaz ?yet ?ybi ?yeu ?yd6 ?yc0 ?yev ?yew ?yd7 ?at_Reader_init ?fn_Reader_init ?yee ?yef ?yeg ?t_Reader_init ?u_Reader_init ?el_Reader_init ?ec_Reader_init ?ed_Reader_init ?ea_Reader_init ?ya5 ?yb1 ?yde ?ydf ?yal ?yeb ?ye2 ?yfw ?yc1 ?ymb
  (case y9 | ykw | yen | ykx | yky | ykz | yk0 | yec | yed | ye0 | ss_Kind | st_Kind | sn_Kind | yq | yhg | yb8 | yhh | yhi | yhj | yhk | yc5 | yc6 | ycc | yc7 | ydl | nn_Reader | no_Reader | ss_Reader | st_Reader | sn_Reader | sb_Reader_Kind | sb_Kind_Reader => simp_arith!)
  (case ne_Reader_Kind => decide)
  (case ih | it | ia_Kind | im_Kind | ia_Reader | im_Reader | ty_Kind | ks_str_Kind | ks_tuple_Kind | ycd | ty_Reader | ks_str_Reader | ks_tuple_Reader | ybl | ybv | ydm => simp_arith!)
  (case ydn => first | rfl | decide)
  (case yc8 | ybw | ybx | ydo | yby | ybz | ydu | ydv | ydw => simp_arith!)
  (case ydx => exact rfl)
  (case ydy => first | rfl | decide +kernel)
  (case ydz => simp_arith!)
  (case yd0 => ks_is)
  (case yd1 | yd2 | yc9 | yda => simp_arith!)
  (case ydb => first | rfl | k_is)
  (case ybc | yce => simp_arith!)
  (case ycf => first | rfl | decide)
  (case ybq | ybd | ybe | ycg | ybf | ybg | ycm | ycn | yco => simp_arith!)
  (case ycp => exact rfl)
  (case ycq => first | rfl | decide +kernel)
  (case ycr => simp_arith!)
  (case ycs => ks_is)
  (case yct | ycu | ybr | ybs => simp_arith!)
  (case ybt => first | rfl | k_is)
  (case xsup | xany => simp_arith!)
  (case xtop => first | rfl | decide +kernel)
  (case w_MOST_LETTERS | w_MOST_DIGITS | w_LETTERS | w_DIGITS | w_BARRED | lk_BARRED => simp_arith!)
  (case yeo => exact rfl)
  (case yep => exact rfl)
  (case oa_BARRED => exact rfl)
  (case or_BARRED => repeat (first | exact .nil | refine .cons ⟨_, rfl⟩ ?_))
  (case oz_BARRED => decide)
  (case w_READER_WORDS | lk_READER_WORDS => simp_arith!)
  (case yah => exact rfl)
  (case yai => exact rfl)
  (case oa_READER_WORDS => exact rfl)
  (case or_READER_WORDS => repeat (first | exact .nil | refine .cons ⟨_, rfl⟩ ?_))
  (case oz_READER_WORDS => decide)
  (case w_WRITER_WORDS | lk_WRITER_WORDS => simp_arith!)
  (case yaj => exact rfl)
  (case yak => exact rfl)
  (case oa_WRITER_WORDS => exact rfl)
  (case or_WRITER_WORDS => repeat (first | exact .nil | refine .cons ⟨_, rfl⟩ ?_))
  (case oz_WRITER_WORDS => decide)
  (case ynp | ynq | ynr | yl2 | yk1 | yfr | yns | ynt | ye1 | yk2 | ynu | ynv | ynw | yl3 | at_Reader_init | fn_Reader_init | yee | yef | yeg | t_Reader_init => simp_arith!)
  (case u_Reader_init => exact rfl)
  (case el_Reader_init => simp_arith!)
  (case ec_Reader_init => exact rfl)
  (case ed_Reader_init => exact rfl)
  (case ea_Reader_init => exact rfl)
  (case yfd | yfe | yeq | yff | yga | ycz | yer | yd5 | yay | yaz | yet | ybi | yeu | yd6 | yc0 | yev | yew | yd7 | yal | ymb => (refine' D.MDf.of ?a ?b ?c ?d; (case a => simp_arith!); (case b => simp_arith!); (case c => simp_arith!); (case d => simp_arith!)))
  (case yde | ydf | yeb | ye2 | yfw | yc1 => (refine' D.HDf.of ?a ?b ?c ?d ?e; (case a => simp_arith!); (case b => simp_arith!); (case c => simp_arith!); (case d => simp_arith!); (case e => simp_arith!)))
  (case ya5 => (refine' D.pp_of ?a ?b ?c ?d; (case a => simp_arith!); (case b => simp_arith!); (case c => simp_arith!); (case d => simp_arith!)))
  (case yb1 => (refine' D.DFn.of ?a ?b ?c; (case a => simp_arith!); (case b => simp_arith!); (case c => simp_arith!)))
end
namespace D
open PySem PySem.Spec L2 Mir
open PyProof.Rows hiding St
local macro_rules | `(tactic| simp_arith [$as,*]) => `(tactic| simp -implicitDefEqProofs only [Nat.reduceAdd, Nat.reduceMul, Nat.reduceSub, Nat.reduceLeDiff, Nat.reduceLT, Nat.reduceEqDiff, Nat.reduceBEq, Int.reduceAdd, Int.reduceSub, Int.reduceMul, Int.reduceNeg, Int.reduceLT, Int.reduceLE, Int.reduceEq, Int.reduceToNat, Int.reduceBEq, Int.reduceNegSucc, reduceIte, reduceCtorEq, if_true, if_false, Bool.false_eq_true, eq_self, and_self, and_true, true_and, and_false, false_and, decide_true, decide_false, decide_eq_true_eq, List.map_nil, List.map_cons, List.append_nil, List.nil_append, List.cons_append, List.getElem?_cons_zero, List.getElem?_cons_succ, List.set_cons_zero, List.set_cons_succ, List.length_cons, List.length_nil, List.replicate_succ, List.replicate_zero, Option.map_some, Option.bind_some, Bool.not_true, Bool.not_false, Bool.and_true, Bool.true_and, Bool.and_false, Bool.false_and, beq_self_eq_true, List.zip_cons_cons, List.zip_nil_right, List.foldl_cons, List.foldl_nil, Option.isSome_some, Option.isSome_none, ite_true, ite_false, List.length_map, zae, bind_bad, bind_er, zb8, noEr_bad, then_nx, then_rt, then_bk, then_ct, p_var, p_c, p_bin, p_un, p_nil, p_cons, p_star, p_app, p_frz, p_test, p_and, p_or, p_not, p_if, p_andV, p_orV, p_notV, p_chain, p_skip, p_seq, p_ret, p_retN, p_drop, p_brk, p_cnt, p_asg, p_set, p_par, p_parG, p_aug, p_for, p_while, p_comp, p_sq, p_src, p_yes, p_call, p_meth0, p_meth, p_sl, p_noPart, p_part, p_disp, p_dput, p_fz, p_gN, p_gsN, p_gsC, p_gTp, p_gTt, p_gAp, p_gAt, p_gAl, zcj, seqT_t, seqT_l, seqT_s, items_t, items_l, items_s, items_r, litems_l, litems_s, litems_r, hitems_l, hitems_r, asT_t, asT_r, getL_new, zci, allI_map, allS_map, allB_map, asB_bl, truW_bl, iNeg_i, opI_ii, opC_ii, cYes_t, wLt_ii, wLt_ss, wAdd_ii, isN_n, isN_i, isN_b, isN_t, isB_bb, oInt_i, oAbs_i, oMax2_i, oMin2_i, oLen_l, oLen_t, oLen_r, oTup_t, oTup_l, oListF_l, oListF_t, oListL_l, oListL_t, sqI_l, sqI_t, sqI_s, enum1_1, zip2_2, isL_r, isL_l, isTp_t, freeze_t, freeze_r, fit_n, fit_b, fit_i, fit_s, fit_t, fit_l, fitL_n, fitL_c, eqT_nn, eqT_ii, eqT_bb, eqT_ss, eqT_tt, eqT_ll, eqTL_nn, eqTL_cn, eqTL_nc, eqTL_cc, allT_n, allT_c, lstOf_e, tupOf_e, newL_e, oAppend_r, oPop_r, asK_i, asK_s, dGet_s, ev_for0, ev_for1, ev_atl0, ev_atl1, ev_atl2, ev_atl3, ev_ixl0, ev_ixt0, ev_ixl1, ev_ixt1, ev_ixl2, ev_ixt2, ev_ixl3, ev_ixt3, ev_atl4, ev_ixl4, ev_ixt4, ev_gt, ev_ge, ev_le, ev_sub, ev_eqi, ev_eqs, ev_eqb, ev_wipe0, ev_wipe1, ev_comp1, $as,*])
local macro_rules | `(tactic| simp_all_arith) => `(tactic| repeat (first | (with_reducible refine za2 ?_) | (with_reducible refine zbp ?_) | (with_reducible refine zcu ?_) | (with_reducible refine vc_if ?_) | (with_reducible refine vc_test ?_) | (with_reducible refine vc_bin ?_) | (with_reducible refine vc_un ?_) | (with_reducible refine zan ?_) | (with_reducible refine zbh ?_) | (with_reducible refine vc_app ?_) | (with_reducible refine zd3 ?_) | (with_reducible refine vc_callD ?_) | (with_reducible refine vc_and ?_) | (with_reducible refine vc_or ?_) | (with_reducible refine vc_not ?_) | (with_reducible refine zc2 ?_) | (with_reducible refine vc_ret ?_) | (with_reducible refine vc_drop ?_) | (with_reducible refine vc_sl ?_) | (with_reducible refine vc_slL ?_) | (with_reducible refine vc_noPart ?_) | (with_reducible refine vc_part ?_) | (with_reducible refine vc_for ?_) | (with_reducible refine vc_sq ?_) | (with_reducible refine vc_src ?_) | (with_reducible refine vc_asg ?_) | (with_reducible refine vc_fld ?_) | (with_reducible refine vc_c ?_) | ((with_reducible apply zb6); · rfl) | (with_reducible refine vc_asB ?_) | ((with_reducible apply vc_fz); · rfl) | (with_reducible refine vc_meth ?_) | (with_reducible refine vc_comp ?_) | (with_reducible refine vc_rt ?_) | (with_reducible refine vc_yes ?_) | ((with_reducible apply vc_lstE); (· rfl); (· exact Nat.le_of_ble_eq_true rfl)) | ((with_reducible apply vc_tupE); (· rfl); (· exact Nat.le_of_ble_eq_true rfl)) | (with_reducible refine vc_sqL ?_) | (with_reducible refine vc_sqT ?_) | (with_reducible refine vc_slWl ?_) | (with_reducible refine vc_slWt ?_) | (with_reducible refine vc_slLl ?_) | (with_reducible refine vc_sm ?_) | (with_reducible refine vc_frz ?_) | (with_reducible refine vc_frzD ?_) | (with_reducible refine vc_chain ?_) | (with_reducible refine vc_par2 ?_) | (with_reducible refine vc_parG ?_) | (with_reducible refine Wp.rw wAdd_ii ?_) | (with_reducible refine Wp.rw ev_eqi ?_) | (with_reducible refine Wp.rw ev_eqs ?_) | (with_reducible refine Wp.rw oLen_l ?_) | (with_reducible refine Wp.rw oLen_t ?_) | (with_reducible refine Wp.rw iGt_ii ?_) | (with_reducible refine Wp.rw wLt_ii ?_) | (with_reducible refine Wp.rw ev_sub ?_) | (with_reducible refine Wp.rw ev_le ?_) | (with_reducible refine Wp.rw ev_ge ?_) | (with_reducible refine Wp.rw freeze_t ?_) | (with_reducible refine Wp.ok ?_)))
/-- what isinstance answers -/
def zd1 : CT → CT → Option Bool := fun t c => match t, c with
 | .inl a, .inl b => kitB a b
 | .inl a, .inr b => if (a = "str" ∨ a = "tuple" ∨ a = "NoneType") ∧ (b = "Kind" ∨ b = "Reader") then some false else none
 | .inr a, .inr b => if a = b ∧ (a = "Kind" ∨ a = "Reader") then some true else if (a = "Kind" ∧ b = "Reader") ∨ (a = "Reader" ∧ b = "Kind") then some false else none
 | _, _ => none
def zde : M Bool := zai asB (mBin iGe (mVar 4) (mBin iPow (mC (.int 10)) (mC (.int 18))))
def zd8 : M W := mVar 4
def zdk : M Fl := mSet 3 (mBin iMod (mApp oInt (zab (mBin wAdd (mBin wAdd (mBin wMul (mVar 3) (mC (.int 48271))) (mBin iMod (mApp oInt Yck) (mC (.int 2147483629)))) (mC (.int 41))) (mNil))) (mC (.int 2147483647)))
def zd5 : M W := mApp oAbs (zab (mApp oInt Yck) (mNil))
def B_w_deal : M Fl := mSeq (mSet 2 Ye5) (mSeq (mSet 3 (mBin wAdd (mC (.int 49979687)) (mBin wMul (mC (.int 59)) (mVar 1)))) (mSeq (mFor Ycc (gN 4) zdk) (mRet (mApp newL (zab (mUn oRevL (zba zaq Ycc (gN 4) zde zd8 [4])) Y4)))))
def F_w_deal : OpN := fnM 2 5 B_w_deal
def zcp : M Fl := mDrop (mMeth0 isL oPop Ybn)
def B_w_draw : M Fl := mSeq (mWhile 4096 (mAnd (zai asB (mBin Yac Ybn Yba)) (zai asB (mBin Y0 (mBin ixW Ybn (mUn iNeg Yn)) Yk))) zcp) (mSeq (mIf (zai asB (mBin Yac Ybn Yba)) (mSeq (mSet 2 (mMeth0 isL oPop Ybn)) (mSeq (mDrop Yhg) (mRet (mBin iMod (mApp oInt Ybe) (mVar 1))))) (zbm)) (mSeq (mIput (mVar 0) Yn (mBin iMod Yd0 (mC (.int 2147483647)))) (mRet (mBin iMod (mApp oInt (zab (mBin iDiv (mBin ixW (mVar 0) Yn) (mC (.int 16))) (mNil))) (mVar 1)))))
def za6 : OpN := fnM 2 3 B_w_draw
def zcx : M Fl := mDrop (mMeth isL zbl (mVar 3) (zab (mMeth isL oPopAt (mVar 2) (zab (zaz za6 [] (zab (mVar 0) (zab (mApp oLen Ybe) (mNil)))) (mNil))) (mNil)))
def B_w_mixed : M Fl := mSeq (mPar [2, 3] (zab (mApp oListL Yq) (zab (mApp newL (mNil)) (mNil)))) (mSeq (mWhile 4096 (zai asB (mBin Yac (mVar 2) Yba)) zcx) (mFz 3 (mRet (mVar 3))))
def zb7 : OpN := fnM 2 4 B_w_mixed
def B_w_pick : M Fl := mRet (mBin ixW (mVar 1) Ydo)
def F_w_pick : OpN := fnM 2 2 B_w_pick
def f_w_put_l1 : M Fl := mSeq (mSet 5 (zaz za6 [] (zab (mVar 0) (zab (mBin wAdd Yet Yn) (mNil))))) (mSet 3 (mBin wAdd Yhm (mSl (mVar 3) (zc8 (mVar 5)) zbb)))
def B_w_put : M Fl := mSeq (mSet 3 (mApp oListF Yq)) (mSeq (mFor Ycc (gN 4) f_w_put_l1) (mRet (mVar 3)))
def F_w_put : OpN := fnM 3 6 B_w_put
def zcr : M W := mApp zbj (zab (mC (.str "look")) (zab (zaz F_w_pick [] (zab (mVar 0) Ybe)) (mNil)))
def zcq : M W := mApp zbj (zab (mC (.str "read")) (zab (mVar 7) (mNil)))
def B_w_glances : M Fl := mSeq (mSet 4 (mSl (zaz zb7 [] (zab (mVar 0) Yq)) zbb (zc8 (mBin wAdd Yn Ydo)))) (mSeq (mSet 5 (mSl (zba zaq (mSq (mVar 4)) (gN 7) mYes zcq [7]) zbb (zc8 (mVar 3)))) (mSeq (mSet 6 (zba zaq (mSrc rng1 (zab (zaz za6 [] (zab (mVar 0) (zab (mC (.int 4)) (mNil)))) (mNil))) (gN 8) mYes zcr [8])) (mRet (zaz F_w_put [] (zab (mVar 0) (zab (mVar 5) (zab (mSl (mVar 6) zbb (zc8 (mBin iSub (mVar 3) (mApp oLen Yak)))) (mNil))))))))
def zdm : OpN := fnM 4 9 B_w_glances
def zcb : M Fl := mIf (mAnd (zai asB (mBin iGt (mVar 5) (mVar 4))) (mAnd (zai asB Ygp) (zai asB (mBin iGt Ybt Yk)))) (mDrop (mMeth isL zbl (mVar 3) (zab (mApp zbj (zab Yfo (zab (mVar 4) Yak))) (mNil)))) (zbm)
def zdq : M Fl := mSeq (mIf (zai asB (mBin Y0 Ybt Yk)) (mDrop (mMeth isL zbl (mVar 3) (zab (mApp zbj (zab Yeo Yck)) (mNil)))) (zbm)) (mFor Ycc (gN 5) zcb)
def zct : M Bool := zai asB (mBin Y0 (mBin ixW (mVar 6) Yk) (mC (.str "look")))
def zcw : M W := mVar 4
def B_w_tests : M Fl := mSeq (mPar [2, 3] (zab (zba zaq (mSrc enum1 Yq) (gT 2 (gsC (gN 4) (gsC (gN 6) gsN))) zct zcw [4, 6]) (zab (mApp newL (mNil)) (mNil)))) (mSeq (mFor Ycc (gN 4) zdq) (mFz 3 (mRet (mSl (zaz zb7 [] (zab (mVar 0) Y4)) zbb (zc8 (mC (.int 4)))))))
def zd0 : OpN := fnM 2 7 B_w_tests
def B_w_titles : M Fl := mRet (mSl (zaz zb7 [] (zab (mVar 0) (zab (mApp zaq (zab (mC (.str "move")) (zab (mC (.str "add")) (zab (mC (.str "w")) (zab (mC (.str "both")) (zab (mC (.str "r")) (zab (mC (.str "iff")) (zab (mC (.str "zzzz")) (mNil))))))))) (mNil)))) zbb (zc8 (mVar 1)))
def zdt : OpN := fnM 2 2 B_w_titles
def zbz : M W := mBin wAdd (mBin wAdd (mVar 1) Yg9) (mVar 2)
def B_w_deed_texts : M Fl := mRet (zba zaq (mSq (mVar 0)) (gT 2 Ydp) mYes zbz [1, 2])
def za0 : OpN := fnP 1 3 B_w_deed_texts
def zbw : M W := mApp oStr Yq
def zb1 : M W := mSM oJoin Yg9 (zba zaq Ycc (gN 1) mYes zbw [1])
def B_w_test_texts : M Fl := mRet (zba zaq (mSq (mVar 0)) (gN 2) mYes zb1 [2])
def zaw : OpN := fnP 1 3 B_w_test_texts
def f_is_name_c1 : M W := mBin (inS false) (mVar 1) (mC (.str "abcdefghijklmnopqrstuvwxyz"))
def B_is_name : M Fl := mSeq (mIf (mOr Ybs (mOr (zai asB (mBin (inW false) (mVar 0) (mC (.tup ((["if", "bump", "even", "kind", "look", "read", "same"] : List Str).map T.str))))) (mNot (zai asB (mChain iLe iLe Yn (mApp oLen Yb2) (mC (.int (4)))))))) (mRet (mC Yx)) (zbm)) (mRet (mApp oAll (zab (zba zaq (mStrI (mVar 0)) (gN 1) mYes f_is_name_c1 [1]) (mNil))))
def zck : OpN := fnP 1 2 B_is_name
def B_is_sequence : M Fl := mRet (mApp (oIsi zd1) (zab (mVar 0) (zab (mApp zbj (zab (mC (.ty "list")) (zab (mC (.ty "tuple")) (mNil)))) (mNil))))
def zbx : OpN := fnP 1 1 B_is_sequence
def B_deed_in : M Fl := mSeq (mIf Ybs (mRet Yaw) (zbm)) (mSeq (mSet 2 (mSM oSplit (mVar 0) Yg9)) (mSeq (mIf (mOr (zai asB (mBin Yac (mApp oLen Ybe) (mC (.int 2)))) (mOr (zai asB (mBin (inW true) Ycz (mVar 1))) (mNot (zai truW (zaz zck [] (zab (mBin ixW (mVar 2) Yn) (mNil))))))) (mRet Yaw) (zbm)) (mRet (mApp zbj (zab Ycz (zab (mBin ixW (mVar 2) Yn) (mNil)))))))
def F_deed_in : OpN := fnP 2 3 B_deed_in
def zbv : M Bool := mAnd (zai asB (mBin (isN true) (mVar 5) Yaw)) (zai asB (mBin Y0 (mBin ixW (mVar 5) Yk) (mBin ixW (mVar 1) Yk)))
def zby : M W := mBin ixW (mVar 5) Yn
def zcl : M W := zaz F_deed_in [] (zab (mVar 4) Yq)
def B_deeds_in : M Fl := mSeq (mIf (mNot (zai truW (zaz zbx [] Yb2))) (mRet Yaw) (zbm)) (mSeq (mSet 2 (zba zaq (mSq (mVar 0)) (gN 4) mYes zcl [4])) (mSeq (mSet 3 (zba zaq Ycc (gN 5) zbv zby [5])) (mRet (mIf (mOr (zai asB (mBin (inW false) Yaw (mVar 2))) (zai asB (mBin Yac (mLenSet (mVar 3)) Yet))) Yaw (mApp oTup Ybe)))))
def zdb : OpN := fnP 2 6 B_deeds_in
def f_number_in_c1 : M W := mBin (inS false) (mVar 2) (mC (.str "0123456789"))
def B_number_in : M Fl := mSeq (mIf (mOr (mNot (zai asB (mChain iLe iLe Yn (mApp oLen Yb2) (mVar 1)))) (mNot (zai truW (mApp oAll (zab (zba zaq (mStrI (mVar 0)) (gN 2) mYes f_number_in_c1 [2]) (mNil)))))) (mRet Yaw) (zbm)) (mRet (mIf (mAnd (zai asB (mBin Y0 Ybn (mC (.str "0")))) (zai asB (mBin Yac (mVar 0) (mC (.str "0"))))) Yaw (mApp oIntS Yb2)))
def zdf : OpN := fnP 2 3 B_number_in
def B_spot_in : M Fl := mSeq (mSet 2 (zaz zdf [] (zab (mVar 0) (zab (mC (.int (9))) (mNil))))) (mRet (mIf (mAnd (zai asB (mBin (isN true) (mVar 2) Yaw)) (mAnd (zai asB (mBin wLt (mVar 2) (mApp oLen Yq))) (zai asB Yge))) (mVar 2) Yaw))
def zdg : OpN := fnP 2 3 B_spot_in
def zbd : M W := zaz zdg [] (zab (mVar 4) Yq)
def B_test_in : M Fl := mSeq (mIf Ybs (mRet Yaw) (zbm)) (mSeq (mSet 2 (mSM oSplit (mVar 0) Yg9)) (mSeq (mSet 3 (zba zaq Yha (gN 4) mYes zbd [4])) (mSeq (mIf (zai asB (mBin (inW false) Yaw (mVar 3))) (mRet Yaw) (zbm)) (mSeq (mIf (mAnd (zai asB (mBin Y0 Ycz Yeo)) (zai asB (mBin Y0 Yet Yn))) (mRet (mApp zbj (zab Yeo (zab Yca (mNil))))) (zbm)) (mSeq (mIf (mOr (zai asB (mBin Yac Ycz Yfo)) (mOr (zai asB (mBin Yac Yet (mC (.int 2)))) (zai asB (mBin iGe Yca Yhn)))) (mRet Yaw) (zbm)) (mRet (mIf (zai asB Yd1) (mApp zbj (zab Yfo (zab Yca (zab Yhn (mNil))))) Yaw)))))))
def F_test_in : OpN := fnP 2 5 B_test_in
def zcm : M W := zaz F_test_in [] (zab (mVar 3) Yq)
def B_tests_in : M Fl := mSeq (mIf (mNot (zai truW (zaz zbx [] Yb2))) (mRet Yaw) (zbm)) (mSeq (mSet 2 (zba zaq (mSq (mVar 0)) (gN 3) mYes zcm [3])) (mRet (mIf (mOr (zai asB (mBin (inW false) Yaw (mVar 2))) (zai asB (mBin Yac (mLenSetT (mVar 2)) (mApp oLen Ybe)))) Yaw (mApp oTup Ybe))))
def zco : OpN := fnP 2 4 B_tests_in
def zbg : M W := mVar 6
def B_Reader_init : M Fl := mSeq (mIf (mNot (zai truW (zaz zck [] Yq))) (mRaise (mExc "InvalidReader" "word" (zab (mC (.str "name")) (mNil)))) (zbm)) (mSeq (mSet 4 (zaz zdb [] (zab (mVar 2) (zab (mC (.tup ((["read", "look"] : List Str).map T.str))) (mNil))))) (mSeq (mIf (mOr (zai asB (mBin (isN false) (mVar 4) Yaw)) (zai asB Yc8)) (mRaise (mExc "InvalidReader" "word" (zab (mC (.str "steps")) (mNil)))) (zbm)) (mSeq (mSet 5 (zaz zco [] (zab (mVar 3) Yck))) (mSeq (mIf (zai asB (mBin (isN false) (mVar 5) Yaw)) (mRaise (mExc "InvalidReader" "word" (zab (mC (.str "checks")) (mNil)))) (zbm)) (mSeq (zdn ["Kind", "Reader"] "name" (mVar 0) (mVar 1)) (mSeq (zdn ["Kind", "Reader"] "steps" (mVar 0) (mApp oTup Ybe)) (mSeq (zdn ["Reader"] "checks" (mVar 0) (mApp oTup Y4)) (mSeq (zdn ["Kind", "Reader"] "deeds" (mVar 0) (mVar 4)) (zdn ["Reader"] "tests" (mVar 0) (mVar 5))))))))))
def zah : OpN := fnX 4 8 B_Reader_init
def zbc : M Bool := zai asB (mBin Y0 (mVar 1) (mC (.str "read")))
def zb0 : M W := mVar 2
def B_Reader_reads : M Fl := mRet (mApp oTup (zab (zba zaq (mSq Yfh) (gT 2 Ydp) zbc zb0 [1, 2]) (mNil)))
def za4 : OpN := fnP 1 3 B_Reader_reads
def B_Reader_len : M Fl := mRet (mApp oLen (zab Yfh (mNil)))
def zbu : OpN := fnP 1 1 B_Reader_len
def B_Reader_str : M Fl := mSeq (mPar [1, 2] (zab (mSM oJoin Ydq Yfi) (zab (mSM oJoin Ydq Yeb) (mNil)))) (mSeq (mIf (zai asB (mBin Y0 (mApp oLen (zab Yeb (mNil))) Yk)) (mRet (mJoined (zcy (mC (.str "reader ")) Yfr))) (zbm)) (mRet (mJoined (zcy (mC (.str "reader ")) (zcy (mUn oFmt Yc0) (zcy (mC (.str ": ")) (zcy (mUn oFmt (mVar 1)) (zcy (mC (.str " if ")) (zcy (mUn oFmt (mVar 2)) (mJNil))))))))))
def zaf : OpN := fnP 1 3 B_Reader_str
def B_w_reader_text : M Fl := mSeq (mSet 1 (mIf (zai asB Yb9) Yal (mC (.str "")))) (mRet (mBin wAdd Ydw (mVar 1)))
def za1 : OpN := fnP 1 2 B_w_reader_text
def B_Reader_eq : M Fl := mRet (mAndV (mApp (oIsi zd1) Yep) (mBin Y0 (mApp (zcg [Yt]) Yb2) (mApp (zcg [Yt]) Yq)))
def zaj : OpN := fnP 2 2 B_Reader_eq
def B_Kind_str : M Fl := mSeq (mSet 1 (mSM oJoin Ydq Yfi)) (mRet (mJoined (zcy (mC (.str "kind ")) Yfr)))
def zc9 : OpN := fnP 1 2 B_Kind_str
def B_Kind_eq : M Fl := mRet (mAndV (mApp (oIsi zd1) (zab (mVar 1) (zab (mC (.cls "Kind")) (mNil)))) (mBin Y0 (mApp (zcg [("Kind", zc9)]) Yb2) (mApp (zcg [("Kind", zc9)]) Yq)))
def zdh : OpN := fnP 2 2 B_Kind_eq
def B_Kind_init : M Fl := mSeq (mIf (mNot (zai truW (zaz zck [] Yq))) (mRaise (mExc "InvalidKind" "word" (zab (mC (.str "name")) (mNil)))) (zbm)) (mSeq (mSet 3 (zaz zdb [] (zab (mVar 2) (zab (mC (.tup ((["write", "bump"] : List Str).map T.str))) (mNil))))) (mSeq (mIf (mOr (zai asB (mBin (isN false) (mVar 3) Yaw)) (zai asB (mBin Y0 Yet Yk))) (mRaise (mExc "InvalidKind" "word" (zab (mC (.str "steps")) (mNil)))) (zbm)) (mSeq (zdn ["Kind", "Reader"] "name" (mVar 0) (mVar 1)) (mSeq (zdn ["Kind", "Reader"] "steps" (mVar 0) (mApp oTup Ybe)) (zdn ["Kind", "Reader"] "deeds" (mVar 0) (mVar 3))))))
def zbt : OpN := fnX 3 4 B_Kind_init
def f_law_c1 : M Bool := zai asB (mBin Y0 (mVar 13) (mC (.str "read")))
def f_law_c2 : M W := mVar 14
def f_law_l1 : M Fl := mSeq (mSet 5 (zaz zdm [] (zab (mVar 2) (zab (mApp zaq (zab (mC (.str "a")) (zab (mC (.str "b")) (zab (mC (.str "d")) (zab (mC (.str "zzzz")) (mNil)))))) (zab (mApp zaq (zab (mC (.str "c")) (zab (mC (.str "e")) (mNil)))) (zab (mC (.int 8)) (mNil))))))) (mSeq (mSet 5 (zaz F_w_put [] (zab (mVar 2) (zab (mVar 5) (zab (mBin wMul Yez (mApp oMin2 Yb4)) (mNil)))))) (mSeq (mPar [6, 7] (zab (zaz zd0 [] (zab (mVar 2) Yak)) (zab (mBin ixW (zaz zdt [] (zab (mVar 2) (zab Yn (mNil)))) Yk) (mNil)))) (mSeq (mPar [8, 9] (zab (zaz za0 [] Yak) (zab (zaz zaw [] (zab (mVar 6) (mNil))) (mNil)))) (mSeq (mSet 10 (mApp newL (zab (mApp oListL Ycl) (zab (mApp oListL (zab (mVar 9) (mNil))) (mNil))))) (mSeq (mSet 11 (mLendE Ydj)) (mSeq (mDrop Yf5) (mSeq (mDrop Yfy) (mSeq (mIf (zai asB Ycm) (mRet (mC Yx)) (zbm)) Ya))))))))
def f_law_l2 : M Fl := mSeq (mSet 2 (zaz F_w_deal [] (zab (mVar 0) Yq))) (mSeq (mSet 3 Yaw) (mFor (mSrc rng1 (zab (mC (.int 4)) (mNil))) (gN 4) f_law_l1))
def B_law : M Fl := mSeq (mFor (mSrc rng1 (zab (mApp oMax2 (zab Yn (zab (mApp oMin2 (zab (mC (.int 3)) (zab (mApp oLen Yb2) (mNil)))) (mNil)))) (mNil))) (gN 1) f_law_l2) (mSeq (mIf (zai asB Ygz) (mRet (mC Yx)) (zbm)) (mRet (mBin Y0 (mApp (zcg [Yt]) (zab (zcc Yu) (mNil))) (mC (.str "reader r: look c, read a if even 0")))))
def F_law : OpN := fnM 1 15 B_law
/-- where the draws lie: the list i, the great cells j -/
structure DealAt (i j : Nat) (gs : List Int) (st : Int) (hp : IH) : Prop where
 d : getL hp i = some [.r j, .t (.int st)]
 g : getL hp j = some (gs.map wI)
 len : gs.length ≤ 63
 lo : 0 ≤ st
 hi : st < 2147483647
theorem DealAt.ne {i j : Nat} {gs : List Int} {st : Int} {hp : IH} (h : DealAt i j gs st hp) : i ≠ j := by
 intro e
 subst e
 have a := h.d
 rw [h.g] at a
 cases gs with
 | nil => cases a
 | cons x xs => simp [wI] at a
theorem ne_nil {gs : List Int} {hp : IH} {j : Nat} (h : getL hp j = some (gs.map wI)) : eqW true (.r j) (.t (.lst [])) hp = .ok (.t (.bl (!gs.isEmpty))) hp := by
 unfold eqW
 simp only [asT_r, h, Option.bind_some, allT_ints, Option.map_some, asT_t, fit_l, fitL_ints, fitL_n]
 cases gs <;> simp
abbrev popT : M Bool := mAnd (zai asB (mBin Yac Ybn Yba)) (zai asB (mBin Y0 (mBin ixW Ybn (mUn iNeg Yn)) Yk))
theorem at0 {a b : W} : atI [a, b] 0 = some a := rfl
theorem at1 {a b : W} : atI [a, b] 1 = some b := rfl
theorem pop_loop {i j : Nat} {wd : W} {c : Option W} {st : Int} (hij : i ≠ j) : ∀ (n : Nat) (gs : List Int) (hp : IH), gs.length < n → getL hp i = some [.r j, .t (.int st)] → getL hp j = some (gs.map wI) →
  ∃ gs' : List Int, gs'.length ≤ gs.length ∧ zdu popT zcp n [some (.r i), some wd, c] hp = .ok (.nx [some (.r i), some wd, c]) (hp.set j (some (.lst (gs'.map wI)))) := by
 intro n
 induction n with
 | zero => intro gs hp h; omega
 | succ n ih =>
  intro gs hp h hd hg
  have hj := zd6 hg
  have g0 : mBin ixW (mVar 0) Yk [some (.r i), some wd, c] hp = .ok (.r j) hp := binP rfl rfl (by rw [ixW_r, hd, Option.bind_some, at0])
  rcases List.eq_nil_or_concat gs with e | ⟨ys, y, e⟩
  ·subst e
   refine ⟨[], Nat.le_refl _, ?_⟩
   unfold zdu popT
   rw [p_and, zc4 (binP g0 rfl (ne_nil hg)), zae]
   simp
   exact (set_same (zbo hg)).symm
  ·rw [List.concat_eq_append] at e
   subst e
   have hg' : getL hp j = some (ys.map wI ++ [wI y]) := by rw [hg]; simp
   have t1 : popT [some (.r i), some wd, c] hp = .ok (decide (y = 0)) hp := by
    unfold popT
    rw [p_and, zc4 (binP g0 rfl (ne_nil hg)), zae, if_pos Yae]
    refine zc4 (binP (binP g0 rfl (b := .t (.int (-1))) (r := .ok (.t (.int y)) hp) ?_) rfl ?_)
    ·rw [ixW_r, hg', Option.bind_some, atI_end]
    ·by_cases hy : y = 0 <;> simp [hy]
   unfold zdu
   rw [t1, zae]
   by_cases hy : y = 0
   ·obtain ⟨gs', l, q⟩ := ih ys Yab (by simp at h; omega) (by rw [getL_ne hij.symm]; exact hd) (zci hj)
    refine ⟨gs', by simp; omega, ?_⟩
    have body : zcp [some (.r i), some wd, c] hp = .ok (.nx [some (.r i), some wd, c]) Yab := by
     unfold zcp
     rw [p_drop, p_meth0, g0, zae]
     simp [hg', wI]
    rw [decide_eq_true hy, if_pos rfl, body, zae]
    simp only [q, List.set_set]
   ·refine ⟨ys ++ [y], Nat.le_refl _, ?_⟩
    rw [decide_eq_false hy, if_neg Ybr]
    rw [set_same (zbo hg)]
theorem draw_ok {i j : Nat} {gs : List Int} {st : Int} {hp : IH} {wide : Int} (d : DealAt i j gs st hp) (hw : 0 < wide) (hw2 : wide < 2 ^ 64) :
  ∃ (n : Int) (hp' : IH) (gs' : List Int) (st' : Int), za6 [.r i, .t (.int wide)] hp = .ok (.t (.int n)) hp' ∧ 0 ≤ n ∧ n < wide ∧ DealAt i j gs' st' hp' ∧ hp'.length = hp.length ∧ ∀ k, k ≠ i → k ≠ j → hp'[k]? = hp[k]? := by
 obtain ⟨hd, hg, hl, lo, hi⟩ := d
 have hne : i ≠ j := DealAt.ne ⟨hd, hg, hl, lo, hi⟩
 have hj := zd6 hg
 have hi' := zd6 hd
 obtain ⟨g2, l2, q2⟩ := pop_loop (i := i) (j := j) (wd := .t (.int wide)) (c := none) hne 4096 gs hp Yc hd hg
 have hd2 : getL Yat i = some [.r j, .t (.int st)] := by rw [getL_ne hne.symm]; exact hd
 have hg2 : getL Yat j = some (g2.map wI) := zci hj
 have hmod : ∀ x : Int, 0 ≤ x % wide ∧ x % wide < wide := fun x => ⟨Int.emod_nonneg _ Yc, Int.emod_lt_of_pos _ hw⟩
 have g0 : ∀ (a : Option W), mBin ixW (mVar 0) Yk [some (.r i), some Yav, a] Yat = .ok (.r j) Yat := fun a => binP rfl rfl (by rw [ixW_r, hd2, Option.bind_some, at0])
 have g1 : ∀ (a : Option W), mBin ixW (mVar 0) Yn [some (.r i), some Yav, a] Yat = .ok (.t (.int st)) Yat := fun a => binP rfl rfl (by rw [ixW_r, hd2, Option.bind_some, at1])
 have ww : mWhile 4096 popT zcp [some (.r i), some Yav, none] hp = .ok (.nx [some (.r i), some Yav, none]) Yat := q2
 have cn := ne_nil hg2
 rcases List.eq_nil_or_concat g2 with e | ⟨ys, y, e⟩
 ·subst e
  refine ⟨((st * 48271 + 43) % 2147483647 / 16) % wide, (hp.set j Y7).set i Yaf, [], (st * 48271 + 43) % 2147483647, ?_, (hmod _).1, (hmod _).2, ⟨?_, ?_, ?_, ?_, ?_⟩, ?_, ?_⟩
  ·have c1 : cMul st 48271 = true := cMul_ok Yc Yc
   have hi2 : i < (hp.set j Y7).length := by simpa using hi'
   refine fnM_ok (eta := [some (.r i), some Yav, none]) rfl rfl ?_
   unfold B_w_draw
   refine zax ww ?_
   refine zax (h1 := hp.set j Y7) (e1 := [some (.r i), some Yav, none]) ?_ ?_
   ·rw [if_no (zc4 (binP (g0 none) rfl cn))]
    rfl
   ·have ev : mBin iMod Yd0 (mC (.int 2147483647)) [some (.r i), some Yav, none] (hp.set j Y7) = .ok (.t (.int ((st * 48271 + 43) % 2147483647))) (hp.set j Y7) := by
     refine binP (zbk (binP (binP (g1 none) rfl (wMul_ok c1)) rfl wAdd_ii) oInt_i) rfl ?_
     exact iMod_ok (cMod_ok Yc)
    refine zax (e1 := [some (.r i), some Yav, none]) (h1 := (hp.set j Y7).set i Yaf) ?_ ?_
    ·exact iput_ok (k := 1) ev rfl rfl hd2 Yae
    ·rw [p_ret]
     have h3 : mBin ixW (mVar 0) Yn [some (.r i), some Yav, none] ((hp.set j Y7).set i Yaf) = .ok (.t (.int ((st * 48271 + 43) % 2147483647))) ((hp.set j Y7).set i Yaf) := binP rfl rfl (by rw [ixW_r, zci hi2, Option.bind_some, at1])
     have c3 : ∀ x, cDiv x 16 = true := fun x => cDiv_ok Yc Yc
     rw [binP (r := .ok (.t (.int (((st * 48271 + 43) % 2147483647 / 16) % wide))) ((hp.set j Y7).set i Yaf)) (zbk (binP h3 rfl (iDiv_ok (c3 _))) oInt_i) rfl (iMod_ok (cMod_ok hw)), zae]
  ·rw [zci (by simpa using hi')]
  ·rw [getL_ne hne, zci (by simpa using hj)]
  ·simp
  ·exact Int.emod_nonneg _ Yc
  ·exact Int.emod_lt_of_pos _ Yc
  ·simp
  ·intro k h1 h2
   rw [List.getElem?_set_ne (Ne.symm h1), List.getElem?_set_ne (Ne.symm h2)]
 ·rw [List.concat_eq_append] at e
  subst e
  have hg3 : getL (hp.set j (some (.lst ((ys ++ [y]).map wI)))) j = some (ys.map wI ++ [wI y]) := by rw [hg2]; simp
  refine ⟨y % wide, hp.set j Yc1, ys ++ [y / wide], st, ?_, (hmod _).1, (hmod _).2, ⟨?_, ?_, ?_, lo, hi⟩, ?_, ?_⟩
  ·have hl2 : ys.length < 16777216 := by simp at l2; omega
   refine fnM_ok (eta := [some (.r i), some Yav, none]) rfl rfl ?_
   unfold B_w_draw
   refine zax ww ?_
   rw [p_seq, if_yes (zc4 (binP (g0 none) rfl (cn.trans Yae)))]
   have e1 : mSet 2 (mMeth0 isL oPop Ybn) [some (.r i), some Yav, none] (hp.set j (some (.lst ((ys ++ [y]).map wI)))) = .ok (.nx [some (.r i), some Yav, some (.t (.int y))]) Yab := by
    refine (zdl (w := .t (.int y)) (h1 := hp.set j (some (.lst (ys.map wI)))) ?_).trans rfl
    rw [p_meth0, g0, zae]
    simp [hj, zci, wI]
   have hd3 : getL Yab i = some [.r j, .t (.int st)] := by rw [getL_ne hne.symm]; exact hd
   have g3 : mBin ixW (mVar 0) Yk [some (.r i), some Yav, some (.t (.int y))] Yab = .ok (.r j) Yab := binP rfl rfl (by rw [ixW_r, hd3, Option.bind_some, at0])
   have dv : mBin iDiv (mVar 2) (mVar 1) [some (.r i), some Yav, some (.t (.int y))] Yab = .ok (.t (.int (y / wide))) Yab := binP rfl rfl (iDiv_ok (cDiv_ok hw hw2))
   have e2 : mDrop Yhg [some (.r i), some Yav, some (.t (.int y))] Yab = .ok (.nx [some (.r i), some Yav, some (.t (.int y))]) (hp.set j Yc1) := by
    rw [p_drop, p_meth, g3, zae]
    simp only [isL_r, zci hj, Option.isSome_some, if_true, p_cons, dv, zae, p_nil, oAppend_r, List.length_map, hl2, List.set_set]
    simp [wI]
   rw [zax e1 (zax e2 (r := .ok (.rt (.t (.int (y % wide)))) (hp.set j Yc1)) ?_)]
   ·rfl
   ·rw [p_ret, binP (r := .ok (.t (.int (y % wide))) (hp.set j Yc1)) (zbk rfl oInt_i) rfl (iMod_ok (cMod_ok hw)), zae]
  ·rw [getL_ne hne.symm]; exact hd
  ·rw [zci hj]
  ·simp at l2 ⊢; omega
  ·simp
  ·intro k h1 h2
   rw [List.getElem?_set_ne (Ne.symm h2)]
theorem DealAt.ltA {i j : Nat} {gs : List Int} {st : Int} {hp : IH} (h : DealAt i j gs st hp) : i < hp.length ∧ j < hp.length := ⟨zd6 h.d, zd6 h.g⟩
theorem DealAt.keepA {i j : Nat} {gs : List Int} {st : Int} {hp hp' : IH} (h : DealAt i j gs st hp) (h1 : hp'[i]? = hp[i]?) (h2 : hp'[j]? = hp[j]?) : DealAt i j gs st hp' := by
 obtain ⟨a, b, c, e, f⟩ := h
 exact ⟨by unfold getL at a ⊢; rw [h1]; exact a, by unfold getL at b ⊢; rw [h2]; exact b, c, e, f⟩
/-- the draws lie at i and j -/
def Deal (i j : Nat) (hp : IH) : Prop := ∃ gs st, DealAt i j gs st hp
theorem Deal.ne {i j : Nat} {hp : IH} (d : Deal i j hp) : i ≠ j := let ⟨_, _, h⟩ := d; h.ne
theorem Deal.lt {i j : Nat} {hp : IH} (d : Deal i j hp) : i < hp.length ∧ j < hp.length := let ⟨_, _, h⟩ := d; h.ltA
/-- cells besides the draws' stay -/
def Ext (i j : Nat) (hp hp' : IH) : Prop := hp.length ≤ hp'.length ∧ ∀ k, k < hp.length → k ≠ i → k ≠ j → hp'[k]? = hp[k]?
theorem Ext.refl {i j : Nat} {hp : IH} : Ext i j hp hp := ⟨Nat.le_refl _, fun _ _ _ _ => rfl⟩
theorem Ext.trans {i j : Nat} {a b c : IH} (h : Ext i j a b) (g : Ext i j b c) : Ext i j a c :=
 ⟨Nat.le_trans h.1 g.1, fun k hk h1 h2 => (g.2 k (Nat.lt_of_lt_of_le hk h.1) h1 h2).trans (h.2 k hk h1 h2)⟩
theorem Deal.keep {i j : Nat} {hp hp' : IH} (d : Deal i j hp) (h1 : hp'[i]? = hp[i]?) (h2 : hp'[j]? = hp[j]?) : Deal i j hp' := by
 obtain ⟨gs, st, h⟩ := d
 exact ⟨gs, st, h.keepA h1 h2⟩
theorem draw_is {i j : Nat} {hp : IH} {wide : Int} (d : Deal i j hp) (hw : 0 < wide) (hw2 : wide < 2 ^ 64) :
  ∃ (n : Int) (hp' : IH), za6 [.r i, .t (.int wide)] hp = .ok (.t (.int n)) hp' ∧ 0 ≤ n ∧ n < wide ∧ Deal i j hp' ∧ hp'.length = hp.length ∧ ∀ k, k ≠ i → k ≠ j → hp'[k]? = hp[k]? := by
 obtain ⟨gs, st, h⟩ := d
 obtain ⟨n, hp', gs', st', h1, h2, h3, h4, h5, h6⟩ := draw_ok h hw hw2
 exact ⟨n, hp', h1, h2, h3, ⟨gs', st', h4⟩, h5, h6⟩
theorem pick_is {i j : Nat} {hp : IH} {ts : List T} (d : Deal i j hp) (h0 : 0 < ts.length) (h1 : ts.length < 2 ^ 60) :
  ∃ (t : T) (hp' : IH), t ∈ ts ∧ F_w_pick [.r i, .t (.lst ts)] hp = .ok (.t t) hp' ∧ Deal i j hp' ∧ Ext i j hp hp' := by
 obtain ⟨n, hp', e, n0, n1, d', l, k⟩ := draw_is (wide := ts.length) d Yc Yc
 have hn : n.toNat < ts.length := by omega
 refine ⟨ts[n.toNat], hp', List.getElem_mem _, ?_, d', ⟨by omega, fun q _ h2 h3 => k q h2 h3⟩⟩
 have ha : atI Yo n = some (.t ts[n.toNat]) := by
  rw [atI_nn n0 (by simpa using n1)]
  simp [hn]
 simp [F_w_pick, fnM, B_w_pick, e, ha]
theorem neT_nil {ts : List T} {hp : IH} {j : Nat} (h : getL hp j = some Yo) (f : fitL ts 59 = true) : eqW true (.r j) (.t (.lst [])) hp = .ok (.t (.bl (!ts.isEmpty))) hp := by
 unfold eqW
 simp only [asT_r, h, Option.bind_some, zcj, Option.map_some, asT_t, fit_l, fitL_n, f]
 cases ts <;> simp
theorem seqIx {n : Int} {m : Nat} (h0 : 0 ≤ n) (h1 : n < m) : seqIndex? n m = some n.toNat := by
 unfold seqIndex?
 simp only [show ¬ n < 0 by omega, if_false]
 simp [h0, h1]
theorem mix_loop {i j a b : Nat} {w1 : W} (hab : a ≠ b) (hia : i ≠ a) (hib : i ≠ b) (hja : j ≠ a) (hjb : j ≠ b) : ∀ (n : Nat) (xs ys : List T) (hp : IH), xs.length < n → ys.length + xs.length < 1000000 → fitL xs 59 = true →
  getL hp a = some (xs.map W.t) → getL hp b = some (ys.map W.t) → Deal i j hp →
  ∃ (zs : List T) (hp' : IH), zs.Perm xs ∧ zdu (zai asB (mBin Yac (mVar 2) Yba)) zcx n [some (.r i), some w1, some (.r a), some (.r b)] hp = .ok (.nx [some (.r i), some w1, some (.r a), some (.r b)]) hp' ∧
   getL hp' b = some ((ys ++ zs).map W.t) ∧ Deal i j hp' ∧ hp'.length = hp.length ∧ ∀ k, k ≠ i → k ≠ j → k ≠ a → k ≠ b → hp'[k]? = hp[k]? := by
 intro n
 induction n with
 | zero => intro xs ys hp h; omega
 | succ n ih =>
  intro xs ys hp h hz hf ha hb d
  cases xs with
  | nil =>
   refine ⟨[], hp, .refl _, ?_, by simpa using hb, d, rfl, fun _ _ _ _ _ => rfl⟩
   unfold zdu
   simp [neT_nil ha hf]
  | cons x0 xr =>
   obtain ⟨m, h1, e, m0, m1, d1, l1, k1⟩ := draw_is (wide := (x0 :: xr).length) d Yc6 (by simp only [List.length_cons] at hz ⊢; omega)
   have hm : m.toNat < (x0 :: xr).length := by omega
   have ha1 : getL h1 a = some ((x0 :: xr).map W.t) := by rw [getL_keep (k1 a hia.symm hja.symm)]; exact ha
   have hb1 : getL h1 b = some (ys.map W.t) := by rw [getL_keep (k1 b hib.symm hjb.symm)]; exact hb
   have la1 := zd6 ha1
   have lb1 := zd6 hb1
   let h2 := h1.set a (some (.lst (((x0 :: xr).eraseIdx m.toNat).map W.t)))
   have hb2 : getL h2 b = some (ys.map W.t) := by rw [getL_ne hab]; exact hb1
   have lb2 : b < h2.length := by simpa [h2] using lb1
   let h3 := h2.set b (some (.lst ((ys ++ [(x0 :: xr)[m.toNat]]).map W.t)))
   have ha3 : getL h3 a = some (((x0 :: xr).eraseIdx m.toNat).map W.t) := by rw [getL_ne hab.symm, zci la1]
   have hb3 : getL h3 b = some ((ys ++ [(x0 :: xr)[m.toNat]]).map W.t) := zci lb2
   have d3 : Deal i j h3 := d1.keep (by simp only [h3, h2]; rw [List.getElem?_set_ne hib.symm, List.getElem?_set_ne hia.symm]) (by simp only [h3, h2]; rw [List.getElem?_set_ne hjb.symm, List.getElem?_set_ne hja.symm])
   have el : ((x0 :: xr).eraseIdx m.toNat).length = xr.length := by rw [List.length_eraseIdx, if_pos hm]; rfl
   obtain ⟨zs, hp', p, q, r, d', l', k'⟩ := ih ((x0 :: xr).eraseIdx m.toNat) (ys ++ [(x0 :: xr)[m.toNat]]) h3 (by rw [el]; simp at h; omega) (by rw [el]; simp at hz ⊢; omega) (fitL_erase _ hf) ha3 hb3 d3
   refine ⟨(x0 :: xr)[m.toNat] :: zs, hp', (p.cons _).trans (erase_perm _ _ hm), ?_, by simpa using r, d', by rw [l']; simp [h3, h2, l1], fun k c1 c2 c3 c4 => by rw [k' k c1 c2 c3 c4]; simp only [h3, h2]; rw [List.getElem?_set_ne c4.symm, List.getElem?_set_ne c3.symm, k1 k c1 c2]⟩
   have body : zcx [some (.r i), some w1, some (.r a), some (.r b)] hp = .ok (.nx [some (.r i), some w1, some (.r a), some (.r b)]) h3 := by
    have pop : oPopAt (.r a) [.t (.int m)] h1 = .ok (.t (x0 :: xr)[m.toNat]) h2 := by
     have m1' : m < ((x0 :: xr).map W.t).length := by simpa using m1
     have hz' : m < 2 ^ 63 := by simp at m1 hz; omega
     simp only [oPopAt, ha1, seqIx m0 m1', List.getElem?_map, List.getElem?_eq_getElem hm, Option.map_some, erase_map]
     rw [if_pos ⟨by omega, hz'⟩]
    have app : zbl (.r b) [.t (x0 :: xr)[m.toNat]] h2 = .ok Yco h3 := by
     have : (ys.map W.t).length < 16777216 := by simp at hz ⊢; omega
     rw [oAppend_r, hb2]
     simp only [this, if_true]
     simp [h3]
    simp only [List.length_cons] at e
    simp only [zcx, p_drop, p_meth, p_var, p_cons, p_nil, p_call, p_app, List.getElem?_cons_succ, List.getElem?_cons_zero, zae, isL_r, hb, ha, oLen_r, Option.isSome_some, if_true, List.map_nil, List.append_nil, List.length_map, List.length_cons, e, zb8, pop, app]
   unfold zdu
   simp only [p_test, p_bin, p_var, p_app, p_nil, List.getElem?_cons_succ, List.getElem?_cons_zero, zae, lstOf_e, allT_n, List.length_nil, Nat.zero_le, if_true, neT_nil ha hf, asB_bl, body]
   simpa using q
theorem mixed_is {i j : Nat} {hp : IH} {ts : List T} (d : Deal i j hp) (hl : ts.length < 4000) (hf : fitL ts 59 = true) :
  ∃ (zs : List T) (hp' : IH), zs.Perm ts ∧ zb7 [.r i, .t (.lst ts)] hp = .ok (.t (.lst zs)) hp' ∧ Deal i j hp' ∧ Ext i j hp hp' := by
 obtain ⟨li, lj⟩ := d.lt
 let h1 : IH := hp ++ [some (.lst Yo)]
 let h2 : IH := h1 ++ [some (.lst [])]
 have l1 : h1.length = hp.length + 1 := by simp [h1]
 have ga : getL h2 hp.length = some Yo := by rw [getL_app Yc]; simp [h1]
 have gb : getL h2 h1.length = some (([] : List T).map W.t) := by simp [h2]
 have d2 : Deal i j h2 := d.keep (by simp only [h2, h1]; rw [List.append_assoc, List.getElem?_append_left li]) (by simp only [h2, h1]; rw [List.append_assoc, List.getElem?_append_left lj])
 obtain ⟨zs, h3, p, q, r, d3, l3, k3⟩ := mix_loop (i := i) (j := j) (a := hp.length) (b := h1.length) (w1 := .t (.lst ts)) Yc Yc Yc Yc Yc 4096 ts [] h2 Yc Y6 hf ga gb d2
 refine ⟨zs, h3.set h1.length none, p, ?_, d3.keep (by rw [List.getElem?_set_ne Yc]) (by rw [List.getElem?_set_ne Yc]), ⟨by rw [List.length_set, l3]; simp only [h2, List.length_append]; omega, fun k hk c1 c2 => ?_⟩⟩
 ·have e1 : hp ++ [some (Cell.lst Yo)] = h1 := rfl
  have e2 : h1 ++ [some (Cell.lst [])] = h2 := rfl
  simp only [List.nil_append] at r
  have e3 : (hp ++ [some (Cell.lst Yo)]).length = h1.length := rfl
  simp only [zb7, fnM, B_w_mixed]
  simp [q, r, e1, e2]
 ·rw [List.getElem?_set_ne Yc, k3 k c1 c2 Yc Yc]
  simp only [h2, h1]
  rw [List.append_assoc, List.getElem?_append_left hk]
theorem stir_loop {w0 w1 w2 : W} : ∀ (cs : List Int) (st : Int) (o4 : Option W) (hp : IH), 0 ≤ st → st < 2 ^ 40 →
  ∃ (st' : Int) (o4' : Option W), 0 ≤ st' ∧ st' < 2 ^ 40 ∧ (cs ≠ [] → st' < 2147483647) ∧ forL (gN 4) zdk ((cs.map T.int).map W.t) [some w0, some w1, some w2, some (.t (.int st)), o4] hp = .ok (.nx [some w0, some w1, some w2, some (.t (.int st')), o4']) hp
 | [], st, o4, hp, h0, h1 => ⟨st, o4, h0, h1, fun h => (h rfl).elim, rfl⟩
 | c :: cs, st, o4, hp, h0, h1 => by
  have c1 : cMul st 48271 = true := cMul_ok Yc Yc
  have b0 : 0 ≤ (st * 48271 + c % 2147483629 + 41) % 2147483647 := Int.emod_nonneg _ Yc
  have b1 : (st * 48271 + c % 2147483629 + 41) % 2147483647 < 2147483647 := Int.emod_lt_of_pos _ Yc
  obtain ⟨st', o4', a, b, d, q⟩ := stir_loop (w0 := w0) (w1 := w1) (w2 := w2) cs ((st * 48271 + c % 2147483629 + 41) % 2147483647) (some (.t (.int c))) hp b0 Yc
  refine ⟨st', o4', a, b, fun _ => ?_, ?_⟩
  ·by_cases e : cs = []
   ·subst e
    simp only [List.map_nil, forL, Res.ok.injEq, Fl.nx.injEq, List.cons.injEq, Option.some.injEq, W.t.injEq, T.int.injEq] at q
    omega
   ·exact d e
  ·rw [← q]
   have body : zdk [some w0, some w1, some w2, some (.t (.int st)), some (.t (.int c))] hp = .ok (.nx [some w0, some w1, some w2, some (.t (.int ((st * 48271 + c % 2147483629 + 41) % 2147483647))), some (.t (.int c))]) hp := by
    unfold zdk
    refine (zdl (h1 := hp) (binP (zbk (binP (binP (binP rfl rfl (wMul_ok c1)) (binP (zbk rfl oInt_i) rfl (iMod_ok (cMod_ok Yc))) wAdd_ii) rfl wAdd_ii) oInt_i) rfl (iMod_ok (cMod_ok Yc)))).trans rfl
   simp only [List.map_cons, forL, p_gN, List.set_cons_succ, List.set_cons_zero, body, zae]
theorem deal_is {ns : List Int} {b : Int} {hp : IH} (hn : ns.length ≤ 63) (hb : 0 ≤ b ∧ b < 1000) : ∃ (k : Nat) (hp' : IH), F_w_deal [.t Yaj, .t (.int b)] hp = .ok (.r k) hp' ∧ Deal k (k - 1) hp' ∧ hp.length < k ∧ ∀ x, x < hp.length → hp'[x]? = hp[x]? := by
 let cs : List Int := (cutL ns (some b) (some 62)).map fun c => if c < 0 then -c else c
 have lc : cs.length ≤ 63 := by
  have := cutL_len ns (some b) (some 62)
  simp only [cs, List.length_map]
  omega
 have mb : cMul 59 b = true := cMul_ok Yc Yc
 obtain ⟨st, o4, a, bb, z, q⟩ := stir_loop (w0 := .t Yaj) (w1 := .t (.int b)) (w2 := .t Yfv) cs (49979687 + 59 * b) none hp Yc Yc
 have st31 : st < 2147483647 := by
  by_cases e : cs = []
  ·rw [e] at q
   simp only [List.map_nil, forL, Res.ok.injEq, Fl.nx.injEq, List.cons.injEq, Option.some.injEq, W.t.injEq, T.int.injEq] at q
   omega
  ·exact z e
 let g : Int → Bool := fun c => decide ((10 : Int) ^ 18 ≤ c)
 let eta0 : IS := [some (.t Yaj), some (.t (.int b)), none, none, none]
 have k1 : (cutL (ns.map T.int) (some b) (some 62)).length ≤ 16777216 := by
  have := cutL_len (ns.map T.int) (some b) (some 62)
  rw [List.length_map] at this
  omega
 have s1 : mSet 2 Ye5 eta0 hp = .ok (.nx [some (.t Yaj), some (.t (.int b)), some (.t Yfv), none, none]) hp := by
  refine (zdl (w := .t Yfv) (h1 := hp) (zca (ws := ((cutL ns (some b) (some 62)).map T.int).map W.t) (ys := (cs.map T.int).map W.t) (h1 := hp) (h2 := hp) ?_ ?_ ?_ ?_)).trans rfl
  ·rw [← cutL_map]
   simp [eta0, slW]
  ·rw [← cutL_map]; simpa using k1
  ·simp only [cs]
   rw [List.map_map (f := fun c : Int => if c < 0 then -c else c)]
   exact comp_all fun c _ => zbk (zbk rfl oInt_i) oAbs_i
  ·have : cs.length ≤ 16777216 := by omega
   simp [-List.map_map, this]
 have c2 : zba zaq Ycc (gN 4) zde zd8 [4] [some (.t Yaj), some (.t (.int b)), some (.t Yfv), some (.t (.int st)), o4] hp = .ok (.t (.lst ((cs.filter g).map T.int))) hp := by
  have lf := List.length_filter_le g cs
  refine zca (ws := (cs.map T.int).map W.t) (ys := ((cs.filter g).map T.int).map W.t) (h1 := hp) (h2 := hp) rfl Y6 ?_ ?_
  ·refine comp_list (p := g) (fun c _ => ?_) fun c _ _ => rfl
   simp [zde, wipeI, g, cPow]
  ·have : (cs.filter g).length ≤ 16777216 := by omega
   simp [-List.map_map, this]
 let h1 : IH := hp ++ [some (.lst (((cs.filter g).reverse).map wI))]
 let h2 : IH := h1 ++ [some (.lst [.r hp.length, .t (.int st)])]
 have lz : (cs.filter g).length ≤ 63 := Nat.le_trans (List.length_filter_le _ _) lc
 refine ⟨hp.length + 1, h2, ?_, ⟨(cs.filter g).reverse, st, ⟨?_, ?_, by simpa using lz, a, st31⟩⟩, by omega, fun x hx => ?_⟩
 ·refine fnM_ok (eta := eta0) rfl rfl ?_
  unfold B_w_deal
  refine zax s1 ?_
  refine zax (h1 := hp) ((zdl (h1 := hp) (binP rfl (binP rfl rfl (wMul_ok mb)) wAdd_ii)).trans rfl) ?_
  refine zax ((for_ok (ws := (cs.map T.int).map W.t) (h1 := hp) rfl).trans q) ?_
  have rv : mUn oRevL (zba zaq Ycc (gN 4) zde zd8 [4]) [some (.t Yaj), some (.t (.int b)), some (.t Yfv), some (.t (.int st)), o4] hp = .ok Ycn h1 := by
   rw [p_un, c2, zae]
   unfold oRevL
   simp only [litems_l, h1]
   rw [← List.map_reverse, ← List.map_reverse, List.map_map]
   rfl
  have l1 : h1.length = hp.length + 1 := by simp [h1]
  rw [p_ret, p_app, zav rv (zav rfl rfl), zae, newL_e, if_pos Yae, zae, l1]
 ·rw [show hp.length + 1 - 1 = hp.length by omega]
  have e : hp.length + 1 = h1.length := by simp [h1]
  rw [e]
  exact getL_new
 ·rw [show hp.length + 1 - 1 = hp.length by omega, getL_app (by simp [h1])]
  simp [h1]
 ·simp only [h2, h1]
  rw [List.append_assoc, List.getElem?_append_left hx]
theorem fnP_lift {n nn : Nat} {B : M Fl} {ws : List W} {y : T} {h0 hp : IH} (h : fnP n nn B ws [] = .ok (.t y) h0) : fnP n nn B ws hp = .ok (.t y) hp := by
 unfold fnP at h ⊢
 split at h
 ·rename_i c
  rw [if_pos c]
  split at h
  ·cases h
   rfl
  ·cases h
   rfl
  ·cases h
 ·cases h
mutual
def sameT : T → T → Bool
 | .non, y => (match y with | .non => true | _ => false)
 | .int i, y => (match y with | .int j => decide (i = j) | _ => false)
 | .str x, y => (match y with | .str z => decide (x = z) | _ => false)
 | .tup xs, y => (match y with | .tup ys => sameL xs ys | _ => false)
 | .lst xs, y => (match y with | .lst ys => sameL xs ys | _ => false)
 | .ins c fs vs, y => (match y with | .ins c' fs' vs' => decide (c = c') && (decide (fs = fs') && sameL vs vs') | _ => false)
 | .bl i, y => (match y with | .bl j => decide (i = j) | _ => false)
 | .scr _, _ => false | .pr _, _ => false | .ty _, _ => false | .dic _ _, _ => false | .cls _, _ => false | .dit _ _, _ => false | .exc _ _ _, _ => false
def sameL : List T → List T → Bool
 | [], ys => (match ys with | [] => true | _ :: _ => false)
 | x :: xs, ys => (match ys with | [] => false | y :: ys => sameT x y && sameL xs ys)
end
mutual
theorem same_eq : ∀ (x y : T), sameT x y = true → x = y
 | .non, y, h => by cases y <;> simp [sameT] at h ⊢
 | .int i, y, h => by cases y <;> simp [sameT] at h ⊢; exact h
 | .str x, y, h => by cases y <;> simp [sameT] at h ⊢; exact h
 | .tup xs, y, h => by cases y <;> simp [sameT] at h ⊢; exact sameL_eq _ _ h
 | .lst xs, y, h => by cases y <;> simp [sameT] at h ⊢; exact sameL_eq _ _ h
 | .ins c fs vs, y, h => by cases y <;> simp [sameT] at h ⊢; exact ⟨h.1, h.2.1, sameL_eq _ _ h.2.2⟩
 | .bl i, y, h => by cases y <;> simp [sameT] at h ⊢; exact h
 | .scr _, y, h => by simp [sameT] at h
 | .pr _, y, h => by simp [sameT] at h
 | .ty _, y, h => by simp [sameT] at h
 | .dic _ _, y, h => by simp [sameT] at h
 | .cls _, y, h => by simp [sameT] at h
 | .dit _ _, y, h => by simp [sameT] at h
 | .exc _ _ _, y, h => by simp [sameT] at h
theorem sameL_eq : ∀ (xs ys : List T), sameL xs ys = true → xs = ys
 | [], ys, h => by cases ys <;> simp [sameL] at h ⊢
 | x :: xs, ys, h => by
  cases ys with
  | nil => simp [sameL] at h
  | cons y ys =>
   simp only [sameL, Bool.and_eq_true] at h
   rw [same_eq _ _ h.1, sameL_eq _ _ h.2]
end
def isT (r : Res W) (t : T) : Bool := match r with
 | .ok (.t y) _ => sameT y t
 | _ => false
theorem isT_ok {r : Res W} {t : T} (h : isT r t = true) : ∃ h', r = .ok (.t t) h' := by
 unfold isT at h
 split at h
 ·rename_i y h'
  exact ⟨h', by rw [same_eq _ _ h]⟩
 ·cases h
theorem fld_ok {cs : List Str} {f : Str} {F : M W} {eta : IS} {hp h1 : IH} {w v : W} (h : F eta hp = .ok w h1) (g : fldW cs f w h1 = .ok v h1) : mFld cs f F eta hp = .ok v h1 := by
 unfold mFld
 rw [h]
 exact g
theorem prop_ok {c : Str} {f : OpN} {Fo : M W} {eta : IS} {hp h1 h2 : IH} {o v : W} {fs : List Yei} (h : Fo eta hp = .ok o h1) (g : insOf h1 o = some (c, fs)) (q : f [o] h1 = .ok v h2) : mProp c f Fo eta hp = .ok v h2 := by
 unfold mProp
 rw [h, zae, g]
 simp only [if_true]
 rw [q]
 rfl
theorem lenown_ok {c : Str} {f : OpN} {Fo : M W} {eta : IS} {hp h1 h2 : IH} {o : W} {fs : List Yei} {i : Int} (h : Fo eta hp = .ok o h1) (g : insOf h1 o = some (c, fs)) (q : f [o] h1 = .ok Yah h2) (b : 0 ≤ i ∧ i < 4294967296) : mLenOwn c f Fo eta hp = .ok Yah h2 := by
 unfold mLenOwn
 rw [h, zae, g]
 simp only [if_true]
 rw [q, zb8, zae]
 simp only [b, and_self, if_true]
theorem dmeth_ok {f : OpM} {Fo : M W} {Fs : M (List W)} {eta : IS} {hp h1 h2 h3 : IH} {o v : W} {ws : List W} (h : Fo eta hp = .ok o h1) (i : isL o h1 = true) (a : Fs eta h1 = .ok ws h2) (q : f o ws h2 = .ok v h3) : mDrop (mMeth isL f Fo Fs) eta hp = .ok Ydu h3 := by
 rw [p_drop, p_meth, h, zae]
 simp only [i, if_true]
 rw [a, zae, q, zae]
/-- a comprehension whose turns leave the heap -/
theorem comp_g {A : Type} {G : W → IS → Option IS} {U : M Bool} {E : M W} {eta : IS} {hp : IH} {src : A → W} {loc : A → IS} {p : A → Bool} {g : A → T} : ∀ (as : List A), (∀ a ∈ as, G (src a) eta = some (loc a)) → (∀ a ∈ as, U (loc a) hp = .ok (p a) hp) → (∀ a ∈ as, p a = true → E (loc a) hp = .ok (.t (g a)) hp) →
  zc3 G U E eta (as.map src) hp = .ok (((as.filter p).map g).map W.t) hp
 | [], _, _, _ => rfl
 | a :: as, h1, h2, h3 => by
  have ih := comp_g (G := G) (U := U) (E := E) (eta := eta) (hp := hp) (src := src) (loc := loc) (p := p) (g := g) as (fun b hb => h1 b (List.mem_cons_of_mem _ hb)) (fun b hb => h2 b (List.mem_cons_of_mem _ hb)) fun b hb => h3 b (List.mem_cons_of_mem _ hb)
  have e1 := h1 a Y2
  have e2 := h2 a Y2
  have e3 := h3 a Y2
  simp only [List.map_cons, zc3, turnL, e1, e2, zae]
  by_cases c : p a = true
  ·rw [c, List.filter_cons_of_pos c]
   simp only [if_true, e3 c, zae, zb8, ih, List.map_cons]
  ·have c' : p a = false := by simpa using c
   rw [c', List.filter_cons_of_neg c]
   simp only [Bool.false_eq_true, if_false, zae, zb8, ih]
theorem zda {A : Type} (l : List A) : l.filter (fun _ => true) = l := List.filter_eq_self.mpr fun _ _ => rfl
theorem lst_ok {ts : List T} {hp : IH} (h : ts.length ≤ 16777216) : zaq Yo hp = .ok Y8 hp := by
 unfold zaq
 rw [zcj]
 simp only [h, if_true]
theorem lst_at {ts : List T} {n : Nat} {Ft Fa : M W} {eta : IS} {hp : IH} (h : n < ts.length) (ht : Ft eta hp = .ok Y8 hp) (ha : Fa eta hp = .ok (.t (.int (n : Nat))) hp) : mBin ixW Ft Fa eta hp = .ok (.t (ts.getD n .non)) hp := by
 have := ixW_sq (b := false) (ts := ts) (n := n) (hp := hp) h
 refine binP ht ha (this.trans ?_)
 simp [List.getD, h]
section
open TL
theorem str_eq {x y : Str} (h : tl x = tl y) : x = y := by rw [← mk_tl x, ← mk_tl y, h]
theorem zap (x y : Str) : (x ++ y).length = x.length + y.length := by rw [len_tl, len_tl, len_tl, tl_append, List.length_append]
theorem join_cons2 (s x y : Str) (r : List Str) : Txt.join s (x :: y :: r) = x ++ s ++ Txt.join s (y :: r) := by rw [join_eq, join_eq]; rfl
theorem join_one (s x : Str) : Txt.join s [x] = x := by rw [join_eq]; rfl
theorem join_nil (s : Str) : Txt.join s [] = "" := by rw [join_eq]; rfl
theorem sm_ok {f : OpM} {Fo Fe : M W} {eta : IS} {hp h1 h2 : IH} {a : Str} {u : W} {r : Res W} (h : Fo eta hp = .ok Yf2 h1) (g : Fe eta h1 = .ok u h2) (q : f Yf2 [u] h2 = r) : mSM f Fo Fe eta hp = r := by
 unfold mSM
 rw [h, zae]
 show (Fe eta h1).bind _ = _
 rw [g, zae]
 exact q
theorem split_is {a b : Str} {ls : List Str} {hp : IH} (e : Txt.split a b = ls) (hb : (b.length == 0) = false) (ha : a.length + 2 ≤ 16777216) : oSplit Yf2 [.t (.str b)] hp = .ok (.t (.lst (ls.map T.str))) hp := by
 unfold oSplit
 simp only
 rw [if_pos ⟨hb, ha⟩, e]
/-- a name: small letters, at most four -/
structure Nam (x : Str) : Prop where
 is : ∀ hp, zck [.t (.str x)] hp = .ok (.t Yb5) hp
 fr : ∀ c ∈ tl x, 97 ≤ c ∧ c ≤ 122
 ln : x.length ≤ 4
 ne : x ≠ "if"
def namB (x : Str) : Bool := isT (zck [.t (.str x)] []) Yb5 && ((tl x).all (fun c => decide (97 ≤ c) && decide (c ≤ 122)) && (decide (x.length ≤ 4) && !decide (x = "if")))
theorem nam_ok {x : Str} (h : namB x = true) : Nam x := by
 unfold namB at h
 simp only [Bool.and_eq_true, List.all_eq_true, decide_eq_true_eq, Bool.not_eq_true', decide_eq_false_iff_not] at h
 obtain ⟨h1, h2, h3, h4⟩ := h
 obtain ⟨_, e⟩ := isT_ok h1
 exact ⟨fun hp => fnP_lift e, h2, h3, h4⟩
theorem Nam.no {x : Str} (n : Nam x) {c : Nat} (h : c < 97) : c ∉ tl x := fun m => by have := n.fr c m; omega
/-- a step: a word, a name -/
abbrev Deed := Str × Str
def dTx (d : Deed) : Str := d.1 ++ " " ++ d.2
def dTr (d : Deed) : T := .tup [.str d.1, .str d.2]
/-- words without signs that part texts -/
structure Wrd (w : Str) : Prop where
 fr : ∀ c ∈ tl w, 97 ≤ c ∧ c ≤ 122
 ln : w.length ≤ 10
def wrdB (w : Str) : Bool := (tl w).all (fun c => decide (97 ≤ c) && decide (c ≤ 122)) && decide (w.length ≤ 10)
theorem wrd_ok {w : Str} (h : wrdB w = true) : Wrd w := by
 unfold wrdB at h
 simp only [Bool.and_eq_true, List.all_eq_true, decide_eq_true_eq] at h
 exact ⟨h.1, h.2⟩
theorem Wrd.no {w : Str} (n : Wrd w) {c : Nat} (h : c < 97) : c ∉ tl w := fun m => by have := n.fr c m; omega
theorem tl_sp : tl (" " : Str) = [32] := by decide +kernel
theorem split_sp {w x : Str} (hw : 32 ∉ tl w) (hx : 32 ∉ tl x) : Txt.split (w ++ " " ++ x) " " = [w, x] := by
 have h : w ++ " " ++ x = Txt.join " " [w, x] := by rw [join_eq]; rfl
 rw [h]
 exact split_join (s := 32) (S := []) tl_sp Y3 Yae fun p hp => by
  simp only [List.mem_cons, List.not_mem_nil, or_false] at hp
  rcases hp with rfl | rfl
  ·exact hw
  ·exact hx
theorem sp_len : (" " : Str).length = 1 := by decide +kernel
theorem dTx_len {d : Deed} (w : Wrd d.1) (n : Nam d.2) : (dTx d).length ≤ 15 := by
 unfold dTx
 rw [zap, zap, sp_len]
 have := w.ln
 have := n.ln
 omega
theorem in_strs {neg : Bool} {x : Str} {l : List Str} {hp : IH} : inW neg Yem (.t (.tup Yf1)) hp = .ok Yg0 hp := by
 have f : fitL Yf1 60 = true := zcv
 simp only [inW, asT_t, items_t, Option.bind_some, zcj, fit_s, f, and_self, if_true, any_str]
theorem deed_is {d : Deed} {ws : List Str} {hp : IH} (hw : d.1 ∈ ws) (w : Wrd d.1) (n : Nam d.2) :
  F_deed_in [.t Yeu, .t Yfw] hp = .ok (.t (dTr d)) hp := by
 refine zdz (ts := [.str (dTx d), .tup (ws.map T.str)]) (eta := [some (.t Yeu), some (.t Yfw), none]) rfl rfl (h1 := []) ?_
 have sp : mSM oSplit (mVar 0) Yg9 [some (.t Yeu), some (.t Yfw), none] [] = .ok (.t (.lst [.str d.1, .str d.2])) [] :=
  sm_ok rfl rfl (split_is (split_sp (w.no Yc) (n.no Yc)) Y3 (by have := dTx_len w n; unfold dTx at this; omega))
 have nw : ∀ h : IH, inW true (.t (.str d.1)) (.t Yfw) h = .ok (.t Yx) h := fun h => by
  rw [in_strs]
  simp [hw]
 have nn := n.is
 unfold B_deed_in
 refine zax (e1 := [some (.t Yeu), some (.t Yfw), none]) (h1 := []) rfl ?_
 refine zax (zdl sp) ?_
 simp only [List.set_cons_succ, List.set_cons_zero]
 unfold dTr
 simp_arith [nw, nn, Int.cast_ofNat_Int]
theorem onceK_nd : ∀ (ks acc : List Key), (acc ++ ks).Nodup → ks.foldl addK acc = acc ++ ks
 | [], acc, _ => by simp
 | k :: ks, acc, h => by
  have hm : memK k acc = false := by
   simp only [memK, List.any_eq_false, decide_eq_true_eq]
   intro j hj e
   subst e
   exact (List.nodup_append.mp h).2.2 _ hj _ Y2 rfl
  have e : addK acc k = acc ++ [k] := by simp [addK, hm]
  rw [List.foldl_cons, e, onceK_nd ks (acc ++ [k]) Yg4, List.append_assoc]
  rfl
theorem keysOf_strs : ∀ l : List Str, keysOf ((l.map T.str).map W.t) = some (l.map Sum.inr)
 | [] => rfl
 | x :: l => by
  simp only [List.map_cons, keysOf, keysOf_strs l, Option.map_some]
theorem lenset_nd {F : M W} {eta : IS} {hp h1 : IH} {l : List Str} (h : F eta hp = .ok (.t (.lst Yf1)) h1) (nd : l.Nodup) (hl : l.length ≤ 4000) : mLenSet F eta hp = .ok (.t (.int (l.length : Nat))) h1 := by
 unfold mLenSet
 rw [h, zae, litems_l, Option.bind_some, keysOf_strs]
 have nd2 : (l.map (Sum.inr : Str → Key)).Nodup := List.Pairwise.map _ (fun a b h e => h (Sum.inr.inj e)) nd
 have e : zdp (l.map (Sum.inr : Str → Key)) = l.map Sum.inr := by
  unfold zdp
  rw [onceK_nd _ [] (by simpa using nd2), List.nil_append]
 simp only [e, List.length_map, hl, if_true]
end
section
open TL
structure DOk (ws : List Str) (d : Deed) : Prop where
 m : d.1 ∈ ws
 w : Wrd d.1
 n : Nam d.2
theorem seq_isq {b : Bool} {ts : List T} {hp : IH} : zbx [.t (sqT b ts)] hp = .ok (.t Yb5) hp := by
 cases b
 ·exact zdz (ts := [.lst ts]) (eta := [some Y8]) rfl rfl (h1 := []) rfl
 ·exact zdz (ts := [.tup ts]) (eta := [some Yag]) rfl rfl (h1 := []) rfl
theorem non_in {l : List T} {hp : IH} (f2 : fitL l 60 = true) (h : ∀ t ∈ l, Mir.eqT t .non = false) : inW false Yco (.t (.lst l)) hp = .ok (.t Yx) hp := by
 have a : l.any (fun y => Mir.eqT y .non) = false := List.any_eq_false.mpr fun t ht => by simp [h t ht]
 simp only [inW, asT_t, items_l, Option.bind_some, zcj, fit_n, f2, and_self, if_true, a]
 simp
theorem dTr_fit {ds : List Deed} {n : Nat} : fitL Yf (n + 2) = true := by
 induction ds with
 | nil => simp
 | cons d ds ih => simp [dTr, ih]
theorem deeds_is {b : Bool} {w0 : Str} {ws : List Str} {ds : List Deed} {hp : IH} (ok : ∀ d ∈ ds, DOk (w0 :: ws) d) (nd : ((ds.filter fun d => decide (d.1 = w0)).map (·.2)).Nodup) (hl : ds.length ≤ 1000) :
  zdb [.t Ygx, .t (.tup Yho)] hp = .ok (.t Ybq) hp := by
 let v0 : Option W := some (.t Ygx)
 let v1 : Option W := some (.t (.tup Yho))
 refine zdz (ts := [sqT b Ym, .tup Yho]) (eta := [v0, v1, none, none, none, none]) rfl rfl (h1 := []) ?_
 unfold B_deeds_in
 refine zax (e1 := [v0, v1, none, none, none, none]) (h1 := []) ?_ ?_
 ·rw [if_no (h1 := []) (by rw [p_not, p_test, za3 (ws := [.t Ygx]) rfl seq_isq]; rfl)]
  rfl
 have c1 : zba zaq (mSq (mVar 0)) (gN 4) mYes zcl [4] [v0, v1, none, none, none, none] [] = .ok Ybm [] := by
  have q := comp_g (G := gN 4) (U := mYes) (E := zcl) (eta := [v0, v1, none, none, none, none]) (hp := []) (src := fun d : Deed => W.t Yeu)
   (loc := fun d => [v0, v1, none, none, some (.t Yeu), none]) (p := fun _ => true) (g := dTr) ds Yai Yai
   (fun d hd _ => za3 (ws := [.t Yeu, .t (.tup Yho)]) rfl (deed_is (ok d hd).m (ok d hd).w (ok d hd).n))
  rw [zda] at q
  refine zca (ws := (ds.map fun d => T.str (dTx d)).map W.t) (ys := (ds.map dTr).map W.t) (h1 := []) (h2 := []) ?_ Y6 ?_ (lst_ok Y6)
  ·rw [p_sq, varP rfl, zae, sqI_sq]
  ·rw [List.map_map]
   exact q
 refine zax (zdl c1) ?_
 let eta1 : IS := [v0, v1, some Ybm, none, none, none]
 have c2 : zba zaq Ycc (gN 5) zbv zby [5] eta1 [] = .ok (.t (.lst (((ds.filter fun d => decide (d.1 = w0)).map (·.2)).map T.str))) [] := by
  have q := comp_g (G := gN 5) (U := zbv) (E := zby) (eta := eta1) (hp := []) (src := fun d : Deed => W.t (dTr d))
   (loc := fun d => [v0, v1, some Ybm, none, none, some (.t (dTr d))]) (p := fun d => decide (d.1 = w0)) (g := fun d => .str d.2) ds Yai
   (fun d _ => by
    unfold zbv dTr
    simp_arith [v1]) (fun _ _ _ => by
    unfold zby dTr
    simp_arith [])
  have le := List.length_filter_le (fun d : Deed => decide (d.1 = w0)) ds
  refine zca (ws := (ds.map dTr).map W.t) (ys := ((ds.filter fun d => decide (d.1 = w0)).map fun d => T.str d.2).map W.t) (h1 := []) (h2 := []) rfl Y6 ?_ ?_
  ·rw [List.map_map]
   exact q
  ·rw [lst_ok Y6, List.map_map]
   rfl
 refine zax (zdl c2) ?_
 have le := List.length_filter_le (fun d : Deed => decide (d.1 = w0)) ds
 have ni : ∀ h : IH, inW false Yco Ybm h = .ok (.t Yx) h := fun h => non_in dTr_fit fun t ht => by
  obtain ⟨d, _, rfl⟩ := List.mem_map.mp ht
  simp [dTr, Mir.eqT]
 generalize hps : (ds.filter fun d => decide (d.1 = w0)).map (·.2) = parts at nd ⊢
 have lp : parts.length ≤ 1000 := by rw [← hps, List.length_map]; omega
 have ls : mLenSet (mVar 3) [v0, v1, some Ybm, some (.t (.lst (parts.map T.str))), none, none] [] = .ok (.t (.int (parts.length : Nat))) [] := lenset_nd rfl nd Yc
 show mRet _ [v0, v1, some Ybm, some (.t (.lst (parts.map T.str))), none, none] [] = _
 simp_arith [ni, ls]
/-- a kind -/
def kndT (n : Str) (ds : List Deed) : T := .ins "Kind" ["name", "steps", "deeds"] [.str n, .tup Ym, .tup Yf]
abbrev wW : List Str := ["write", "bump"]
abbrev wR : List Str := ["read", "look"]
theorem fnX_nx {n nn : Nat} {B : M Fl} {ws : List W} {hp h1 : IH} {e eta : IS} (hl : ws.length = n) (he : ws.map some ++ List.replicate (nn - n) none = eta) (h : B eta hp = .ok (.nx e) h1) : fnX n nn B ws hp = .ok Yco h1 := by
 unfold fnX
 rw [if_pos hl, he, h]
theorem zdr {cs : List Str} {f c : Str} {Fo Fv : M W} {eta : IS} {hp h1 : IH} {v : W} {i : Nat} {fs : List Yei} (h : Fv eta hp = .ok v h1) (g : Fo eta h1 = .ok (.r i) h1) (q : h1[i]? = some (some (.ins c fs))) (m : c ∈ cs) (l : fs.length < 1000) : zdn cs f Fo Fv eta hp = .ok Ydu (h1.set i (some Yhl)) := by
 unfold zdn
 rw [h, zae, g, zae]
 unfold fldSet
 simp only [q, m, l, and_self, if_true]
theorem set_set {hp : IH} {i : Nat} {a b : Option Cell} : (hp.set i a).set i b = hp.set i b := List.set_set ..
theorem set_at {hp : IH} {i : Nat} {a : Option Cell} (h : i < hp.length) : (hp.set i a)[i]? = some a := by rw [List.getElem?_set_self h]
theorem kind_init {b : Bool} {n : Str} {ds : List Deed} {hp : IH} {i : Nat} (hi : hp[i]? = some (some (.ins "Kind" []))) (hn : Nam n) (ok : ∀ d ∈ ds, DOk wW d) (nd : ((ds.filter fun d => decide (d.1 = ("write" : Str))).map (·.2)).Nodup) (hl : ds.length ≤ 1000) (h0 : 0 < ds.length) :
  zbt [.r i, .t (.str n), .t Ygx] hp = .ok Yco (hp.set i (some (.ins "Kind" [("name", .t (.str n)), ("steps", .t (.tup Ym)), ("deeds", .t Ybq)]))) := by
 have il : i < hp.length := (List.getElem?_eq_some_iff.mp hi).1
 let v2 : W := .t Ygx
 refine fnX_nx (e := [some (.r i), some Yfc, some v2, some (.t Ybq)]) (eta := [some (.r i), some Yfc, some v2, none]) rfl rfl ?_
 unfold B_Kind_init
 refine zax (e1 := [some (.r i), some Yfc, some v2, none]) (h1 := hp) ?_ ?_
 ·rw [if_no (h1 := hp) (by rw [p_not, p_test, za3 (ws := [.t (.str n)]) rfl (hn.is _)]; rfl)]
  rfl
 refine zax (zdl (za3 (ws := [v2, .t (.tup (wW.map T.str))]) rfl (deeds_is ok nd hl))) ?_
 simp only [List.set_cons_succ, List.set_cons_zero]
 refine zax (e1 := [some (.r i), some Yfc, some v2, some (.t Ybq)]) (h1 := hp) ?_ ?_
 ·simp_arith []
  rw [if_neg Yc]
 refine zax (zdr (c := "Kind") (h1 := hp) (v := .t (.str n)) rfl rfl hi Ybr Ybr) ?_
 refine zax (zdr (c := "Kind") (v := .t (.tup Ym)) (zbk rfl oTup_sq) rfl (set_at il) Ybr Ycp) ?_
 rw [set_set]
 refine (zdr (c := "Kind") (v := .t Ybq) rfl rfl (set_at il) Ybr Ycp).trans ?_
 rw [set_set]
 rfl
end
section
open TL
theorem app_at {hp : IH} {x : Option Cell} : (hp ++ [x])[hp.length]? = some x := by simp
theorem app_set {hp : IH} {x y : Option Cell} : (hp ++ [x]).set hp.length y = hp ++ [y] := by simp
theorem frz_made {F : M W} {eta : IS} {hp h1 : IH} {c : Str} {fs : List Yei} {ts : List T} (h : F eta hp = .ok (.r h1.length) (h1 ++ [some (.ins c fs)])) (g : ∀ h, frzAll fs h = .ok ts h) : zcc F eta hp = .ok (.t (.ins c (fs.map (·.1)) ts)) Ygk := by
 unfold zcc
 rw [h, zae]
 unfold freezeI
 simp only [app_at, g, zae, app_set]
theorem cs_len : (": " : Str).length = 2 := by decide +kernel
theorem cm_len : (", " : Str).length = 2 := by decide +kernel
theorem join_len {s : Str} {k : Nat} : ∀ {ps : List Str}, (∀ p ∈ ps, p.length ≤ k) → (Txt.join s ps).length ≤ ps.length * (k + s.length)
 | [], _ => by rw [join_nil]; exact Nat.zero_le _
 | [p], h => by
  have := h p Y2
  rw [join_one, List.length_singleton]
  omega
 | p :: q :: r, h => by
  have h1 := h p Y2
  have h2 := join_len (s := s) (k := k) (ps := q :: r) fun x hx => h x (List.mem_cons_of_mem _ hx)
  rw [join_cons2, zap, zap, List.length_cons, Nat.succ_mul]
  omega
def zdc (ds : List Deed) : Str := Txt.join ", " (ds.map dTx)
theorem steps_len {ds : List Deed} {ws : List Str} (ok : ∀ d ∈ ds, DOk ws d) : (zdc ds).length ≤ ds.length * 17 := by
 have := join_len (s := ", ") (k := 15) (ps := ds.map dTx) fun p hp => by
  obtain ⟨d, hd, rfl⟩ := List.mem_map.mp hp
  exact dTx_len (ok d hd).w (ok d hd).n
 rw [List.length_map, cm_len] at this
 exact this
structure KOk (n : Str) (ds : List Deed) : Prop where
 n : Nam n
 ok : ∀ d ∈ ds, DOk wW d
 nd : ((ds.filter fun d => decide (d.1 = ("write" : Str))).map (·.2)).Nodup
 hl : ds.length ≤ 1000
 h0 : 0 < ds.length
theorem wAdd_st {x y : Str} {hp : IH} (h : x.length + y.length ≤ 16777216) : wAdd Yem Yf0 hp = .ok (.t (.str (x ++ y))) hp := by
 unfold wAdd
 simp [h]
theorem strsOf_map (ys : List Str) : zb3 (ys.map fun y => W.t (.str y)) = some ys := by
 induction ys with
 | nil => rfl
 | cons y ys ih =>
  rw [List.map_cons]
  simp [zb3, ih]
theorem sum_le {ys : List Str} {k : Nat} (h : ∀ y ∈ ys, y.length ≤ k) : (ys.map (·.length)).sum ≤ ys.length * k := by
 induction ys with
 | nil => simp
 | cons y ys ih =>
  have a := h y Y2
  have b := ih fun z hz => h z (List.mem_cons_of_mem _ hz)
  simp only [List.map_cons, List.sum_cons, List.length_cons, Nat.add_mul]
  omega
theorem joinS {a : Str} {ys : List Str} {k : Nat} {hp : IH} (b : Bool) (h : ∀ y ∈ ys, y.length ≤ k) (hl : ys.length * (k + a.length) ≤ 16777216) : oJoin Yf2 [.t (sqT b (ys.map T.str))] hp = .ok (.t (.str (Txt.join a ys))) hp := by
 unfold oJoin
 have e : (items hp (.t (sqT b (ys.map T.str)))).bind zb3 = some ys := by
  have e2 : items hp (.t (sqT b (ys.map T.str))) = some ((ys.map T.str).map W.t) := by cases b <;> rfl
  rw [e2, Option.bind_some, List.map_map]
  exact strsOf_map ys
 have := sum_le h
 simp only [e]
 rw [if_pos]
 rw [Nat.mul_add] at hl
 omega
end
section
open TL
variable {hp : IH} {eta : IS}
theorem jc_ok {Fa : M W} {J : Str → M Str} {acc y : Str} {r : Res Str} (h : Fa eta hp = .ok Yf0 hp) (l : (acc ++ y).length ≤ 16777216) (q : J (acc ++ y) eta hp = r) : zcy Fa J acc eta hp = r := by
 unfold zcy
 rw [h, zae]
 show (if (acc ++ y).length ≤ 16777216 then J (acc ++ y) eta hp else Res.bad) = r
 rw [if_pos l]
 exact q
theorem jn_ok {J : Str → M Str} {z : Str} (h : J Str.empty eta hp = .ok z hp) : mJoined J eta hp = .ok (.t (.str z)) hp := by
 unfold mJoined
 rw [h, zae]
theorem fmt_s {y : Str} (l : y.length ≤ 16777216) : oFmt Yf0 hp = .ok Yf0 hp := by
 simp only [oFmt]
 rw [if_pos l]
theorem fmt_v {i : Nat} {y : Str} (e : eta[i]? = some (some Yf0)) (l : y.length ≤ 16777216) : (mUn oFmt (mVar i) : M W) eta hp = .ok Yf0 hp := by
 show ((mVar i : M W) eta hp).bind _ = _
 rw [varP e, zae]
 exact fmt_s l
theorem em_app (x : Str) : Str.empty ++ x = x := str_eq (by rw [tl_append]; rfl)
theorem em_len : Str.empty.length = 0 := rfl
theorem pile {b : Nat} : ∀ {l : List T}, (∀ t ∈ l, (dat t).showable = true ∧ (dat t).shown.length ≤ b) → PyData.showableAll (datL l) = true ∧ piled (PyData.shownAll (datL l)) ≤ (b + 2) * l.length
 | [], _ => by simp [datL, PyData.showableAll, PyData.shownAll, piled_nil]
 | t :: l, h => by
  obtain ⟨a1, a2⟩ := h t Y2
  obtain ⟨b1, b2⟩ := pile (l := l) fun x hx => h x (List.mem_cons_of_mem _ hx)
  refine ⟨by simp only [datL, PyData.showableAll, a1, b1, Bool.and_self], ?_⟩
  simp only [datL, PyData.shownAll, piled_cons, List.length_cons, Nat.mul_add, Nat.mul_one]
  omega
theorem tup_shown {b : Nat} {l : List T} (h : ∀ t ∈ l, (dat t).showable = true ∧ (dat t).shown.length ≤ b) : (dat (.tup l)).showable = true ∧ (dat (.tup l)).shown.length ≤ (b + 2) * l.length + 3 := by
 obtain ⟨h1, h2⟩ := pile h
 refine ⟨by simpa [dat, PyData.showable] using h1, ?_⟩
 simp only [dat, PyData.shown]
 have := piled_tupleText (PyData.shownAll (datL l))
 omega
end
section
theorem makeX_ok {c : Str} {f : OpN} {ds : List T} {Fs : M (List W)} {eta : IS} {hp h1 : IH} {ws : List W} {fs : List Yei} (h : Fs eta hp = .ok ws h1) (q : f (.r h1.length :: (ws ++ ds.map W.t)) (h1 ++ [some (.ins c [])]) = .ok Yco (h1 ++ [some (.ins c fs)])) :
  za7 c f ds Fs eta hp = .ok (.r h1.length) (h1 ++ [some (.ins c fs)]) := by
 unfold za7
 rw [h, zae, q]
 rfl
theorem kind_made {b : Bool} {n : Str} {ds : List Deed} {Fs : M (List W)} {eta : IS} {hp h1 : IH} (K : KOk n ds) (h : Fs eta hp = .ok [.t (.str n), .t Ygx] h1) :
  zcc (za7 "Kind" zbt [] Fs) eta hp = .ok (.t (kndT n ds)) Ygk := by
 have q := kind_init (b := b) (hp := h1 ++ [some (.ins "Kind" [])]) (i := h1.length) app_at K.n K.ok K.nd K.hl K.h0
 rw [app_set] at q
 exact frz_made (makeX_ok (ds := []) h q) fun _ => rfl
end
section
open TL
/-- a reader: cs the texts of its checks, ts the checks -/
def rdrG (n : Str) (ds : List Deed) (cs : List Str) (ts : List T) : T := .ins "Reader" ["name", "steps", "checks", "deeds", "tests"] [.str n, .tup Ym, .tup Ycd, .tup Yf, .tup ts]
structure ROk (n : Str) (ds : List Deed) : Prop where
 n : Nam n
 ok : ∀ d ∈ ds, DOk wR d
 nd : ((ds.filter fun d => decide (d.1 = ("read" : Str))).map (·.2)).Nodup
 hl : ds.length ≤ 1000
 h0 : ∃ d ∈ ds, d.1 = ("read" : Str)
theorem ROk.ne {n : Str} {ds : List Deed} (h : ROk n ds) : 0 < ds.length := by
 obtain ⟨d, hd, _⟩ := h.h0
 exact List.length_pos_of_mem hd
theorem in_lstrs {neg : Bool} {x : Str} {l : List Str} {hp : IH} : inW neg Yem (.t (.lst Yf1)) hp = .ok Yg0 hp := by
 have f : fitL Yf1 60 = true := zcv
 simp only [inW, asT_t, items_l, Option.bind_some, zcj, fit_s, f, and_self, if_true, any_str]
theorem reader_init {b bc : Bool} {n : Str} {ds : List Deed} {cs : List Str} {ts : List T} {hp : IH} {i : Nat} (hi : hp[i]? = some (some (.ins "Reader" []))) (h : ROk n ds) (ht : ∀ hp, zco [.t (sqT bc Ycd), .t Ybq] hp = .ok Yag hp) :
  zah [.r i, .t (.str n), .t Ygx, .t (sqT bc Ycd)] hp = .ok Yco (hp.set i (some (.ins "Reader" [("name", .t (.str n)), ("steps", .t (.tup Ym)), ("checks", .t (.tup Ycd)), ("deeds", .t Ybq), ("tests", .t (.tup ts))]))) := by
 have il : i < hp.length := (List.getElem?_eq_some_iff.mp hi).1
 have hl := h.hl
 let v2 : W := .t Ygx
 let v3 : W := .t (sqT bc Ycd)
 let E : IS := [some (.r i), some Yfc, some v2, some v3, some (.t Ybq), some Yag, none, none]
 refine fnX_nx (e := E) (eta := [some (.r i), some Yfc, some v2, some v3, none, none, none, none]) rfl rfl ?_
 unfold B_Reader_init
 refine zax (e1 := [some (.r i), some Yfc, some v2, some v3, none, none, none, none]) (h1 := hp) ?_ ?_
 ·rw [if_no (h1 := hp) (by rw [p_not, p_test, za3 (ws := [.t (.str n)]) rfl (h.n.is _)]; rfl)]
  rfl
 refine zax (zdl (za3 (ws := [v2, .t (.tup (wR.map T.str))]) rfl (deeds_is h.ok h.nd hl))) ?_
 simp only [List.set_cons_succ, List.set_cons_zero]
 let E1 : IS := [some (.r i), some Yfc, some v2, some v3, some (.t Ybq), none, none, none]
 refine zax (e1 := E1) (h1 := hp) ?_ ?_
 ·have c2 : zba zaq (mSq (mVar 4)) (gT 2 (gsC (gN 6) (gsC (gN 7) gsN))) mYes zbg [6, 7] E1 hp = .ok (.t (.lst ((ds.map (·.1)).map T.str))) hp := by
   have q := comp_g (G := gT 2 (gsC (gN 6) (gsC (gN 7) gsN))) (U := mYes) (E := zbg) (eta := E1) (hp := hp) (src := fun d : Deed => W.t (dTr d))
    (loc := fun d => [some (.r i), some Yfc, some v2, some v3, some (.t Ybq), none, some (.t (.str d.1)), some (.t (.str d.2))]) (p := fun _ => true) (g := fun d => .str d.1) ds Yai Yai (fun _ _ _ => rfl)
   rw [zda] at q
   refine zca (ws := (ds.map dTr).map W.t) (ys := (ds.map fun d => T.str d.1).map W.t) (h1 := hp) (h2 := hp) rfl Y6 ?_ ?_
   ·rw [List.map_map]
    exact q
   ·rw [lst_ok Y6, List.map_map]
    rfl
  have m : ("read" : Str) ∈ ds.map (·.1) := by
   obtain ⟨d, hd, e⟩ := h.h0
   exact List.mem_map.mpr ⟨d, hd, e⟩
  have t2 : zai asB Yc8 E1 hp = .ok false hp := zc4 (binP rfl c2 (by rw [in_lstrs]; simp only [if_true, decide_eq_true m, Bool.not_true]))
  have t1 : zai asB (mBin (isN false) (mVar 4) Yaw) E1 hp = .ok false hp := rfl
  rw [if_no (h1 := hp) (by rw [p_or, t1, zae]; exact t2)]
  rfl
 refine zax (zdl (za3 (ws := [v3, .t Ybq]) rfl (ht _))) ?_
 show mSeq _ _ E hp = _
 refine zax (e1 := E) (h1 := hp) rfl ?_
 refine zax (zdr (c := "Reader") (h1 := hp) (v := .t (.str n)) rfl rfl hi Ybr Ybr) ?_
 refine zax (zdr (c := "Reader") (v := .t (.tup Ym)) (zbk rfl oTup_sq) rfl (set_at il) Ybr Ycp) ?_
 rw [set_set]
 refine zax (zdr (c := "Reader") (v := .t (.tup Ycd)) (zbk rfl oTup_sq) rfl (set_at il) Ybr Ycp) ?_
 rw [set_set]
 refine zax (zdr (c := "Reader") (v := .t Ybq) rfl rfl (set_at il) Ybr Ycp) ?_
 rw [set_set]
 refine (zdr (c := "Reader") (v := .t (.tup ts)) rfl rfl (set_at il) Ybr Ycp).trans ?_
 rw [set_set]
 rfl
end
section
theorem rdr_made {b bc : Bool} {n : Str} {ds : List Deed} {cs : List Str} {ts : List T} {Fs : M (List W)} {eta : IS} {hp h1 : IH} (r : ROk n ds) (h : Fs eta hp = .ok [.t (.str n), .t Ygx, .t (sqT bc Ycd)] h1) (ht : ∀ hp, zco [.t (sqT bc Ycd), .t Ybq] hp = .ok Yag hp) :
  zcc (za7 "Reader" zah [] Fs) eta hp = .ok (.t (rdrG n ds cs ts)) Ygk := by
 have q := reader_init (b := b) (bc := bc) (hp := h1 ++ [some (.ins "Reader" [])]) (i := h1.length) app_at r ht
 rw [app_set] at q
 exact frz_made (makeX_ok (ds := []) h q) fun _ => rfl
/-- a reader with no word of checks -/
theorem rdr_made0 {b : Bool} {n : Str} {ds : List Deed} {Fs : M (List W)} {eta : IS} {hp h1 : IH} (r : ROk n ds) (h : Fs eta hp = .ok [.t (.str n), .t Ygx] h1) :
  zcc (za7 "Reader" zah [.tup []] Fs) eta hp = .ok (.t (rdrG n ds [] [])) Ygk := by
 have ht : ∀ hp, zco [.t (sqT true (([] : List Str).map T.str)), .t Ybq] hp = .ok (.t (.tup [])) hp := fun hp => by
  refine fnP_lift (y := .tup []) (h0 := []) ?_
  refine zdz (ts := [.tup [], .tup Yf]) (eta := [some (.t (.tup [])), some (.t Ybq), none, none]) rfl rfl (h1 := []) ?_
  unfold B_tests_in
  rfl
 have q := reader_init (b := b) (bc := true) (hp := h1 ++ [some (.ins "Reader" [])]) (i := h1.length) app_at r ht
 rw [app_set] at q
 exact frz_made (makeX_ok (ds := [.tup []]) h q) fun _ => rfl
end
section
open TL
inductive Chk where
 | same (i j : Nat)
 | even (i : Nat)
 deriving DecidableEq
def numS (i : Nat) : Str := Str.ofString (toString ((i : Nat) : Int))
def chkP : Chk → List Str
 | .same i j => ["same", numS i, numS j]
 | .even i => ["even", numS i]
def zay (c : Chk) : Str := Txt.join " " (chkP c)
def chkT : Chk → T
 | .same i j => .tup [.str "same", .int (i : Nat), .int (j : Nat)]
 | .even i => .tup [.str "even", .int (i : Nat)]
/-- a check of these steps -/
def chkOk (ds : List Deed) : Chk → Prop
 | .same i j => i < j ∧ j < ds.length ∧ (ds.getD i ("", "")).1 = "look" ∧ ds.getD i ("", "") = ds.getD j ("", "")
 | .even i => i < ds.length ∧ (ds.getD i ("", "")).1 = "look"
theorem num_no {i c : Nat} (h : c < 48 ∨ 57 < c) : c ∉ tl (numS i) := by
 unfold numS
 rw [tl_num]
 exact numL_free h
theorem num_len {i : Nat} (h : i < 10) : (numS i).length = 1 := by
 unfold numS
 rw [len_tl, tl_num, numL_lt h]
 rfl
theorem num_in : ∀ i, i < 10 → isT (zdf [.t Ybj, .t (.int 9)] []) (.int (i : Nat)) = true := by decide +kernel
theorem num_is {i : Nat} {hp : IH} (h : i < 10) : zdf [.t Ybj, .t (.int 9)] hp = .ok Ybf hp := by
 obtain ⟨_, e⟩ := isT_ok (num_in i h)
 exact fnP_lift e
theorem deed_at {ds : List Deed} {i : Nat} (h : i < ds.length) : (ds.map dTr)[i]'(by simpa using h) = .tup [.str (ds.getD i ("", "")).1, .str (ds.getD i ("", "")).2] := by
 simp [dTr, List.getD, h]
theorem spot_is {ds : List Deed} {i : Nat} {hp : IH} (h : i < ds.length) (h9 : ds.length ≤ 10) (hd : (ds.getD i ("", "")).1 = "look") : zdg [.t Ybj, .t Ybq] hp = .ok Ybf hp := by
 let E : IS := [some (.t Ybj), some (.t Ybq), none]
 let E2 : IS := [some (.t Ybj), some (.t Ybq), some Ybf]
 refine zdz (ts := [.str (numS i), .tup Yf]) (eta := E) rfl rfl (h1 := []) ?_
 unfold B_spot_in
 refine zax (e1 := E2) (h1 := []) (zdl (za3 (ws := [.t Ybj, .t (.int 9)]) rfl (num_is Yc))) ?_
 have ix : ixW (.t Ybq) Ybf [] = .ok (.t (.tup [.str (ds.getD i ("", "")).1, .str (ds.getD i ("", "")).2])) [] := by
  have := ixW_sq (b := true) (ts := ds.map dTr) (n := i) (hp := []) Yg4
  rw [deed_at h] at this
  exact this
 have t1 : zai asB (mBin (isN true) (mVar 2) Yaw) E2 [] = .ok true [] := rfl
 have t2 : zai asB (mBin wLt (mVar 2) (mApp oLen Yq)) E2 [] = .ok true [] := zc4 (binP rfl (zbk (a := .t Ybq) rfl oLen_t) (by rw [wLt_ii, decide_eq_true Ycw]))
 have t3 : zai asB Yge E2 [] = .ok true [] := zc4 (binP (binP (binP rfl rfl ix) rfl ev_ixt0) rfl (by rw [ev_eqs, hd]; simp))
 rw [p_ret, if_yes (h1 := []) (by rw [p_and, t1, zae]; simp only [if_true]; rw [p_and, t2, zae]; exact t3)]
 rfl
theorem split_chk {c : Chk} : Txt.split (zay c) " " = chkP c := by
 refine split_join (s := 32) (S := []) tl_sp Y3 (by cases c <;> simp [chkP]) fun p hp => ?_
 have s1 : 32 ∉ tl ("same" : Str) := by decide +kernel
 have s2 : 32 ∉ tl ("even" : Str) := by decide +kernel
 cases c <;> simp only [chkP, List.mem_cons, List.not_mem_nil, or_false] at hp
 ·rcases hp with rfl | rfl | rfl
  ·exact s1
  ·exact num_no Yc
  ·exact num_no Yc
 ·rcases hp with rfl | rfl
  ·exact s2
  ·exact num_no Yc
theorem chkTx_len {c : Chk} {ds : List Deed} (h : chkOk ds c) (h9 : ds.length ≤ 10) : (zay c).length ≤ 10 := by
 have l1 : ("same" : Str).length = 4 := by decide +kernel
 have l2 : ("even" : Str).length = 4 := by decide +kernel
 cases c with
 | same i j =>
  obtain ⟨h1, h2, _⟩ := h
  simp only [zay, chkP, join_cons2, join_one, zap, l1, sp_len, num_len (show i < 10 by omega), num_len (show j < 10 by omega)]
  omega
 | even i =>
  obtain ⟨h1, _⟩ := h
  simp only [zay, chkP, join_cons2, join_one, zap, l2, sp_len, num_len (show i < 10 by omega)]
  omega
theorem test_is {ds : List Deed} {c : Chk} {hp : IH} (h : chkOk ds c) (h9 : ds.length ≤ 10) : F_test_in [.t Ygl, .t Ybq] hp = .ok (.t (chkT c)) hp := by
 let E : IS := [some (.t Ygl), some (.t Ybq), none, none, none]
 refine zdz (ts := [.str (zay c), .tup Yf]) (eta := E) rfl rfl (h1 := []) ?_
 have ln := chkTx_len h h9
 have sp : mSM oSplit (mVar 0) Yg9 E [] = .ok (.t (.lst ((chkP c).map T.str))) [] := sm_ok rfl rfl (split_is split_chk Y3 Yc)
 unfold B_test_in
 refine zax (e1 := E) (h1 := []) rfl ?_
 refine zax (zdl sp) ?_
 cases c with
 | same i j =>
  obtain ⟨h1, h2, h3, h4⟩ := h
  let E1 : IS := [some (.t (.str (zay (.same i j)))), some (.t Ybq), some (.t (.lst [.str "same", .str (numS i), .str (numS j)])), none, none]
  let E2 : IS := [some (.t (.str (zay (.same i j)))), some (.t Ybq), some (.t (.lst [.str "same", .str (numS i), .str (numS j)])), some (.t (.lst [.int (i : Nat), .int (j : Nat)])), none]
  have s1 : zdg [.t Ybj, .t Ybq] [] = .ok Ybf [] := spot_is Yc h9 h3
  have s2 : zdg [.t (.str (numS j)), .t Ybq] [] = .ok (.t (.int (j : Nat))) [] := spot_is h2 h9 (by rw [← h4]; exact h3)
  have cp : zba zaq Yha (gN 4) mYes zbd [4] E1 [] = .ok (.t (.lst [.int (i : Nat), .int (j : Nat)])) [] := by
   refine zca (ws := [.t Ybj, .t (.str (numS j))]) (ys := [.t (.int (i : Nat)), .t (.int (j : Nat))]) (h1 := []) (h2 := []) rfl Yae ?_ rfl
   have e1 : zbd (E1.set 4 (some (.t Ybj))) [] = .ok Ybf [] := za3 (ws := [.t Ybj, .t Ybq]) rfl s1
   have e2 : zbd (E1.set 4 (some (.t (.str (numS j))))) [] = .ok (.t (.int (j : Nat))) [] := za3 (ws := [.t (.str (numS j)), .t Ybq]) rfl s2
   have w : wipeI E1 [4] = E1 := rfl
   rw [w]
   simp only [zc3, turnL, p_gN, p_yes, zae, if_true, e1, e2, zb8]
  refine zax (e1 := E2) (h1 := []) (zdl cp) ?_
  refine zax (e1 := E2) (h1 := []) rfl ?_
  refine zax (e1 := E2) (h1 := []) rfl ?_
  have i1 : mBin ixW (mVar 3) Yk E2 [] = .ok Ybf [] := binP rfl rfl ev_ixl0
  have i2 : mBin ixW (mVar 3) Yn E2 [] = .ok (.t (.int (j : Nat))) [] := binP rfl rfl ev_ixl1
  refine zax (e1 := E2) (h1 := []) ?_ ?_
  ·have t1 : zai asB (mBin Yac Ycz Yfo) E2 [] = .ok false [] := rfl
   have t2 : zai asB (mBin Yac Yet (mC (.int 2))) E2 [] = .ok false [] := rfl
   have t3 : zai asB (mBin iGe Yca Yhn) E2 [] = .ok false [] := zc4 (binP i1 i2 (by rw [iGe_ii, decide_eq_false Yc]))
   rw [if_no (h1 := []) (by
    rw [p_or, t1, zae]
    simp only [Bool.false_eq_true, if_false]
    rw [p_or, t2, zae]
    exact t3)]
   rfl
  have ix : ∀ k : Nat, k < ds.length → ixW (.t Ybq) Yde [] = .ok (.t (.tup [.str (ds.getD k ("", "")).1, .str (ds.getD k ("", "")).2])) [] := fun k hk => by
   have := ixW_sq (b := true) (ts := ds.map dTr) (n := k) (hp := []) (by simpa using hk)
   rw [deed_at hk] at this
   exact this
  have t4 : zai asB Yd1 E2 [] = .ok true [] :=
   zc4 (binP (binP (binP rfl i1 (ix i Yc)) rfl ev_ixt1) (binP (binP rfl i2 (ix j h2)) rfl ev_ixt1) (by rw [ev_eqs, h4]; simp))
  have tp : mApp zbj (zab Yfo (zab Yca (zab Yhn (mNil)))) E2 [] = .ok (.t (chkT (.same i j))) [] := by
   rw [p_app, zav rfl (zav i1 (zav i2 rfl))]
   rfl
  rw [p_ret, if_yes t4, tp]
  rfl
 | even i =>
  obtain ⟨h1, h3⟩ := h
  let E1 : IS := [some (.t (.str (zay (.even i)))), some (.t Ybq), some (.t (.lst [.str "even", .str (numS i)])), none, none]
  let E2 : IS := [some (.t (.str (zay (.even i)))), some (.t Ybq), some (.t (.lst [.str "even", .str (numS i)])), some (.t (.lst [.int (i : Nat)])), none]
  have s1 : zdg [.t Ybj, .t Ybq] [] = .ok Ybf [] := spot_is Yc h9 h3
  have cp : zba zaq Yha (gN 4) mYes zbd [4] E1 [] = .ok (.t (.lst [.int (i : Nat)])) [] := by
   refine zca (ws := [.t Ybj]) (ys := [.t (.int (i : Nat))]) (h1 := []) (h2 := []) rfl Yae ?_ rfl
   have e1 : zbd (E1.set 4 (some (.t Ybj))) [] = .ok Ybf [] := za3 (ws := [.t Ybj, .t Ybq]) rfl s1
   have w : wipeI E1 [4] = E1 := rfl
   rw [w]
   simp only [zc3, turnL, p_gN, p_yes, zae, if_true, e1, zb8]
  refine zax (e1 := E2) (h1 := []) (zdl cp) ?_
  refine zax (e1 := E2) (h1 := []) rfl ?_
  have i1 : mBin ixW (mVar 3) Yk E2 [] = .ok Ybf [] := binP rfl rfl ev_ixl0
  have tp : mApp zbj (zab Yeo (zab Yca (mNil))) E2 [] = .ok (.t (chkT (.even i))) [] := by
   rw [p_app, zav rfl (zav i1 rfl)]
   rfl
  have t1 : zai asB (mBin Y0 Ycz Yeo) E2 [] = .ok true [] := rfl
  have t2 : zai asB (mBin Y0 Yet Yn) E2 [] = .ok true [] := rfl
  have t : (mAnd (zai asB (mBin Y0 Ycz Yeo)) (zai asB (mBin Y0 Yet Yn)) : M Bool) E2 [] = .ok true [] := by
   rw [p_and, t1, zae]
   exact t2
  rw [p_seq, if_yes t, p_ret, tp]
  rfl
def chkK : Chk → List Key
 | .same i j => [.inr "same", .inl (i : Nat), .inl (j : Nat)]
 | .even i => [.inr "even", .inl (i : Nat)]
theorem chkK_inj {c d : Chk} (h : chkK c = chkK d) : c = d := by
 cases c <;> cases d <;> simp [chkK] at h ⊢ <;> omega
theorem tups_chk : ∀ cs : List Chk, tupsT (cs.map chkT) = some (cs.map chkK)
 | [] => rfl
 | .same i j :: cs => by
  have ih := tups_chk cs
  simp only [List.map_cons, chkT, chkK, tupsT, ih]
  rfl
 | .even i :: cs => by
  have ih := tups_chk cs
  simp only [List.map_cons, chkT, chkK, tupsT, ih]
  rfl
theorem onceT_nd : ∀ (ks acc : List (List Key)), (acc ++ ks).Nodup → ks.foldl Ycx acc = acc ++ ks
 | [], acc, _ => by simp
 | k :: ks, acc, h => by
  have hm : memT k acc = false := by
   simp only [memT, List.any_eq_false, decide_eq_true_eq]
   intro j hj e
   subst e
   exact (List.nodup_append.mp h).2.2 _ hj _ Y2 rfl
  rw [List.foldl_cons]
  simp only [hm, Bool.false_eq_true, if_false]
  rw [onceT_nd ks (acc ++ [k]) Yg4, List.append_assoc]
  rfl
theorem chkT_fit {cs : List Chk} : fitL (cs.map chkT) 60 = true := fitL_all fun t ht => by
 obtain ⟨c, _, rfl⟩ := List.mem_map.mp ht
 cases c <;> simp [chkT]
theorem tests_is {b : Bool} {ds : List Deed} {cs : List Chk} {hp : IH} (h : ∀ c ∈ cs, chkOk ds c) (nd : cs.Nodup) (h4 : cs.length ≤ 4) (h9 : ds.length ≤ 10) : zco [.t (sqT b Ygy), .t Ybq] hp = .ok (.t (.tup (cs.map chkT))) hp := by
 let v0 : Option W := some (.t (sqT b Ygy))
 let v1 : Option W := some (.t Ybq)
 refine zdz (ts := [sqT b Ygy, .tup Yf]) (eta := [v0, v1, none, none]) rfl rfl (h1 := []) ?_
 unfold B_tests_in
 refine zax (e1 := [v0, v1, none, none]) (h1 := []) ?_ ?_
 ·rw [if_no (h1 := []) (by rw [p_not, p_test, za3 (ws := [.t (sqT b Ygy)]) rfl seq_isq]; rfl)]
  rfl
 have c1 : zba zaq (mSq (mVar 0)) (gN 3) mYes zcm [3] [v0, v1, none, none] [] = .ok (.t Yad) [] := by
  have q := comp_g (G := gN 3) (U := mYes) (E := zcm) (eta := [v0, v1, none, none]) (hp := []) (src := fun c : Chk => W.t Ygl)
   (loc := fun c => [v0, v1, none, some (.t Ygl)]) (p := fun _ => true) (g := chkT) cs Yai Yai
   (fun c hc _ => za3 (ws := [.t Ygl, .t Ybq]) rfl (test_is (h c hc) h9))
  rw [zda] at q
  refine zca (ws := ((cs.map zay).map T.str).map W.t) (ys := (cs.map chkT).map W.t) (h1 := []) (h2 := []) ?_ Y6 ?_ (lst_ok Y6)
  ·rw [p_sq, varP rfl, zae, sqI_sq]
  ·rw [List.map_map, List.map_map]
   exact q
 refine zax (zdl c1) ?_
 let E1 : IS := [v0, v1, some (.t Yad), none]
 have ni : ∀ h : IH, inW false Yco (.t Yad) h = .ok (.t Yx) h := fun h => non_in chkT_fit fun t ht => by
  obtain ⟨c, _, rfl⟩ := List.mem_map.mp ht
  cases c <;> simp [chkT, Mir.eqT]
 have ls : mLenSetT (mVar 2) E1 [] = .ok (.t (.int (cs.length : Nat))) [] := by
  unfold mLenSetT
  rw [varP rfl, zae]
  simp only [tups_chk, List.length_map, h4, if_true]
  have nd2 : (cs.map chkK).Nodup := List.Pairwise.map _ (fun a b h e => h (chkK_inj e)) nd
  have e : onceT (cs.map chkK) = cs.map chkK := by
   unfold onceT
   rw [onceT_nd _ [] (by simpa using nd2), List.nil_append]
  rw [e, List.length_map]
 show mRet _ E1 [] = _
 have t1 : zai asB (mBin (inW false) Yaw (mVar 2)) E1 [] = .ok false [] := zc4 (binP rfl rfl (ni []))
 have t2 : zai asB (mBin Yac (mLenSetT (mVar 2)) (mApp oLen Ybe)) E1 [] = .ok false [] := zc4 (binP ls (zbk (a := .t Yad) rfl Ycq) (by rw [ev_eqi]; simp))
 rw [p_ret, if_no (h1 := []) (by rw [p_or, t1, zae]; exact t2), zbk (a := .t Yad) rfl oTup_l]
 rfl
end
section
variable {eta : IS} {hp : IH}
theorem vc_ifE {A : Type} {QA : A → IH → Prop} {U : M Bool} {F G : M A} {b : Bool} (e : U eta hp = .ok b hp) (t : b = true → Wp Yf4 QA) (f : b = false → Wp (G eta hp) QA) : Wp (mIf U F G eta hp) QA := by
 refine vc_if (Wp.of e ?_)
 cases b with
 | true => exact Wp.itt rfl (t rfl)
 | false => exact Wp.itf Ybr (f rfl)
theorem andE {U V : M Bool} {a b : Bool} (h : U eta hp = .ok a hp) (h' : a = true → V eta hp = .ok b hp) : mAnd U V eta hp = .ok (a && b) hp := by
 show (U eta hp).bind _ = _
 rw [h, zae]
 cases a with
 | true => simpa using h' rfl
 | false => rfl
theorem orE {U V : M Bool} {a b : Bool} (h : U eta hp = .ok a hp) (h' : a = false → V eta hp = .ok b hp) : mOr U V eta hp = .ok (a || b) hp := by
 show (U eta hp).bind _ = _
 rw [h, zae]
 cases a with
 | false => simpa using h' rfl
 | true => rfl
end
section
variable {eta : IS} {hp : IH} {Q : W → IH → Prop} {QL : List W → IH → Prop} {QB : Bool → IH → Prop} {QF : Fl → IH → Prop}
theorem vc_andV {Fa Fb : M W} (q : Wp (Fa eta hp) fun a h1 => ∃ b, a = .t (.bl b) ∧ if b then Wp (Fb eta h1) Q else Q (.t Yx) h1) : Wp (mAndV Fa Fb eta hp) Q :=
 Wp.bind (q.mono fun a h1 ⟨b, e, q⟩ => by subst e; cases b <;> first | exact Wp.ok q | exact q)
end
section
open TL
variable {hp : IH}
abbrev RP := Str × List Deed × List Chk
theorem rd_len : ("reader " : Str).length = 7 := by decide +kernel
def rdrTx (n : Str) (ds : List Deed) : Str := "reader " ++ n ++ ": " ++ zdc ds
def rdrTxC (n : Str) (ds : List Deed) (cs : List Str) : Str := "reader " ++ n ++ ": " ++ (zdc ds ++ " if " ++ Txt.join ", " cs)
def lnR (r : RP) : Str := if r.2.2 = [] then rdrTx r.1 r.2.1 else rdrTxC r.1 r.2.1 (r.2.2.map zay)
def rdT (r : RP) : T := rdrG r.1 r.2.1 (r.2.2.map zay) Ycg
structure RK2 (r : RP) : Prop where
 k : ROk r.1 r.2.1
 l : r.2.1.length ≤ 10
 n : r.2.2.length ≤ 4
 c : ∀ c ∈ r.2.2, chkOk r.2.1 c
 nd : r.2.2.Nodup
theorem rstr_is {r : RP} (R : RK2 r) : zaf [.t (rdT r)] hp = .ok (.t Ydb) hp := by
 have sl := steps_len R.k.ok
 have hl := R.l
 have nl := R.k.n.ln
 have cn := R.n
 have il : (" if " : Str).length = 4 := by decide +kernel
 have j := joinS (a := ", ") (ys := r.2.1.map dTx) (k := 15) (hp := []) true (fun y hy => by
  obtain ⟨d, hd, rfl⟩ := List.mem_map.mp hy
  exact dTx_len (R.k.ok d hd).w (R.k.ok d hd).n) Yc9
 have ck : ∀ y ∈ r.2.2.map zay, y.length ≤ 10 := fun y hy => by
  obtain ⟨c, hc, rfl⟩ := List.mem_map.mp hy
  exact chkTx_len (R.c c hc) R.l
 have j2 := joinS (a := ", ") (ys := r.2.2.map zay) (k := 10) (hp := []) true ck Yc9
 have jl := join_len (s := ", ") ck
 rw [List.length_map, cm_len] at jl
 have st : fldW ["Kind", "Reader"] "steps" (.t (rdT r)) ([] : IH) = .ok (.t (sqT true ((r.2.1.map dTx).map T.str))) [] := by rw [List.map_map]; rfl
 have sc : fldW ["Reader"] "checks" (.t (rdT r)) ([] : IH) = .ok (.t (sqT true ((r.2.2.map zay).map T.str))) [] := rfl
 have nm : fldW ["Kind", "Reader"] "name" (.t (rdT r)) ([] : IH) = .ok Ydf [] := rfl
 let E : IS := [some Yap, some Yhb, some Ycr]
 suffices h : Wp (zaf [.t (rdT r)] hp) fun w h => w = .t Ydb ∧ h = hp by
  obtain ⟨w, h1, e, rfl, rfl⟩ := h.ex
  exact e
 refine vc_fnP (ts := [rdT r]) (eta := [some Yap, none, none]) rfl rfl ?_
 unfold B_Reader_str
 have s1 : (mSM oJoin Ydq Yfi : M W) [some Yap, none, none] [] = .ok Yhb [] := sm_ok (a := ", ") (h1 := []) rfl (fld_ok (w := .t (rdT r)) rfl st) j
 have s2 : (mSM oJoin Ydq Yeb : M W) [some Yap, none, none] [] = .ok Ycr [] := sm_ok (a := ", ") (h1 := []) rfl (fld_ok (w := .t (rdT r)) rfl sc) j2
 refine za2 (vc_par2 (zan (Wp.of s1 (zan (Wp.of s2 (zbh ⟨_, _, rfl, zbp ?_⟩))))))
 show Wp ((mSeq _ _ : M Fl) E []) _
 have f0 : (mUn oFmt Yc0 : M W) E [] = .ok Ydf [] := by
  show ((mFld ["Kind", "Reader"] "name" (mVar 0) : M W) _ []).bind _ = _
  rw [fld_ok (w := .t (rdT r)) rfl nm, zae]
  exact fmt_s Yc
 have f1 : (mUn oFmt (mVar 1) : M W) E [] = .ok Yhb [] := fmt_v rfl Yc
 have f2 : (mUn oFmt (mVar 2) : M W) E [] = .ok Ycr [] := fmt_v rfl Yc
 have t0 : (zai asB (mBin Y0 (mApp oLen (zab Yeb (mNil))) Yk) : M Bool) E [] = .ok (decide (((r.2.2.length : Nat) : Int) = 0)) [] := by
  refine zc4 (binP (a := .t (.int (r.2.2.length : Nat))) (zbk (fld_ok (w := .t (rdT r)) rfl sc) (by rw [show sqT true ((r.2.2.map zay).map T.str) = .tup ((r.2.2.map zay).map T.str) from rfl, oLen_t, List.length_map, List.length_map])) rfl ?_)
  exact ev_eqi
 refine za2 (vc_ifE t0 (fun c => ?_) fun c => ?_)
 ·have c : r.2.2 = [] := List.length_eq_zero_iff.mp (by have := of_decide_eq_true c; omega)
  have e : Str.empty ++ ("reader " : Str) ++ r.1 ++ (": " : Str) ++ zdc r.2.1 = lnR r := by
   unfold lnR
   rw [em_app, if_pos c]
   rfl
  have q := jn_ok (eta := E) (hp := []) (z := lnR r) (jc_ok (Fa := mC (.str "reader ")) (y := "reader ") rfl (by rw [zap, em_len, rd_len]; omega) (jc_ok f0 (by rw [zap, zap, em_len, rd_len]; omega) (jc_ok (Fa := mC (.str ": ")) (y := ": ") rfl (by rw [zap, zap, zap, em_len, rd_len, cs_len]; omega) (jc_ok f1 (by rw [zap, zap, zap, zap, em_len, rd_len, cs_len]; omega) (J := mJNil) (by rw [e]; rfl)))))
  exact vc_ret (Wp.of q (vc_rt ⟨_, rfl, rfl, rfl⟩))
 ·have c : r.2.2 ≠ [] := fun e => by rw [e] at c; simp at c
  have e : Str.empty ++ ("reader " : Str) ++ r.1 ++ (": " : Str) ++ zdc r.2.1 ++ (" if " : Str) ++ Txt.join ", " (r.2.2.map zay) = lnR r := by
   unfold lnR
   rw [em_app, if_neg c]
   unfold rdrTxC
   refine str_eq ?_
   simp only [tl_append, List.append_assoc]
  refine zc2 (zbp ?_)
  have q := jn_ok (eta := E) (hp := []) (z := lnR r) (jc_ok (Fa := mC (.str "reader ")) (y := "reader ") rfl (by rw [zap, em_len, rd_len]; omega) (jc_ok f0 (by rw [zap, zap, em_len, rd_len]; omega) (jc_ok (Fa := mC (.str ": ")) (y := ": ") rfl (by rw [zap, zap, zap, em_len, rd_len, cs_len]; omega) (jc_ok f1 (by rw [zap, zap, zap, zap, em_len, rd_len, cs_len]; omega) (jc_ok (Fa := mC (.str " if ")) (y := " if ") rfl (by rw [zap, zap, zap, zap, zap, em_len, rd_len, cs_len, il]; omega) (jc_ok f2 (by rw [zap, zap, zap, zap, zap, zap, em_len, rd_len, cs_len, il]; omega) (J := mJNil) (by rw [e]; rfl)))))))
  exact vc_ret (Wp.of q ⟨_, rfl, rfl, rfl⟩)
end
section
structure ScrP (w u : Str) (cs ctr : List Str) (m : Nat) (ds : List Deed) : Prop where
 ok : ∀ d ∈ ds, (d.1 = w ∧ d.2 ∈ cs) ∨ (d.1 = u ∧ d.2 ∈ ctr)
 nd : ((ds.filter fun d => decide (d.1 = w)).map (·.2)).Nodup
 len : ds.length ≤ m
 one : ∃ d ∈ ds, d.1 = w
theorem scrp_perm {w u : Str} {cs ctr ps : List Str} {m : Nat} {xs ys : List Deed} (p : xs.Perm ((ps.map fun x => ((w, x) : Deed)).take m ++ ys)) (nd : ps.Nodup) (hp : ∀ x ∈ ps, x ∈ cs) (h0 : 0 < ps.length) (m0 : 0 < m) (hy : ∀ y ∈ ys, y.1 = u ∧ y.2 ∈ ctr) (yl : ys.length ≤ m - ((ps.map fun x => ((w, x) : Deed)).take m).length) (hu : u ≠ w) : ScrP w u cs ctr m xs := by
 have e1 : (ps.map fun x => ((w, x) : Deed)).take m = (ps.take m).map fun x => (w, x) := (List.map_take ..).symm
 rw [e1] at p yl
 refine ⟨fun d hd => ?_, ?_, ?_, ?_⟩
 ·rcases List.mem_append.mp (p.mem_iff.mp hd) with h | h
  ·obtain ⟨x, hx, rfl⟩ := List.mem_map.mp h
   exact .inl ⟨rfl, hp x (List.mem_of_mem_take hx)⟩
  ·exact .inr (hy d h)
 ·refine (((p.filter fun d => decide (d.1 = w)).map (·.2)).nodup_iff).mpr ?_
  have f1 : ys.filter (fun d => decide (d.1 = w)) = [] := List.filter_eq_nil_iff.mpr fun d hd => by
   rw [(hy d hd).1]
   simpa using hu
  have f2 : ((ps.take m).map fun x => ((w, x) : Deed)).filter (fun d => decide (d.1 = w)) = (ps.take m).map fun x => (w, x) := List.filter_eq_self.mpr fun d hd => by
   obtain ⟨x, _, rfl⟩ := List.mem_map.mp hd
   simp
  rw [List.filter_append, f1, f2, List.append_nil, List.map_map]
  have : (fun x : Deed => x.2) ∘ (fun x : Str => ((w, x) : Deed)) = id := rfl
  rw [this, List.map_id]
  exact nd.sublist (List.take_sublist _ _)
 ·have := p.length_eq
  have l2 : ((ps.take m).map fun x => ((w, x) : Deed)).length ≤ m := by rw [List.length_map]; exact List.length_take_le ..
  rw [List.length_append] at this
  omega
 ·cases ps with
  | nil => simp at h0
  | cons x ps =>
   obtain ⟨k, rfl⟩ : ∃ k, m = k + 1 := ⟨m - 1, by omega⟩
   exact ⟨(w, x), p.mem_iff.mpr (List.mem_append.mpr (.inl Yae)), rfl⟩
end
section
variable {i j : Nat} {hp : IH}
theorem cutL_from2 {A : Type} (xs : List A) (k : Nat) : cutL xs (some (k : Int)) none = xs.drop k := by
 unfold cutL
 rw [HT.sIx_none, HT.sIx_nat]
 rcases Nat.le_total k xs.length with h | h
 ·rw [Nat.min_eq_left h, List.take_of_length_le (by rw [List.length_drop]; omega)]
 ·rw [Nat.min_eq_right h, List.drop_eq_nil_of_le Ye2, List.drop_eq_nil_of_le h, List.take_nil]
theorem oListF_l {ts : List T} : oListF [.t (.lst ts)] hp = .ok Y8 hp := by
 unfold oListF
 simp
theorem put_is {ds ms : List Deed} (d : Deal i j hp) (hl : ds.length + ms.length ≤ 1000) : ∃ (xs : List Deed) (hp' : IH), xs.Perm (ds ++ ms) ∧ F_w_put [.r i, .t (.lst Yf), .t Ygq] hp = .ok (.t Yec) hp' ∧ Deal i j hp' := by
 suffices h : Wp (F_w_put [.r i, .t (.lst Yf), .t Ygq] hp) fun w h => ∃ xs : List Deed, xs.Perm (ds ++ ms) ∧ w = .t Yec ∧ Deal i j h by
  obtain ⟨w, h1, e, xs, p, rfl, d1⟩ := h.ex
  exact ⟨xs, h1, p, e, d1⟩
 refine vc_fnM (eta := [some (.r i), some Ybm, some (.t Ygq), none, none, none]) rfl rfl ?_
 unfold B_w_put
 refine za2 (zcu (vc_app (zan (zb6 rfl (zbh (Wp.rw oListF_l (Wp.ok (zbp ?_))))))))
 refine za2 (vc_for (vc_sq (zb6 rfl (vc_sqL ?_))))
 refine vc_loop (G := gN 4) (S := f_w_put_l1) (fun ws eta h => ∃ (xs rest : List Deed) (v4 v5 : Option W), ws = (rest.map dTr).map W.t ∧ (xs ++ rest).Perm (ds ++ ms) ∧ eta = [some (.r i), some Ybm, some (.t Ygq), some (.t Yec), v4, v5] ∧ Deal i j h) ?_ _ _ _ ⟨ds, ms, none, none, rfl, .refl _, rfl, d⟩ ?_
 ·rintro w ws eta h ⟨xs, rest, v4, v5, ew, p, rfl, d⟩
  cases rest with
  | nil => simp at ew
  | cons y rest =>
   simp only [List.map_cons, List.cons.injEq] at ew
   obtain ⟨rfl, rfl⟩ := ew
   refine ⟨_, rfl, ?_⟩
   have pl := p.length_eq
   simp only [List.length_append, List.length_cons] at pl
   obtain ⟨n, h1, e1, n0, n1, d1, _⟩ := draw_is (wide := (xs.length : Nat) + 1) d Yc Yc
   obtain ⟨k, rfl⟩ : ∃ k : Nat, n = (k : Int) := ⟨n.toNat, by omega⟩
   unfold f_w_put_l1
   let E : Option W → IS := fun v5 => [some (.r i), some Ybm, some (.t Ygq), some (.t Yec), some (.t (dTr y)), v5]
   have ln : (mBin wAdd Yet Yn : M W) (E v5) h = .ok (.t (.int ((xs.length : Nat) + 1))) h := binP (zbk (a := .t Yec) rfl Ycq) rfl rfl
   refine za2 (zcu (zd3 (zan (zb6 rfl (zan (Wp.of ln (zbh (Wp.of e1 (zbp ?_)))))))))
   show Wp ((mSet 3 _ : M Fl) (E (some Yde)) h1) _
   have s1 : (mSl (mVar 3) zbb (zc8 (mVar 5)) : M W) (E (some Yde)) h1 = .ok (.t (.lst ((xs.take k).map dTr))) h1 := by
    show slW (.t Yec) none (some (k : Int)) h1 = _
    simp only [slW, cutL_to, List.map_take]
   have s2 : (mSl (mVar 3) (zc8 (mVar 5)) zbb : M W) (E (some Yde)) h1 = .ok (.t (.lst ((xs.drop k).map dTr))) h1 := by
    show slW (.t Yec) (some (k : Int)) none h1 = _
    simp only [slW, cutL_from2, List.map_drop]
   have lt : (xs.take k).length ≤ xs.length := List.length_take_le' ..
   have ld : (xs.drop k).length ≤ xs.length := by rw [List.length_drop]; omega
   have s3 : (mBin wAdd Yhm (mSl (mVar 3) (zc8 (mVar 5)) zbb) : M W) (E (some Yde)) h1 = .ok (.t (.lst ((xs.take k ++ [y] ++ xs.drop k).map dTr))) h1 := by
    have a1 := binP (f := wAdd) s1 (b := .t (.lst [dTr y])) (Fb := mApp zaq Yck) rfl (r := .ok (.t (.lst ((xs.take k).map dTr ++ [dTr y]))) h1) (by rw [wAdd_ll, if_pos (by simp only [List.length_map, List.length_cons, List.length_nil]; omega)])
    refine binP a1 s2 ?_
    rw [wAdd_ll, if_pos (by simp only [List.length_append, List.length_map, List.length_cons, List.length_nil]; omega)]
    simp only [List.map_append, List.map_cons, List.map_nil]
   refine zcu (Wp.of s3 ⟨_, rfl, xs.take k ++ [y] ++ xs.drop k, rest, _, _, rfl, ?_, rfl, d1⟩)
   have q1 : (xs.take k ++ [y] ++ xs.drop k).Perm (xs ++ [y]) := by
    have : (xs.take k ++ ([y] ++ xs.drop k)).Perm (xs.take k ++ (xs.drop k ++ [y])) := List.Perm.append_left _ List.perm_append_comm
    rw [← List.append_assoc, ← List.append_assoc, List.take_append_drop] at this
    exact this
   have q2 := q1.append_right rest
   rw [List.append_assoc xs] at q2
   exact q2.trans p
 ·rintro e h ⟨xs, rest, v4, v5, ew, p, rfl, d⟩
  cases rest with
  | cons y rest => simp at ew
  | nil =>
   rw [List.append_nil] at p
   exact zbp (vc_ret (zb6 rfl ⟨_, rfl, xs, p, rfl, d⟩))
end
section
variable {i j : Nat} {hp : IH}
theorem glances_is {cs ctr : List Str} {m : Nat} (d : Deal i j hp) (nd : cs.Nodup) (c0 : 0 < cs.length) (cl : cs.length ≤ 100) (t0 : 0 < ctr.length) (tl : ctr.length ≤ 100) (m0 : 0 < m) (ml : m ≤ 100) : ∃ (ds : List Deed) (hp' : IH), ScrP "read" "look" cs ctr m ds ∧ zdm [.r i, .t (.lst Ycd), .t (.lst (ctr.map T.str)), .t (.int (m : Nat))] hp = .ok Ybm hp' ∧ Deal i j hp' := by
 suffices h : Wp (zdm [.r i, .t (.lst Ycd), .t (.lst (ctr.map T.str)), .t (.int (m : Nat))] hp) fun w h => ∃ ds : List Deed, ScrP "read" "look" cs ctr m ds ∧ w = .t (.lst Yf) ∧ Deal i j h by
  obtain ⟨w, h1, e, ds, s, rfl, d1⟩ := h.ex
  exact ⟨ds, h1, s, e, d1⟩
 let V1 : Option W := some (.t (.lst Ycd))
 let V2 : Option W := some (.t (.lst (ctr.map T.str)))
 let V3 : Option W := some (.t (.int (m : Nat)))
 refine vc_fnM (eta := [some (.r i), V1, V2, V3, none, none, none, none, none]) rfl rfl ?_
 obtain ⟨zs, h1, p1, e1, d1, _⟩ := mixed_is (ts := cs.map T.str) d Y6 zcv
 obtain ⟨l, pl, el⟩ := perm_strs p1
 subst el
 obtain ⟨n, h2, e2, n0, n1, d2, _⟩ := draw_is (wide := (cs.length : Nat)) d1 Yc Yc
 have ll := pl.length_eq
 let ps : List Str := l.take (n.toNat + 1)
 have psl : ps.length = n.toNat + 1 := by simp only [ps, List.length_take]; omega
 have psn : ps.Nodup := (pl.nodup_iff.mpr nd).sublist (List.take_sublist _ _)
 have psm : ∀ x ∈ ps, x ∈ cs := fun x hx => pl.mem_iff.mp (List.mem_of_mem_take hx)
 unfold B_w_glances
 have ol : ∀ {v4 : Option W}, (mApp oLen Yq : M W) [some (.r i), V1, V2, V3, v4, none, none, none, none] h1 = .ok (.t (.int (cs.length : Nat))) h1 := zbk (a := .t (.lst Ycd)) rfl Ycq
 have sl : (mSl (zaz zb7 [] (zab (mVar 0) Yq)) zbb (zc8 (mBin wAdd Yn Ydo)) : M W) [some (.r i), V1, V2, V3, none, none, none, none, none] hp = .ok Yf9 h2 := by
  rw [p_sl, za3 (ws := [.r i, .t (.lst Ycd)]) rfl e1, zae, p_noPart, zae, p_part, bin_ok (h1 := h1) (h2 := h2) (a := .t (.int 1)) (b := .t (.int n)) (r := .ok (.t (.int (1 + n))) h2) rfl (za3 (ws := [.r i, .t (.int (cs.length : Nat))]) (zav rfl (zav ol rfl)) e2) rfl, zae]
  show slW (.t (.lst Yf1)) none (some (1 + n)) h2 = _
  have : 1 + n = ((n.toNat + 1 : Nat) : Int) := by omega
  simp only [slW, this, cutL_to, ps, List.map_take]
 refine za2 (zcu (Wp.of sl (zbp ?_)))
 let St : List Deed := ps.map fun x => ("read", x)
 let E1 : IS := [some (.r i), V1, V2, V3, some Yf9, none, none, none, none]
 have cp : (zba zaq (mSq (mVar 4)) (gN 7) mYes zcq [7] : M W) E1 h2 = .ok (.t (.lst (St.map dTr))) h2 := by
  refine zca (ws := (ps.map T.str).map W.t) (ys := (St.map dTr).map W.t) (h1 := h2) (h2 := h2) rfl Y6 ?_ (lst_ok (by simp [St]; omega))
  have e : St.map dTr = ps.map fun x => T.tup [.str "read", .str x] := by simp [St, dTr, Function.comp_def]
  rw [e]
  exact comp_all fun x _ => rfl
 let D1 : List Deed := St.take m
 have sl2 : (mSl (zba zaq (mSq (mVar 4)) (gN 7) mYes zcq [7]) zbb (zc8 (mVar 3)) : M W) E1 h2 = .ok (.t (.lst (D1.map dTr))) h2 := by
  rw [p_sl, cp, zae, p_noPart, zae]
  show slW (.t (.lst (St.map dTr))) none (some (m : Int)) h2 = _
  simp only [slW, cutL_to, D1, List.map_take]
 refine za2 (zcu (Wp.of sl2 (zbp ?_)))
 obtain ⟨f, h3, e3, f0, f1, d3, _⟩ := draw_is (wide := 4) d2 Yc Yc
 let E2 : IS := [some (.r i), V1, V2, V3, some Yf9, some (.t (.lst (D1.map dTr))), none, none, none]
 have rg : rng1 [.t (.int f)] h3 = .ok ((List.range f.toNat).map natW) h3 := by
  obtain ⟨k, rfl⟩ : ∃ k : Nat, f = (k : Int) := ⟨f.toNat, by omega⟩
  exact rng_is Yc
 have fl : f.toNat ≤ 4 := by omega
 refine za2 (zcu (vc_comp (vc_src (zan (zd3 (zan (zb6 rfl (zan (vc_c (zbh (Wp.of e3 (zbh (Wp.rw rg (Wp.ok ⟨by simp; omega, ?_⟩))))))))))))))
 refine vc_compL (fun ws acc h => ∃ ys : List Deed, acc = (ys.map dTr).map W.t ∧ ys.length + ws.length = f.toNat ∧ (∀ y ∈ ys, y.1 = "look" ∧ y.2 ∈ ctr) ∧ Deal i j h) ?_ _ [] _ _ ⟨[], rfl, by simp, by simp, d3⟩ ?_
 ·rintro w ws acc h ⟨ys, rfl, ly, hy, d⟩
  obtain ⟨t, h4, mt, e4, d4, _⟩ := pick_is (ts := ctr.map T.str) d Y6 Y6
  obtain ⟨x, hx, rfl⟩ := List.mem_map.mp mt
  refine ⟨_, rfl, vc_yes ?_⟩
  simp only [if_true]
  unfold zcr
  refine vc_app (zan (vc_c (zan (zd3 (zan (zb6 rfl (zan (zb6 rfl (zbh (Wp.of e4 (zbh (vc_tupE (ts := [.str "look", .str x]) rfl Yae ⟨ys ++ ([("look", x)] : List Deed), by simp [dTr], ?_, ?_, d4⟩))))))))))))
  ·simp only [List.length_append, List.length_cons, List.length_nil] at ly ⊢
   omega
  ·intro y hy'
   rcases List.mem_append.mp hy' with h' | h'
   ·exact hy y h'
   ·rw [List.mem_singleton.mp h']
    exact ⟨rfl, hx⟩
 rintro r h4 ⟨ys, er, ly, hy, d4⟩
 rw [List.nil_append] at er
 subst er
 simp only [List.length_nil, Nat.add_zero] at ly
 refine vc_lstM Y6 (zbp ?_)
 let E3 : IS := [some (.r i), V1, V2, V3, some Yf9, some (.t (.lst (D1.map dTr))), some (.t (.lst (ys.map dTr))), none, none]
 have dl : D1.length ≤ m := List.length_take_le ..
 have sl3 : (mSl (mVar 6) zbb (zc8 (mBin iSub (mVar 3) (mApp oLen Yak))) : M W) E3 h4 = .ok (.t (.lst ((ys.take (m - D1.length)).map dTr))) h4 := by
  have o5 : (mApp oLen Yak : M W) E3 h4 = .ok (.t (.int (D1.length : Nat))) h4 := zbk (a := .t (.lst (D1.map dTr))) rfl Ycq
  rw [p_sl, varP (w := .t (.lst (ys.map dTr))) rfl, zae, p_noPart, zae, p_part, bin_ok (h1 := h4) (h2 := h4) (a := .t (.int (m : Nat))) (b := .t (.int (D1.length : Nat))) (r := .ok (.t (.int ((m : Nat) - (D1.length : Nat) : Int))) h4) rfl o5 rfl, zae]
  show slW (.t (.lst (ys.map dTr))) none (some ((m : Nat) - (D1.length : Nat) : Int)) h4 = _
  rw [show ((m : Nat) - (D1.length : Nat) : Int) = ((m - D1.length : Nat) : Int) by omega]
  simp only [slW, cutL_to, List.map_take]
 have sl1 : St.length = n.toNat + 1 := by simp only [St, List.length_map, psl]
 have dl1 : D1.length ≤ 100 := by omega
 have yl : (ys.take (m - D1.length)).length ≤ m - D1.length := List.length_take_le ..
 obtain ⟨xs, h5, px, e5, d5⟩ := put_is (ds := D1) (ms := ys.take (m - D1.length)) d4 Yc
 refine vc_ret (zd3 (zan (zb6 rfl (zan (zb6 rfl (zan (Wp.of sl3 (zbh (Wp.of e5 ⟨_, rfl, xs, ?_, rfl, d5⟩)))))))))
 exact scrp_perm px psn psm Yc m0 (fun y hy' => hy y (List.mem_of_mem_take hy')) yl Y3
end
section
open TL
variable {i j : Nat} {hp : IH}
abbrev P4 : List Str := ["a", "b", "d", "zzzz"]
abbrev ttl : List Str := ["move", "add", "w", "both", "r", "iff", "zzzz"]
theorem p4_nam : ∀ x ∈ P4, namB x = true := by decide +kernel
theorem ttl_nam : ∀ x ∈ ttl, namB x = true := by decide +kernel
theorem wrd_write : Wrd "write" := wrd_ok Y3
theorem wrd_read : Wrd "read" := wrd_ok Y3
theorem wrd_look : Wrd "look" := wrd_ok Y3
theorem titles_is (d : Deal i j hp) : ∃ (x : Str) (hp' : IH), x ∈ ttl ∧ zdt [.r i, .t (.int 1)] hp = .ok (.t (.lst [.str x])) hp' ∧ Deal i j hp' := by
 obtain ⟨zs, h1, p1, e1, d1, _⟩ := mixed_is (ts := ttl.map T.str) d Yae zcv
 obtain ⟨l, pl, el⟩ := perm_strs p1
 subst el
 match l, pl with
 | [], p => exact absurd p.length_eq Yae
 | x :: l, p =>
  refine ⟨x, h1, p.mem_iff.mp Y2, fnM_ok (eta := [some (.r i), some (.t (.int 1))]) rfl rfl ?_, d1⟩
  unfold B_w_titles
  rw [p_ret, p_sl, za3 (ws := [.r i, .t (.lst (ttl.map T.str))]) rfl e1, zae]
  rfl
theorem deed_texts_is {ds : List Deed} (hl : ds.length ≤ 1000) (h : ∀ d ∈ ds, (dTx d).length ≤ 15) : za0 [.t (.lst Yf)] hp = .ok (.t (.lst Ym)) hp := by
 refine zdz (ts := [.lst Yf]) (eta := [some Ybm, none, none]) rfl rfl (h1 := []) ?_
 unfold B_w_deed_texts
 have q := comp_g (G := gT 2 Ydp) (U := mYes) (E := zbz) (eta := [some Ybm, none, none]) (hp := []) (src := fun d : Deed => W.t (dTr d))
  (loc := fun d => [some Ybm, some (.t (.str d.1)), some (.t (.str d.2))]) (p := fun _ => true) (g := fun d => .str (dTx d)) ds Yai Yai (fun d hd _ => by
   have l1 := h d hd
   unfold dTx at l1
   rw [zap, zap] at l1
   unfold zbz
   exact binP (binP (a := .t (.str d.1)) (b := .t (.str " ")) rfl rfl (wAdd_st Yc)) (b := .t (.str d.2)) rfl (wAdd_st (by rw [zap]; omega)))
 rw [zda] at q
 rw [p_ret, zca (ws := (ds.map dTr).map W.t) (ys := (ds.map fun d => T.str (dTx d)).map W.t) (h1 := []) (h2 := []) rfl Y6 Ye4 (lst_ok Y6)]
 rfl
end
section
open TL
variable {hp : IH}
theorem perm_of_map {A : Type} (f : A → T) : ∀ {zs ys : List T}, zs.Perm ys → ∀ {l : List A}, ys = l.map f → ∃ l' : List A, l'.Perm l ∧ zs = l'.map f := by
 intro zs ys p
 induction p with
 | nil =>
  intro l e
  have : l = [] := by simpa using e.symm
  exact ⟨[], by rw [this], rfl⟩
 | cons x _ ih =>
  intro l e
  cases l with
  | nil => simp at e
  | cons a l =>
   simp only [List.map_cons, List.cons.injEq] at e
   obtain ⟨rfl, e⟩ := e
   obtain ⟨l', p, rfl⟩ := ih e
   exact ⟨a :: l', p.cons a, rfl⟩
 | swap x y r =>
  intro l e
  match l, e with
  | [], e => simp at e
  | [a], e => simp at e
  | a :: b :: l, e =>
   simp only [List.map_cons, List.cons.injEq] at e
   obtain ⟨rfl, rfl, rfl⟩ := e
   exact ⟨b :: a :: l, .swap a b l, rfl⟩
 | trans _ _ ih1 ih2 =>
  intro l e
  obtain ⟨l2, p2, rfl⟩ := ih2 e
  obtain ⟨l1, p1, rfl⟩ := ih1 rfl
  exact ⟨l1, p1.trans p2, rfl⟩
theorem enum_range : ∀ (k : Nat) (ts : List T), enumT k ts = (List.range ts.length).map fun i => W.t (.pr [.int ((k + i : Nat)), ts.getD i .non])
 | k, [] => rfl
 | k, t :: ts => by
  rw [enumT, enum_range (k + 1) ts, List.length_cons, List.range_succ_eq_map, List.map_cons, List.map_map]
  congr 1
  refine List.map_congr_left fun i _ => ?_
  simp [Function.comp_def, Nat.add_assoc, Nat.add_comm 1]
def lookL (ds : List Deed) : List Nat := (List.range ds.length).filter fun i => decide ((ds.getD i ("", "")).1 = "look")
theorem dget {ds : List Deed} {i : Nat} (h : i < ds.length) : (ds.map dTr).getD i .non = dTr (ds.getD i ("", "")) := by
 simp [List.getD, h]
theorem deq_fit {d : Deed} : fit (dTr d) 60 = true := by simp [dTr]
theorem dTr_inj {d e : Deed} : Mir.eqT (dTr d) (dTr e) = decide (d = e) := by
 obtain ⟨a, b⟩ := d
 obtain ⟨c, f⟩ := e
 simp only [dTr, eqT_tt, eqTL_cc, eqT_ss, eqTL_nn, Bool.and_true]
 by_cases h1 : a = c <;> by_cases h2 : b = f <;> simp [h1, h2]
theorem lookL_mem {ds : List Deed} {n : Nat} : n ∈ lookL ds ↔ n < ds.length ∧ (ds.getD n ("", "")).1 = "look" := by
 unfold lookL
 rw [List.mem_filter, List.mem_range, decide_eq_true_eq]
theorem lookL_nd {ds : List Deed} : (lookL ds).Nodup := List.nodup_range.sublist (List.filter_sublist)
def chkI : Chk → Nat | .same i _ => i | .even i => i
def chksW (cs : List Chk) : List W := (cs.map chkT).map W.t
theorem app_chk {k : Nat} {E : IS} {acc : List Chk} {c : Chk} {F : M W} {h : IH} (g : getL h k = some Ygr) (hl : acc.length ≤ 1000) (e3 : E[3]? = some (some (.r k))) (hF : F E h = .ok (.t (chkT c)) h) :
  (mDrop (mMeth isL zbl (mVar 3) (zab F mNil)) : M Fl) E h = .ok (.nx E) (h.set k (some (.lst (chksW (acc ++ [c]))))) :=
 dmeth_ok (o := .r k) (h1 := h) (h2 := h) (ws := [.t (chkT c)]) (varP e3) (by simp only [isL, zdj, g]; rfl) (zav hF rfl) (by
  simp only [zbl, g]
  rw [if_pos (by unfold chksW; rw [List.length_map, List.length_map]; omega)]
  simp only [chksW, List.map_append, List.map_cons, List.map_nil]
  rfl)
abbrev tE (i : Nat) (ds : List Deed) (ls : List Nat) (k : Nat) (v4 v5 v6 : Option W) : IS := [some (.r i), some Ybm, some (.t (.lst (ls.map fun n => T.int (n : Nat)))), some (.r k), v4, v5, v6]
/-- what has been gathered -/
structure Tst (ds : List Deed) (D : List Nat) (b : Nat) (acc : List Chk) : Prop where
 nd : acc.Nodup
 ok : ∀ c ∈ acc, chkOk ds c
 len : acc.length ≤ b
def inD (D : List Nat) (at_ : Nat) (done : List Nat) (c : Chk) : Prop := chkI c ∈ D ∨ c = .even at_ ∨ ∃ o ∈ done, c = .same at_ o
theorem inner05 {i j k : Nat} (hik : i ≠ k) (hjk : j ≠ k) {ds : List Deed} {ls : List Nat} (hls : ∀ o ∈ ls, o ∈ lookL ds) (nd : ls.Nodup) {at_ : Nat} (ha : at_ ∈ lookL ds) {D : List Nat} (hD : at_ ∉ D) {b : Nat} (hb : b + ls.length ≤ 900) {acc : List Chk} {h : IH} (d : Deal i j h) (g : getL h k = some Ygr) (t : Tst ds D b acc) (hi : ∀ c ∈ acc, inD D at_ [] c) {v5 v6 : Option W} :
  Wp ((mFor Ycc (gN 5) zcb : M Fl) (tE i ds ls k Ydg v5 v6) h) fun fl h' => ∃ (v5 : Option W) (acc' : List Chk), fl = .nx (tE i ds ls k Ydg v5 v6) ∧ Deal i j h' ∧ getL h' k = some (chksW acc') ∧ Tst ds D (b + ls.length) acc' ∧ ∀ c ∈ acc', inD D at_ ls c := by
 obtain ⟨la, lk⟩ := lookL_mem.mp ha
 refine vc_for (vc_sq (zb6 rfl (vc_sqL ?_)))
 refine vc_loop (G := gN 5) (S := zcb) (fun ws eta h => ∃ (done rest : List Nat) (acc : List Chk) (v5 : Option W), ws = (rest.map fun n => T.int (n : Nat)).map W.t ∧ done ++ rest = ls ∧ eta = tE i ds ls k Ydg v5 v6 ∧ Deal i j h ∧ getL h k = some Ygr ∧ Tst ds D (b + done.length) acc ∧ ∀ c ∈ acc, inD D at_ done c) ?_ _ _ _ ⟨[], ls, acc, v5, rfl, rfl, rfl, d, g, t, hi⟩ ?_
 ·rintro w ws eta h ⟨done, rest, acc, v5, ew, el, rfl, d, g, t, hi⟩
  cases rest with
  | nil => simp at ew
  | cons o rest =>
   simp only [List.map_cons, List.cons.injEq] at ew
   obtain ⟨rfl, rfl⟩ := ew
   let E : IS := tE i ds ls k Ydg (some (.t (.int (o : Nat)))) v6
   refine ⟨E, rfl, ?_⟩
   have ho : o ∈ ls := by rw [← el]; simp
   have hod : o ∉ done := by
    rw [← el] at nd
    exact fun m => (List.nodup_append.mp nd).2.2 _ m _ Y2 rfl
   obtain ⟨lo, lko⟩ := lookL_mem.mp (hls o ho)
   have el2 : (done ++ [o]) ++ rest = ls := by rw [List.append_assoc]; exact el
   have dl : (done ++ [o]).length = done.length + 1 := by simp
   have dle : done.length + 1 ≤ ls.length := by rw [← el2]; simp
   have keep : ∀ c, inD D at_ done c → inD D at_ (done ++ [o]) c := fun c hc => by
    rcases hc with hc | hc | ⟨x, hx, e⟩
    ·exact .inl hc
    ·exact .inr (.inl hc)
    ·exact .inr (.inr ⟨x, List.mem_append_left _ hx, e⟩)
   have stay : ∀ h', Deal i j h' → getL h' k = some Ygr → Wp ((zbm : M Fl) E h') fun fl h => ∃ e, fl = .nx e ∧ ∃ (done rest' : List Nat) (acc : List Chk) (v5 : Option W), (rest.map fun n => T.int (n : Nat)).map W.t = (rest'.map fun n => T.int (n : Nat)).map W.t ∧ done ++ rest' = ls ∧ e = tE i ds ls k Ydg v5 v6 ∧ Deal i j h ∧ getL h k = some Ygr ∧ Tst ds D (b + done.length) acc ∧ ∀ c ∈ acc, inD D at_ done c := fun h' d' g' =>
    zc2 ⟨_, rfl, done ++ [o], rest, acc, _, rfl, el2, rfl, d', g', ⟨t.nd, t.ok, by rw [dl]; have := t.len; omega⟩, fun c hc => keep c (hi c hc)⟩
   unfold zcb
   have t1 : (zai asB (mBin iGt (mVar 5) (mVar 4)) : M Bool) E h = .ok (decide (at_ < o)) h := zc4 (binP (a := .t (.int (o : Nat))) (b := .t (.int (at_ : Nat))) rfl rfl (by rw [iGt_ii]; congr 3; simp only [decide_eq_decide]; omega))
   have g1 : (mBin ixW (mVar 1) (mVar 5) : M W) E h = .ok (.t (dTr (ds.getD o ("", "")))) h := by
    rw [lst_at (ts := ds.map dTr) (n := o) (by simpa using lo) rfl rfl, dget lo]
   have g2 : (mBin ixW (mVar 1) (mVar 4) : M W) E h = .ok (.t (dTr (ds.getD at_ ("", "")))) h := by
    rw [lst_at (ts := ds.map dTr) (n := at_) (by simpa using la) rfl rfl, dget la]
   have t2 : (zai asB Ygp : M Bool) E h = .ok (decide (ds.getD o ("", "") = ds.getD at_ ("", ""))) h := zc4 (binP g1 g2 (by rw [eqW_tt, if_pos ⟨deq_fit, deq_fit⟩, dTr_inj]; rfl))
   obtain ⟨q, h1, eq, q0, q1, d1, hl1, k1⟩ := draw_is (wide := 3) d Yc Yc
   have gk : getL h1 k = some Ygr := by
    unfold getL
    rw [k1 k (Ne.symm hik) (Ne.symm hjk)]
    exact g
   have t3 : (zai asB (mBin iGt Ybt Yk) : M Bool) E h = .ok (decide (0 < q)) h1 := by
    show ((mBin _ _ _ : M W) E h).bind _ = _
    rw [bin_ok (h1 := h1) (h2 := h1) (za3 (ws := [.r i, .t (.int 3)]) rfl eq) rfl ev_gt]
    rfl
   refine vc_if (vc_and (Wp.of t1 (Wp.ite (fun c1 => vc_and (Wp.of t2 (Wp.ite (fun c2 => Wp.of t3 (Wp.ite (fun c3 => ?_) (fun _ => stay h1 d1 gk))) (fun _ => Wp.ok (stay h d g))))) (fun _ => Wp.ok (stay h d g)))))
   have c1 : at_ < o := of_decide_eq_true c1
   have c2 := of_decide_eq_true c2
   have al := t.len
   have ap := app_chk (E := E) (F := mApp zbj (zab Yfo (zab (mVar 4) Yak))) (c := .same at_ o) gk Yc rfl rfl
   refine Wp.of ap ⟨_, rfl, done ++ [o], rest, acc ++ [.same at_ o], _, rfl, el2, rfl, d1.keep (List.getElem?_set_ne (Ne.symm hik)) (List.getElem?_set_ne (Ne.symm hjk)), ?_, ⟨?_, ?_, ?_⟩, ?_⟩
   ·have lk := zd6 gk
    unfold getL
    rw [List.getElem?_set_self lk]
   ·refine List.nodup_append.mpr ⟨t.nd, by simp, fun x hx y hy e => ?_⟩
    have hy := List.mem_singleton.mp hy
    subst hy
    subst e
    rcases hi _ hx with m | m | ⟨p, hp, m⟩
    ·exact hD m
    ·cases m
    ·simp only [Chk.same.injEq, true_and] at m
     exact hod (m ▸ hp)
   ·intro c hc
    rcases List.mem_append.mp hc with hc | hc
    ·exact t.ok c hc
    ·rw [List.mem_singleton.mp hc]
     exact ⟨c1, lo, lk, c2.symm⟩
   ·simp only [List.length_append, List.length_cons, List.length_nil]
    omega
   ·intro c hc
    rcases List.mem_append.mp hc with hc | hc
    ·exact keep c (hi c hc)
    ·rw [List.mem_singleton.mp hc]
     exact .inr (.inr ⟨o, by simp, rfl⟩)
 ·rintro e h ⟨done, rest, acc, v5, ew, el, rfl, d, g, t, hi⟩
  cases rest with
  | cons o rest => simp at ew
  | nil =>
   rw [List.append_nil] at el
   subst el
   exact ⟨v5, acc, rfl, d, g, t, hi⟩
theorem tests_drawn {i j : Nat} {ds : List Deed} (d : Deal i j hp) (hl : ds.length ≤ 8) : ∃ (cs : List Chk) (hp' : IH), zd0 [.r i, .t (.lst Yf)] hp = .ok (.t Yad) hp' ∧ Deal i j hp' ∧ cs.Nodup ∧ (∀ c ∈ cs, chkOk ds c) ∧ cs.length ≤ 4 := by
 suffices h : Wp (zd0 [.r i, .t (.lst Yf)] hp) fun w h => ∃ cs : List Chk, w = .t Yad ∧ Deal i j h ∧ cs.Nodup ∧ (∀ c ∈ cs, chkOk ds c) ∧ cs.length ≤ 4 by
  obtain ⟨w, h1, e, cs, rfl, r⟩ := h.ex
  exact ⟨cs, h1, e, r⟩
 refine vc_fnM (eta := [some (.r i), some Ybm, none, none, none, none, none]) rfl rfl ?_
 unfold B_w_tests
 let ls := lookL ds
 have ll : ls.length ≤ 8 := by
  have := List.length_filter_le (fun i => decide ((ds.getD i ("", "")).1 = ("look" : Str))) (List.range ds.length)
  rw [List.length_range] at this
  exact Nat.le_trans this hl
 obtain ⟨li, lj⟩ := d.lt
 let k : Nat := hp.length
 let h1 : IH := hp ++ [some (.lst [])]
 let E0 : IS := [some (.r i), some Ybm, none, none, none, none, none]
 have cp : (zba zaq (mSrc enum1 Yq) (gT 2 (gsC (gN 4) (gsC (gN 6) gsN))) zct zcw [4, 6] : M W) E0 hp = .ok (.t (.lst (ls.map fun n => T.int (n : Nat)))) hp := by
  have q := comp_g (G := gT 2 (gsC (gN 4) (gsC (gN 6) gsN))) (U := zct) (E := zcw) (eta := E0) (hp := hp) (src := fun n : Nat => W.t Ydy)
   (loc := fun n => [some (.r i), some Ybm, none, none, some (.t (.int ((0 + n : Nat)))), none, some (.t ((ds.map dTr).getD n .non))]) (p := fun n => decide ((ds.getD n ("", "")).1 = "look")) (g := fun n => .int (n : Nat)) (List.range ds.length) Yai
   (fun n hn => by
    have hn := List.mem_range.mp hn
    unfold zct
    refine zc4 (binP (a := .t (.str (ds.getD n ("", "")).1)) (binP (a := .t (dTr (ds.getD n ("", "")))) ?_ rfl ?_) rfl Yfp)
    ·rw [← dget hn]
     rfl
    ·exact ev_ixt0)
   (fun n _ _ => by
    unfold zcw
    rw [Nat.zero_add]
    rfl)
  have en : enum1 [.t (.lst Yf)] hp = .ok ((List.range ds.length).map fun n => W.t Ydy) hp := by
   have := enum_range 0 Yf
   rw [List.length_map] at this
   rw [← this]
   rfl
  refine zca (ws := (List.range ds.length).map fun n => W.t Ydy) (ys := (ls.map fun n => T.int (n : Nat)).map W.t) (h1 := hp) (h2 := hp) en (by rw [List.length_map, List.length_range]; omega) q (lst_ok Ycw)
 refine za2 (vc_par2 (zan (Wp.of cp (zan (vc_app (zbh (vc_newL Yae (zbh ⟨_, _, rfl, zbp ?_⟩))))))))
 have d1 : Deal i j h1 := d.keep (List.getElem?_append_left li) (List.getElem?_append_left lj)
 have hik : i ≠ k := by simp only [k]; omega
 have hjk : j ≠ k := by simp only [k]; omega
 have g1 : getL h1 k = some (chksW []) := by
  unfold getL
  simp only [h1, k]
  rw [List.getElem?_append_right Ye2, Nat.sub_self]
  rfl
 show Wp ((mSeq _ _ : M Fl) (tE i ds ls k none none none) h1) _
 refine za2 (vc_for (vc_sq (zb6 rfl (vc_sqL ?_))))
 refine vc_loop (G := gN 4) (S := zdq) (fun ws eta h => ∃ (done rest : List Nat) (acc : List Chk) (v4 v5 : Option W), ws = (rest.map fun n => T.int (n : Nat)).map W.t ∧ done ++ rest = ls ∧ eta = tE i ds ls k v4 v5 none ∧ Deal i j h ∧ getL h k = some Ygr ∧ Tst ds done (10 * done.length) acc ∧ ∀ c ∈ acc, chkI c ∈ done) ?_ _ _ _ ⟨[], ls, [], none, none, rfl, rfl, rfl, d1, g1, ⟨by simp, by simp, by simp⟩, by simp⟩ ?_
 ·rintro w ws eta h ⟨done, rest, acc, v4, v5, ew, el, rfl, d, g, t, hi⟩
  cases rest with
  | nil => simp at ew
  | cons a rest =>
   simp only [List.map_cons, List.cons.injEq] at ew
   obtain ⟨rfl, rfl⟩ := ew
   let E : IS := tE i ds ls k (some (.t (.int (a : Nat)))) v5 none
   refine ⟨E, rfl, ?_⟩
   have ha : a ∈ ls := by rw [← el]; simp
   have nd : ls.Nodup := lookL_nd
   have had : a ∉ done := by
    rw [← el] at nd
    exact fun m => (List.nodup_append.mp nd).2.2 _ m _ Y2 rfl
   obtain ⟨la, lk⟩ := lookL_mem.mp ha
   have el2 : (done ++ [a]) ++ rest = ls := by rw [List.append_assoc]; exact el
   have dl : (done ++ [a]).length = done.length + 1 := by simp
   have dle : done.length + 1 ≤ ls.length := by rw [← el2]; simp
   have al := t.len
   unfold zdq
   obtain ⟨q, h2, eq, q0, q1, d2, hl2, k2⟩ := draw_is (wide := 3) d Yc Yc
   have gk : getL h2 k = some Ygr := by
    unfold getL
    rw [k2 k (Ne.symm hik) (Ne.symm hjk)]
    exact g
   have t3 : (zai asB (mBin Y0 Ybt Yk) : M Bool) E h = .ok (decide (q = 0)) h2 := by
    show ((mBin _ _ _ : M W) E h).bind _ = _
    rw [bin_ok (h1 := h2) (h2 := h2) (za3 (ws := [.r i, .t (.int 3)]) rfl eq) rfl (ev_eqi.trans rfl)]
    rfl
   have go : ∀ (acc' : List Chk) (h' : IH), Deal i j h' → getL h' k = some (chksW acc') → Tst ds done (10 * done.length + 1) acc' → (∀ c ∈ acc', inD done a [] c) →
     Wp ((mFor Ycc (gN 5) zcb : M Fl) E h') fun fl h => ∃ e, fl = .nx e ∧ ∃ (done rest' : List Nat) (acc : List Chk) (v4 v5 : Option W), (rest.map fun n => T.int (n : Nat)).map W.t = (rest'.map fun n => T.int (n : Nat)).map W.t ∧ done ++ rest' = ls ∧ e = tE i ds ls k v4 v5 none ∧ Deal i j h ∧ getL h k = some Ygr ∧ Tst ds done (10 * done.length) acc ∧ ∀ c ∈ acc, chkI c ∈ done := fun acc' h' d' g' t' hi' =>
    (inner05 (ls := ls) hik hjk (fun o ho => ho) nd ha had (b := 10 * done.length + 1) Yc d' g' t' hi').mono fun fl h4 ⟨v5', acc4, ef, d4, g4, t4, hi4⟩ => by
     have ll : ls.length ≤ 8 := ll
     refine ⟨_, ef, done ++ [a], rest, acc4, _, v5', rfl, el2, rfl, d4, g4, ⟨t4.nd, t4.ok, by rw [dl]; have := t4.len; omega⟩, fun c hc => ?_⟩
     rcases hi4 c hc with m | m | ⟨o, ho, m⟩
     ·exact List.mem_append_left _ m
     ·rw [m]
      exact List.mem_append_right _ (List.mem_singleton.mpr rfl)
     ·rw [m]
      exact List.mem_append_right _ (List.mem_singleton.mpr rfl)
   refine za2 (vc_if (Wp.of t3 (Wp.ite (fun c => ?_) (fun _ => zc2 (zbp (go acc h2 d2 gk ⟨t.nd, t.ok, by omega⟩ fun c hc => .inl (hi c hc)))))))
   have ap := app_chk (E := E) (F := mApp zbj (zab Yeo Yck)) (c := .even a) gk Yc rfl rfl
   refine Wp.of ap (zbp (go (acc ++ [.even a]) _ (d2.keep (List.getElem?_set_ne (Ne.symm hik)) (List.getElem?_set_ne (Ne.symm hjk))) ?_ ⟨?_, ?_, ?_⟩ ?_))
   ·have lk := zd6 gk
    unfold getL
    rw [List.getElem?_set_self lk]
   ·refine List.nodup_append.mpr ⟨t.nd, by simp, fun x hx y hy e => ?_⟩
    have hy := List.mem_singleton.mp hy
    subst hy
    subst e
    exact had (hi _ hx)
   ·intro c hc
    rcases List.mem_append.mp hc with hc | hc
    ·exact t.ok c hc
    ·rw [List.mem_singleton.mp hc]
     exact ⟨la, lk⟩
   ·simp only [List.length_append, List.length_cons, List.length_nil]
    omega
   ·intro c hc
    rcases List.mem_append.mp hc with hc | hc
    ·exact .inl (hi c hc)
    ·rw [List.mem_singleton.mp hc]
     exact .inr (.inl rfl)
 ·rintro e h ⟨done, rest, acc, v4, v5, ew, el, rfl, d, g, t, hi⟩
  cases rest with
  | cons o rest => simp at ew
  | nil =>
   rw [List.append_nil] at el
   have al := t.len
   have al2 : acc.length ≤ 80 := by rw [el] at al; omega
   refine zbp (vc_fz rfl (Wp.of (frz_ok g) ?_))
   have d2 : Deal i j (h.set k none) := d.keep (List.getElem?_set_ne (Ne.symm hik)) (List.getElem?_set_ne (Ne.symm hjk))
   have fl59 : fitL (acc.map chkT) 59 = true := fitL_all fun t ht => by
    obtain ⟨c, _, rfl⟩ := List.mem_map.mp ht
    cases c <;> simp [chkT]
   obtain ⟨zs, h2, p, e2, d3, _⟩ := mixed_is (ts := acc.map chkT) d2 Ycw fl59
   obtain ⟨cs, pc, rfl⟩ := perm_of_map chkT p rfl
   refine vc_ret (vc_sl (zd3 (zan (zb6 rfl (zan (zb6 rfl (zbh (Wp.of e2 (vc_noPart (vc_part (vc_c ⟨4, rfl, vc_slWl ⟨_, rfl, cs.take 4, ?_, d3, ?_, ?_, ?_⟩⟩)))))))))))
   ·rw [show (4 : Int) = ((4 : Nat) : Int) from rfl, cutL_to, List.map_take]
   ·exact (pc.nodup_iff.mpr t.nd).sublist (List.take_sublist _ _)
   ·exact fun c hc => t.ok c (pc.mem_iff.mp (List.mem_of_mem_take hc))
   ·exact List.length_take_le ..
end
section
open TL
variable {hp : IH} {r s : RP}
abbrev C2 : List Str := ["c", "e"]
theorem scrp_more {w u : Str} {cs ctr : List Str} {m k : Nat} {ds xs : List Deed} {x : Str} (S : ScrP w u cs ctr m ds) (hk : ds.length + k ≤ m) (hx : x ∈ ctr) (hu : u ≠ w) (p : xs.Perm (ds ++ List.replicate k (u, x))) : ScrP w u cs ctr m xs := by
 refine ⟨fun d hd => ?_, ?_, ?_, ?_⟩
 ·rcases List.mem_append.mp (p.mem_iff.mp hd) with h | h
  ·exact S.ok d h
  ·rw [List.eq_of_mem_replicate h]
   exact .inr ⟨rfl, hx⟩
 ·refine (((p.filter fun d => decide (d.1 = w)).map (·.2)).nodup_iff).mpr ?_
  have f1 : (List.replicate k ((u, x) : Deed)).filter (fun d => decide (d.1 = w)) = [] := List.filter_eq_nil_iff.mpr fun d hd => by
   rw [List.eq_of_mem_replicate hd]
   simpa using hu
  rw [List.filter_append, f1, List.append_nil]
  exact S.nd
 ·have := p.length_eq
  rw [List.length_append, List.length_replicate] at this
  omega
 ·obtain ⟨d, hd, e⟩ := S.one
  exact ⟨d, p.mem_iff.mpr (List.mem_append_left _ hd), e⟩
theorem rep_look {k : Nat} (hk : k ≤ 8) : wMul (.t (.lst [.tup [.str "look", .str "c"]])) Yde hp = .ok (.t (.lst ((List.replicate k (("look", "c") : Deed)).map dTr))) hp := by
 have : k = 0 ∨ k = 1 ∨ k = 2 ∨ k = 3 ∨ k = 4 ∨ k = 5 ∨ k = 6 ∨ k = 7 ∨ k = 8 := by omega
 rcases this with rfl | rfl | rfl | rfl | rfl | rfl | rfl | rfl | rfl <;> rfl
def chkA : Chk → List T
 | .same i j => [.str "same", .int (i : Nat), .int (j : Nat)]
 | .even i => [.str "even", .int (i : Nat)]
def strP : T → T
 | .int i => .str (toString i)
 | t => t
theorem chkA_t {c : Chk} : chkT c = .tup (chkA c) := by cases c <;> rfl
theorem chkA_p {c : Chk} : (chkA c).map strP = (chkP c).map T.str := by cases c <;> rfl
theorem log_small : ∀ i, i < 10 → ((i : Nat) : Int).natAbs.log2 < 1920 := by decide +kernel
theorem chkA_ok {ds : List Deed} {c : Chk} (h : chkOk ds c) (h9 : ds.length ≤ 10) : ∀ t ∈ chkA c, ∀ hp, oStr [.t t] hp = .ok (.t (strP t)) hp := by
 intro t ht hp
 cases c with
 | same i j =>
  obtain ⟨a, b, _⟩ := h
  simp only [chkA, List.mem_cons, List.not_mem_nil, or_false] at ht
  rcases ht with rfl | rfl | rfl
  ·rfl
  ·simp only [oStr, strP, log_small i Yc, if_true]
  ·simp only [oStr, strP, log_small j Yc, if_true]
 | even i =>
  obtain ⟨a, _⟩ := h
  simp only [chkA, List.mem_cons, List.not_mem_nil, or_false] at ht
  rcases ht with rfl | rfl
  ·rfl
  ·simp only [oStr, strP, log_small i Yc, if_true]
theorem chkP_len {ds : List Deed} {c : Chk} (h : chkOk ds c) (h9 : ds.length ≤ 10) : (∀ y ∈ chkP c, y.length ≤ 4) ∧ (chkP c).length ≤ 3 := by
 cases c with
 | same i j =>
  obtain ⟨a, b, _⟩ := h
  refine ⟨fun y hy => ?_, by simp [chkP]⟩
  simp only [chkP, List.mem_cons, List.not_mem_nil, or_false] at hy
  rcases hy with rfl | rfl | rfl
  ·decide
  ·rw [num_len Yc]; omega
  ·rw [num_len Yc]; omega
 | even i =>
  obtain ⟨a, _⟩ := h
  refine ⟨fun y hy => ?_, by simp [chkP]⟩
  simp only [chkP, List.mem_cons, List.not_mem_nil, or_false] at hy
  rcases hy with rfl | rfl
  ·decide
  ·rw [num_len Yc]; omega
theorem test_texts_is {ds : List Deed} {cs : List Chk} (h : ∀ c ∈ cs, chkOk ds c) (h9 : ds.length ≤ 10) (hl : cs.length ≤ 4) : zaw [.t Yad] hp = .ok (.t (.lst (cs.map fun c => .str (zay c)))) hp := by
 let v0 : Option W := some (.t Yad)
 refine zdz (ts := [.lst (cs.map chkT)]) (eta := [v0, none, none]) rfl rfl (h1 := []) ?_
 unfold B_w_test_texts
 have q := comp_g (G := gN 2) (U := mYes) (E := zb1) (eta := [v0, none, none]) (hp := []) (src := fun c : Chk => W.t (chkT c))
  (loc := fun c => [v0, none, some (.t (chkT c))]) (p := fun _ => true) (g := fun c => .str (zay c)) cs Yai Yai (fun c hc _ => by
   unfold zb1
   have ck := h c hc
   obtain ⟨y4, y3⟩ := chkP_len ck h9
   have q2 := comp_g (G := gN 1) (U := mYes) (E := zbw) (eta := [v0, none, some (.t (chkT c))]) (hp := []) (src := fun t : T => W.t t)
    (loc := fun t => [v0, some (.t t), some (.t (chkT c))]) (p := fun _ => true) (g := strP) (chkA c) Yai Yai (fun t ht _ => zbk (a := .t t) rfl (chkA_ok ck h9 t ht _))
   rw [zda, chkA_p] at q2
   have la : (chkA c).length ≤ 3 := by cases c <;> simp [chkA]
   have c2 : (zba zaq Ycc (gN 1) mYes zbw [1] : M W) [v0, none, some (.t (chkT c))] [] = .ok (.t (.lst ((chkP c).map T.str))) [] :=
    zca (ws := (chkA c).map W.t) (ys := ((chkP c).map T.str).map W.t) (h1 := []) (h2 := []) (by rw [p_sq, varP (w := .t (.tup (chkA c))) (by rw [← chkA_t]; rfl), zae]; rfl) Ycw q2 (lst_ok Ycw)
   exact sm_ok (a := " ") rfl c2 (joinS (a := " ") (ys := chkP c) (k := 4) false y4 (by rw [sp_len]; omega)))
 rw [zda] at q
 rw [p_ret, zca (ws := (cs.map chkT).map W.t) (ys := (cs.map fun c => T.str (zay c)).map W.t) (h1 := []) (h2 := []) rfl Y6 Ye4 (lst_ok Y6)]
 rfl
theorem ne_nil05 {cs : List Chk} : eqW true (.t Yad) (.t (.lst [])) hp = .ok (.t (.bl (!cs.isEmpty))) hp := by
 have f : fitL (cs.map chkT) 59 = true := fitL_all fun t ht => by
  obtain ⟨c, _, rfl⟩ := List.mem_map.mp ht
  cases c <;> simp [chkT]
 rw [eqW_tt, if_pos ⟨by simp only [fit_l, f], by simp⟩]
 cases cs <;> simp
theorem reader_text_is (R : RK2 r) : za1 [.t (.tup [.str r.1, .lst Ycs, .lst Ycg])] hp = .ok (.t Ydb) hp := by
 have sl := steps_len R.k.ok
 have hl := R.l
 have nl := R.k.n.ln
 have cn := R.n
 have il : (" if " : Str).length = 4 := by decide +kernel
 have dl : ∀ d ∈ r.2.1, (dTx d).length ≤ 15 := fun d hd => dTx_len (R.k.ok d hd).w (R.k.ok d hd).n
 have j := joinS (a := ", ") (ys := r.2.1.map dTx) (k := 15) (hp := []) false (fun y hy => by
  obtain ⟨d, hd, rfl⟩ := List.mem_map.mp hy
  exact dl d hd) Yc9
 rw [List.map_map] at j
 have ck : ∀ y ∈ r.2.2.map zay, y.length ≤ 10 := fun y hy => by
  obtain ⟨c, hc, rfl⟩ := List.mem_map.mp hy
  exact chkTx_len (R.c c hc) R.l
 have j2 := joinS (a := ", ") (ys := r.2.2.map zay) (k := 10) (hp := []) false ck Yc9
 have jl := join_len (s := ", ") ck
 rw [List.length_map, cm_len] at jl
 rw [List.map_map] at j2
 let P : T := .tup [.str r.1, .lst Ycs, .lst Ycg]
 suffices h : Wp (za1 [.t P] hp) fun w h => w = .t Ydb ∧ h = hp by
  obtain ⟨w, h1, e, rfl, rfl⟩ := h.ex
  exact e
 refine vc_fnP (ts := [P]) (eta := [some (.t P), none]) rfl rfl ?_
 unfold B_w_reader_text
 have i0 : ∀ {v : Option W}, (mBin ixW (mVar 0) Yk : M W) [some (.t P), v] [] = .ok Ydf [] := binP rfl rfl ev_ixt0
 have i1 : ∀ {v : Option W}, (mBin ixW (mVar 0) Yn : M W) [some (.t P), v] [] = .ok Yhc [] := binP rfl rfl ev_ixt1
 have i2 : ∀ {v : Option W}, (mBin ixW (mVar 0) (mC (.int 2)) : M W) [some (.t P), v] [] = .ok Yhd [] := binP rfl rfl ev_ixt2
 have tc : (zai asB Yb9 : M Bool) [some (.t P), none] [] = .ok (!r.2.2.isEmpty) [] := zc4 (binP i2 rfl ne_nil05)
 have s0 : ("reader " ++ r.1 : Str).length ≤ 20 := by rw [zap, rd_len]; omega
 have s1 : ("reader " ++ r.1 ++ ": " : Str).length ≤ 22 := by rw [zap, cs_len]; omega
 have s2 : ("reader " ++ r.1 ++ ": " ++ zdc r.2.1 : Str).length ≤ 200 := by rw [zap]; omega
 have jn : ∀ {v : Option W}, (mSM oJoin Ydq (zaz za0 [] (zab (mBin ixW (mVar 0) Yn) (mNil))) : M W) [some (.t P), v] [] = .ok Yhb [] := fun {v} =>
  sm_ok (a := ", ") rfl (za3 (ws := [.t (.lst Ycs)]) (zav i1 rfl) (deed_texts_is Yc dl)) j
 have fin : ∀ {z : Str}, z.length ≤ 100 → (mBin wAdd Ydw (mVar 1) : M W) [some (.t P), some (.t (.str z))] [] = .ok (.t (.str ("reader " ++ r.1 ++ ": " ++ zdc r.2.1 ++ z))) [] := fun {z} hz =>
  binP (f := wAdd) (binP (f := wAdd) (binP (f := wAdd) (binP (f := wAdd) (a := .t (.str "reader ")) rfl i0 (wAdd_st (by rw [rd_len]; omega))) (b := .t (.str ": ")) rfl (wAdd_st (by rw [cs_len]; omega))) jn (wAdd_st Yc)) (b := .t (.str z)) rfl (wAdd_st Yc)
 by_cases c : r.2.2 = []
 ·have sv : (mIf (zai asB Yb9) Yal (mC (.str "")) : M W) [some (.t P), none] [] = .ok (.t (.str "")) [] := by
   rw [if_no (h1 := []) (by rw [tc, c]; rfl)]
   rfl
  refine za2 (zcu (Wp.of sv (zbp (vc_ret (Wp.of (fin (z := "") Ybr) ⟨_, rfl, ?_, rfl⟩)))))
  congr 2
  unfold lnR rdrTx
  rw [if_pos c]
  refine str_eq ?_
  rw [tl_append]
  have : tl ("" : Str) = [] := by decide +kernel
  rw [this, List.append_nil]
 ·have tt : (mSM oJoin Ydq (zaz zaw [] (zab (mBin ixW (mVar 0) (mC (.int 2))) (mNil))) : M W) [some (.t P), none] [] = .ok Ycr [] :=
   sm_ok (a := ", ") rfl (za3 (ws := [.t (.lst Ycg)]) (zav i2 rfl) (test_texts_is R.c hl cn)) j2
  have sv : (mIf (zai asB Yb9) Yal (mC (.str "")) : M W) [some (.t P), none] [] = .ok (.t (.str (" if " ++ Txt.join ", " (r.2.2.map zay)))) [] := by
   rw [if_yes (h1 := []) (by rw [tc]; cases h : r.2.2 with | nil => exact absurd h c | cons => rfl)]
   exact binP (f := wAdd) (a := .t (.str " if ")) rfl tt (wAdd_st (by rw [il]; omega))
  refine za2 (zcu (Wp.of sv (zbp (vc_ret (Wp.of (fin (z := " if " ++ Txt.join ", " (r.2.2.map zay)) (by rw [zap, il]; omega)) ⟨_, rfl, ?_, rfl⟩)))))
  congr 2
  unfold lnR rdrTxC
  rw [if_neg c]
  refine str_eq ?_
  simp only [tl_append, List.append_assoc]
theorem rlen2 (R : RK2 r) : zbu [.t (rdT r)] hp = .ok Yew hp := by
 refine zdz (ts := [rdT r]) (eta := [some Yap]) rfl rfl (h1 := []) ?_
 unfold B_Reader_len
 rw [p_ret, zbk (a := .t (.tup Ycs)) rfl (r := .ok Yew []) (by rw [oLen_t, List.length_map])]
 rfl
def wrs (w : Str) (ds : List Deed) : List Str := (ds.filter fun d => decide (d.1 = w)).map (·.2)
theorem reads2 (R : RK2 r) : za4 [.t (rdT r)] hp = .ok (.t (.tup Ye8)) hp := by
 have hl := R.l
 refine zdz (ts := [rdT r]) (eta := [some Yap, none, none]) rfl rfl (h1 := []) ?_
 unfold B_Reader_reads
 have q := comp_g (G := gT 2 Ydp) (U := zbc) (E := zb0) (eta := [some Yap, none, none]) (hp := []) (src := fun d : Deed => W.t (dTr d))
  (loc := fun d => [some Yap, some (.t (.str d.1)), some (.t (.str d.2))]) (p := fun d => decide (d.1 = ("read" : Str))) (g := fun d => .str d.2) r.2.1 Yai (fun d _ => by
   unfold zbc
   exact zc4 (binP (a := .t (.str d.1)) rfl rfl Yfp)) (fun d hd _ => rfl)
 have le := List.length_filter_le (fun d : Deed => decide (d.1 = ("read" : Str))) r.2.1
 have c : (zba zaq (mSq Yfh) (gT 2 Ydp) zbc zb0 [1, 2] : M W) [some Yap, none, none] [] = .ok (.t (.lst Ye8)) [] := by
  refine zca (ws := (r.2.1.map dTr).map W.t) (ys := ((r.2.1.filter fun d => decide (d.1 = ("read" : Str))).map fun d => T.str d.2).map W.t) (h1 := []) (h2 := []) rfl Y6 Ye4 ?_
  rw [lst_ok Y6]
  unfold wrs
  rw [List.map_map]
  rfl
 rw [p_ret, zbk c oTup_l]
 rfl
theorem rstrO (R : RK2 r) : zcg [Yt] [.t (rdT r)] hp = .ok (.t Ydb) hp := by
 obtain ⟨fs, i⟩ : ∃ fs, insOf hp (.t (rdT r)) = some (("Reader" : Str), fs) := ⟨_, rfl⟩
 have f : ([(("Reader" : Str), zaf)] : List Ya0).find? (fun p => decide (p.1 = ("Reader" : Str))) = some (("Reader" : Str), zaf) := by simp
 have k : zaf [.t (rdT r)] hp = .ok (.t Ydb) hp := rstr_is R
 simp only [zcg, i, f, k, zb8, zae]
theorem req_is (R : RK2 r) (S : RK2 s) : zaj [.t (rdT r), .t (rdT s)] hp = .ok (.t (.bl (decide (lnR r = lnR s)))) hp := by
 suffices h : Wp (zaj [.t (rdT r), .t (rdT s)] hp) fun w h => w = .t (.bl (decide (lnR r = lnR s))) ∧ h = hp by
  obtain ⟨w, h1, e, rfl, rfl⟩ := h.ex
  exact e
 let E : IS := [some Yap, some (.t (rdT s))]
 refine vc_fnP (ts := [rdT r, rdT s]) (eta := E) rfl rfl ?_
 unfold B_Reader_eq
 have a1 : (mApp (oIsi zd1) Yep : M W) E [] = .ok (.t Yb5) [] := rfl
 have s0 : (mApp (zcg [Yt]) Yb2 : M W) E [] = .ok (.t Ydb) [] := zbk (a := .t (rdT r)) rfl (rstrO R)
 have s1 : (mApp (zcg [Yt]) Yq : M W) E [] = .ok (.t (.str (lnR s))) [] := zbk (a := .t (rdT s)) rfl (rstrO S)
 exact vc_ret (vc_andV (Wp.of a1 ⟨true, rfl, Wp.of (binP s0 s1 (ev_eqs.trans rfl)) ⟨_, rfl, rfl, rfl⟩⟩))
theorem reqO {neg : Bool} (R : RK2 r) (S : RK2 s) : oEqO neg [Yce] Yap (.t (rdT s)) hp = .ok (.t (.bl (if neg then !decide (lnR r = lnR s) else decide (lnR r = lnR s)))) hp := by
 show (noEr (zaj [.t (rdT r), .t (rdT s)] hp)).bind _ = _
 rw [req_is R S]
 rfl
theorem req_no {x : T} (h : oIsi zd1 [.t x, .t (.cls "Reader")] [] = .ok (.t Yx) []) : zaj [.t (rdT r), .t x] hp = .ok (.t Yx) hp := by
 suffices h : Wp (zaj [.t (rdT r), .t x] hp) fun w h => w = .t Yx ∧ h = hp by
  obtain ⟨w, h1, e, rfl, rfl⟩ := h.ex
  exact e
 let E : IS := [some Yap, some (.t x)]
 refine vc_fnP (ts := [rdT r, x]) (eta := E) rfl rfl ?_
 unfold B_Reader_eq
 have a1 : (mApp (oIsi zd1) Yep : M W) E [] = .ok (.t Yx) [] := h
 exact vc_ret (vc_andV (Wp.of a1 ⟨false, rfl, ⟨_, rfl, rfl, rfl⟩⟩))
theorem noLst_strs : ∀ l : List Str, zc5 Yf1 = true
 | [] => rfl
 | x :: l => by
  have := noLst_strs l
  simp only [List.map_cons, zc5, noLst, Bool.true_and]
  exact this
theorem noLst_dTr : ∀ l : List Deed, zc5 (l.map dTr) = true
 | [] => rfl
 | x :: l => by
  have := noLst_dTr l
  simp only [List.map_cons, dTr, zc5, noLst, Bool.true_and] at this ⊢
  exact this
theorem noLst_chk : ∀ l : List Chk, zc5 (l.map chkT) = true
 | [] => rfl
 | x :: l => by
  have := noLst_chk l
  cases x <;> simp only [List.map_cons, chkT, zc5, noLst, Bool.true_and] at this ⊢ <;> exact this
theorem noLst_rdr : noLst (rdT r) = true := by
 have h1 : zc5 (r.2.1.map fun d => T.str (dTx d)) = true := by
  have := noLst_strs (r.2.1.map dTx)
  rw [List.map_map] at this
  exact this
 have h2 := noLst_dTr r.2.1
 have h3 := noLst_strs (r.2.2.map zay)
 have h4 := noLst_chk r.2.2
 simp only [rdT, rdrG, noLst, zc5, h1, h2, h3, h4, Bool.and_self]
theorem rdrM {b bc : Bool} {Fs : M (List W)} {eta : IS} {h1 : IH} (R : RK2 r) (h : Fs eta hp = .ok [.t (.str r.1), .t (sqT b Ya5), .t (sqT bc Ya6)] h1) :
  zcc (za7 "Reader" zah [] Fs) eta hp = .ok Yap Ygk := by
 refine rdr_made (b := b) (bc := bc) R.k ?_ fun hp => tests_is R.c R.nd R.n R.l
 rw [List.map_map]
 exact h
theorem rdr_lent {b bc : Bool} {Fs : M (List W)} {eta : IS} (R : RK2 r) (h : Fs (eta.map (lendO hp)) (hp.map fun _ => none) = .ok [.t (.str r.1), .t (sqT b Ya5), .t (sqT bc Ya6)] (hp.map fun _ => none)) :
  mLendE (zcc (za7 "Reader" zah [] Fs)) eta hp = .ok Yap hp := by
 unfold mLendE
 rw [rdrM R h]
 simp only [noLst_rdr, if_true]
end
section
open TL
variable {i j : Nat} {h : IH}
def AL5 : List Deed := (P4.map fun x => (("read", x) : Deed)) ++ (C2.map fun x => (("look", x) : Deed))
theorem al5_sh : ∀ d ∈ AL5, (dat Yeu).showable = true ∧ (dat Yeu).shown.length ≤ 40 := by decide +kernel
theorem ttl_sh : ∀ x ∈ ttl, (dat (.str x)).showable = true ∧ (dat (.str x)).shown.length ≤ 40 := by decide +kernel
theorem p4_sh : ∀ x ∈ P4, (dat (.str x)).showable = true ∧ (dat (.str x)).shown.length ≤ 40 := by decide +kernel
theorem evn_sh : ∀ n, n < 10 → (dat (.str (zay (.even n)))).showable = true ∧ (dat (.str (zay (.even n)))).shown.length ≤ 40 := by decide +kernel
theorem sam_sh : ∀ n, n < 10 → ∀ k, k < 10 → (dat (.str (zay (.same n k)))).showable = true ∧ (dat (.str (zay (.same n k)))).shown.length ≤ 40 := by decide +kernel
theorem chk_sh {ds : List Deed} {c : Chk} (h : chkOk ds c) (h9 : ds.length ≤ 10) : (dat Ygl).showable = true ∧ (dat Ygl).shown.length ≤ 40 := by
 cases c with
 | same i j =>
  obtain ⟨a, b, _⟩ := h
  exact sam_sh i Yc j Yc
 | even i =>
  obtain ⟨a, _⟩ := h
  exact evn_sh i Yc
/-- a drawn reader -/
structure Rdr5 (r : RP) : Prop where
 nm : r.1 ∈ ttl
 ok : ∀ d ∈ r.2.1, d ∈ AL5
 k : RK2 r
 len : r.2.1.length ≤ 8
theorem rdr5_of {x : Str} {ds : List Deed} {cs : List Chk} (hn : x ∈ ttl) (S : ScrP "read" "look" P4 C2 8 ds) (hc : ∀ c ∈ cs, chkOk ds c) (nd : cs.Nodup) (cl : cs.length ≤ 4) : Rdr5 (x, ds, cs) := by
 have l8 := S.len
 refine ⟨hn, fun d hd => ?_, ⟨⟨nam_ok (ttl_nam x hn), fun d hd => ?_, S.nd, by show ds.length ≤ 1000; omega, S.one⟩, by show ds.length ≤ 10; omega, cl, hc, nd⟩, l8⟩
 ·obtain ⟨d1, d2⟩ := d
  unfold AL5
  rcases S.ok _ hd with ⟨e, m⟩ | ⟨e, m⟩
  ·simp only at e m
   subst e
   exact List.mem_append.mpr (.inl (List.mem_map.mpr ⟨d2, m, rfl⟩))
  ·simp only at e m
   subst e
   exact List.mem_append.mpr (.inr (List.mem_map.mpr ⟨d2, m, rfl⟩))
 ·rcases S.ok _ hd with ⟨e, m⟩ | ⟨e, m⟩
  ·exact ⟨by rw [e]; simp, by rw [e]; exact wrd_read, nam_ok (p4_nam _ m)⟩
  ·exact ⟨by rw [e]; simp, by rw [e]; exact wrd_look, nam_ok ((by decide +kernel : ∀ x ∈ C2, namB x = true) _ m)⟩
theorem repr_of {t : T} (f : fit t 60 = true) (s : (dat t).showable = true ∧ (dat t).shown.length ≤ 16777216) : oRepr [.t t] h = .ok (.t (.str (dat t).shown)) h := by
 simp only [oRepr, asT_t, f, s.1, s.2, and_self, if_true]
def bef5 : Option RP → W
 | none => .t .non
 | some r => .t (rdT r)
theorem tail05 {r : RP} (K : Rdr5 r) (d : Deal i j h) {b : Option RP} (hb : ∀ k, b = some k → Rdr5 k) {w0 w1 w4 w12 : Option W} {w10 : W} :
  Wp ((mSeq (mIf (zai asB Ycm) (mRet (mC Yx)) (zbm)) Ya : M Fl) [w0, w1, some (.r i), some (bef5 b), w4, some Yhc, some Yhd, some Ydf, some (.t (.lst Ya5)), some (.t (.lst Ya6)), some w10, some Yap, w12, none, none] h)
  fun fl h' => ∃ (k : RP) (rs : IS), fl = .nx (w0 :: w1 :: some (.r i) :: some (bef5 (some k)) :: rs) ∧ rs.length = 11 ∧ Rdr5 k ∧ Deal i j h' ∧ rs.drop 9 = [none, none] := by
 have dl : ∀ d ∈ r.2.1, (dTx d).length ≤ 15 := fun d hd => dTx_len (K.k.k.ok d hd).w (K.k.k.ok d hd).n
 have len := K.len
 have cn := K.k.n
 let st : List T := r.2.1.map fun d => .str (dTx d)
 let ct : List T := r.2.2.map fun c => .str (zay c)
 have stl : st.length = r.2.1.length := List.length_map ..
 have ctl : ct.length = r.2.2.length := List.length_map ..
 have hct : (r.2.2.map zay).map T.str = ct := List.map_map ..
 let E : IS := [w0, w1, some (.r i), some (bef5 b), w4, some Yhc, some Yhd, some Ydf, some (.t (.lst Ya5)), some (.t (.lst Ya6)), some w10, some Yap, w12, none, none]
 show Wp ((mSeq _ _ : M Fl) E h) _
 have v11 : ∀ {h : IH}, (mVar 11 : M W) E h = .ok Yap h := rfl
 have v8 : ∀ {h : IH}, (mVar 8 : M W) E h = .ok (.t (.lst st)) h := rfl
 have v9 : ∀ {h : IH}, (mVar 9 : M W) E h = .ok (.t (.lst ct)) h := rfl
 have ot : ∀ {h : IH}, (mApp oTup Ycl : M W) E h = .ok (.t (.tup st)) h := zbk (a := .t (.lst st)) rfl oTup_l
 have oc : ∀ {h : IH}, (mApp oTup (zab (mVar 9) (mNil)) : M W) E h = .ok (.t (.tup ct)) h := zbk (a := .t (.lst ct)) rfl oTup_l
 have sh : ∀ t ∈ st, (dat t).showable = true ∧ (dat t).shown.length ≤ 40 := fun t ht => by
  obtain ⟨d, hd, rfl⟩ := List.mem_map.mp ht
  exact al5_sh d (K.ok d hd)
 have s1 := tup_shown sh
 have sc : ∀ t ∈ ct, (dat t).showable = true ∧ (dat t).shown.length ≤ 40 := fun t ht => by
  obtain ⟨c, hc, rfl⟩ := List.mem_map.mp ht
  exact chk_sh (K.k.c c hc) K.k.l
 have s3 := tup_shown sc
 have s2 : (dat Yax).showable = true ∧ (dat Yax).shown.length ≤ (400 + 2) * 3 + 3 := tup_shown fun t ht => by
  simp only [List.mem_cons, List.not_mem_nil, or_false] at ht
  rcases ht with rfl | rfl | rfl
  ·exact ⟨(ttl_sh r.1 K.nm).1, by have := (ttl_sh r.1 K.nm).2; omega⟩
  ·exact ⟨s1.1, by have := s1.2; rw [stl] at this; omega⟩
  ·exact ⟨s3.1, by have := s3.2; rw [ctl] at this; omega⟩
 have f0 : fitL st 58 = true := by
  have e : st = (r.2.1.map dTx).map T.str := by rw [List.map_map]; rfl
  rw [e]
  exact zcv
 have f1 : fitL ct 58 = true := by
  rw [← hct]
  exact zcv
 have f2 : fit Yax 60 = true := by simp only [fit_t, fitL_c, fitL_n, fit_s, f0, f1, Bool.and_self]
 have R := repr_of (h := h) f2 ⟨s2.1, by omega⟩
 have fc : fldW ["Reader"] "checks" (.t (rdT r)) h = .ok (.t (.tup ct)) h := by
  rw [← hct]
  rfl
 have ra : (mApp oRepr Yl : M W) E h = .ok (.t (.str (dat Yax).shown)) h :=
  zbk (a := .t Yax) (by
   have e1 : (mFld ["Kind", "Reader"] "name" (mVar 11) : M W) E h = .ok Ydf h := rfl
   have e2 : (mFld ["Kind", "Reader"] "steps" (mVar 11) : M W) E h = .ok (.t (.tup st)) h := rfl
   have e3 : (mFld ["Reader"] "checks" (mVar 11) : M W) E h = .ok (.t (.tup ct)) h := fld_ok v11 fc
   rw [p_app, zav e1 (zav e2 (zav e3 rfl)), zae]
   rfl) R
 have rb : (mApp oRepr (zab (mApp zbj Ye) (mNil)) : M W) E h = .ok (.t (.str (dat Yax).shown)) h :=
  zbk (a := .t Yax) (by
   rw [p_app, zav (show (mVar 7 : M W) E h = .ok Ydf h from rfl) (zav ot (zav oc rfl)), zae]
   rfl) R
 have t1 : (zai asB Ycm : M Bool) E h = .ok false h := zc4 (binP ra rb Yfp)
 refine za2 (vc_ifE t1 (fun h => by simp at h) fun _ => zc2 (zbp ?_))
 -- what is read
 have wl : (wrs "read" r.2.1).length ≤ 8 := by
  have := List.length_filter_le (fun d : Deed => decide (d.1 = ("read" : Str))) r.2.1
  unfold wrs
  rw [List.length_map]
  omega
 have wsh : ∀ t ∈ (wrs "read" r.2.1).map T.str, (dat t).showable = true ∧ (dat t).shown.length ≤ 40 := fun t ht => by
  obtain ⟨x, hx, rfl⟩ := List.mem_map.mp ht
  unfold wrs at hx
  obtain ⟨d, hd, rfl⟩ := List.mem_map.mp hx
  obtain ⟨hd, e⟩ := List.mem_filter.mp hd
  have := K.ok d hd
  unfold AL5 at this
  rcases List.mem_append.mp this with h | h
  ·obtain ⟨y, hy, rfl⟩ := List.mem_map.mp h
   exact p4_sh y hy
  ·obtain ⟨y, hy, rfl⟩ := List.mem_map.mp h
   exact absurd (of_decide_eq_true e) (show ¬ (("look" : Str) = "read") by decide +kernel)
 have ws := tup_shown wsh
 rw [List.length_map] at ws
 let pt : T := .tup Ye8
 have R2 := repr_of (h := h) (t := pt) (by simp only [pt, fit_t]; exact zcv) ⟨ws.1, by have := ws.2; simp only [pt]; omega⟩
 have pw : (mProp "Reader" za4 (mVar 11) : M W) E h = .ok (.t pt) h := prop_ok v11 rfl (reads2 K.k)
 have cw : (zba zaq (mSq (mVar 5)) (gT 2 (gsC (gN 13) (gsC (gN 14) gsN))) f_law_c1 f_law_c2 [13, 14] : M W) E h = .ok (.t (.lst Ye8)) h := by
  have q := comp_g (G := gT 2 (gsC (gN 13) (gsC (gN 14) gsN))) (U := f_law_c1) (E := f_law_c2) (eta := E) (hp := h) (src := fun d : Deed => W.t (dTr d))
   (loc := fun d => [w0, w1, some (.r i), some (bef5 b), w4, some Yhc, some Yhd, some Ydf, some (.t (.lst Ya5)), some (.t (.lst Ya6)), some w10, some Yap, w12, some (.t (.str d.1)), some (.t (.str d.2))]) (p := fun d => decide (d.1 = ("read" : Str))) (g := fun d => .str d.2) r.2.1 Yai (fun d _ => by
    unfold f_law_c1
    exact zc4 (binP (a := .t (.str d.1)) rfl rfl Yfp)) (fun d hd _ => rfl)
  have le := List.length_filter_le (fun d : Deed => decide (d.1 = ("read" : Str))) r.2.1
  refine zca (ws := (r.2.1.map dTr).map W.t) (ys := ((r.2.1.filter fun d => decide (d.1 = ("read" : Str))).map fun d => T.str d.2).map W.t) (h1 := h) (h2 := h) rfl Y6 Ye4 ?_
  rw [lst_ok Y6]
  unfold wrs
  rw [List.map_map]
  rfl
 refine za2 (zcu (Wp.of (zbk cw oTup_l) (zbp ?_)))
 let E : IS := [w0, w1, some (.r i), some (bef5 b), w4, some Yhc, some Yhd, some Ydf, some (.t (.lst Ya5)), some (.t (.lst Ya6)), some w10, some Yap, some (.t pt), none, none]
 show Wp ((mSeq _ _ : M Fl) E h) _
 have v11 : ∀ {h : IH}, (mVar 11 : M W) E h = .ok Yap h := rfl
 have v8 : ∀ {h : IH}, (mVar 8 : M W) E h = .ok (.t (.lst st)) h := rfl
 have v9 : ∀ {h : IH}, (mVar 9 : M W) E h = .ok (.t (.lst ct)) h := rfl
 have so : ∀ {h : IH}, (mApp (zcg [Yt]) (zab (mVar 11) (mNil)) : M W) E h = .ok (.t Ydb) h := zbk (a := .t (rdT r)) rfl (rstrO K.k)
 have ot : ∀ {h : IH}, (mApp oTup Ycl : M W) E h = .ok (.t (.tup st)) h := zbk (a := .t (.lst st)) rfl oTup_l
 have oc : ∀ {h : IH}, (mApp oTup (zab (mVar 9) (mNil)) : M W) E h = .ok (.t (.tup ct)) h := zbk (a := .t (.lst ct)) rfl oTup_l
 have pw : (mProp "Reader" za4 (mVar 11) : M W) E h = .ok (.t pt) h := prop_ok v11 rfl (reads2 K.k)
 have t2 : (zai asB (mBin Yac (mApp oRepr (zab (mProp "Reader" za4 (mVar 11)) (mNil))) (mApp oRepr (zab (mVar 12) (mNil)))) : M Bool) E h = .ok false h :=
  zc4 (binP (zbk pw R2) (zbk (a := .t pt) rfl R2) Yfp)
 refine za2 (vc_ifE t2 (fun h => by simp at h) fun _ => zc2 (zbp ?_))
 -- how many steps; the text
 have ln : (mLenOwn "Reader" zbu (mVar 11) : M W) E h = .ok Yew h := lenown_ok v11 rfl (rlen2 K.k) ⟨by omega, by omega⟩
 have ol : (mApp oLen Ycl : M W) E h = .ok Yew h := zbk (a := .t (.lst st)) rfl (by rw [oLen_l, stl])
 have kt : (zaz za1 [] Yfx : M W) E h = .ok (.t Ydb) h := za3 (ws := [.t (.tup [.str r.1, .lst Ycs, .lst Ycg])]) rfl (reader_text_is K.k)
 have t3 : (mOr (zai asB (mBin Yac (mLenOwn "Reader" zbu (mVar 11)) (mApp oLen Ycl))) (zai asB (mBin Yac Ybz (zaz za1 [] Yfx))) : M Bool) E h = .ok false h :=
  orE (a := false) (b := false) (zc4 (binP ln ol (ev_eqi.trans Yae))) fun _ => zc4 (binP so kt Yfp)
 refine za2 (vc_ifE t3 (fun h => by simp at h) fun _ => zc2 (zbp ?_))
 -- made again
 let h1 : IH := h ++ [none]
 have eqs : ∀ {h : IH}, oEqO true [Yce] Yap Yap h = .ok (.t Yx) h := (reqO K.k K.k).trans Yae
 have mk1 : (zcc (za7 "Reader" zah [] Ye) : M W) E h = .ok Yap h1 := rdrM (b := true) (bc := true) K.k (zav rfl (zav ot (zav oc rfl)))
 have t4 : (zai asB (mBin (oEqO true [Yce]) (mVar 11) (zcc (za7 "Reader" zah [] Ye))) : M Bool) E h = .ok false h1 := by
  show ((mBin _ _ _ : M W) E h).bind _ = _
  rw [bin_ok (h1 := h) (h2 := h1) v11 mk1 eqs]
  rfl
 refine za2 (vc_if (Wp.of t4 (Wp.itf Ybr (zc2 (zbp ?_)))))
 -- without checks; nothing else is equal to it
 obtain ⟨h2, t5, l2, e2⟩ : ∃ h2 : IH, (mAnd (zai asB (mBin (eqW false) (mVar 9) (mApp zaq (mNil)))) (zai asB (mBin (oEqO true [("Reader", zaj)]) (mVar 11) (zcc (za7 "Reader" zah [.tup []] (zab (mVar 7) (zab (mVar 8) (mNil))))))) : M Bool) E h1 = .ok false h2 ∧ ∃ l, h2 = h ++ l := by
  have q0 : (zai asB (mBin Y0 (mVar 9) Yba) : M Bool) E h1 = .ok r.2.2.isEmpty h1 := by
   refine zc4 (binP (a := .t (.lst ct)) rfl (b := .t (.lst [])) rfl ?_)
   have f : fitL ct 59 = true := by
    rw [← hct]
    exact zcv
   rw [eqW_tt, if_pos ⟨by simp only [fit_l, f], by simp⟩]
   simp only [ct]
   cases r.2.2 <;> simp
  cases hc : r.2.2 with
  | cons c cs =>
   rw [hc] at q0
   exact ⟨h1, andE (b := false) q0 fun h => by simp at h, [none], rfl⟩
  | nil =>
   rw [hc] at q0
   have er : rdT r = rdrG r.1 r.2.1 [] [] := by unfold rdT; rw [hc]; rfl
   have mk : (zcc (za7 "Reader" zah [.tup []] (zab (mVar 7) Ycl)) : M W) E h1 = .ok Yap Ygk := by
    rw [er]
    exact rdr_made0 (b := false) K.k.k rfl
   have q1 : (zai asB (mBin (oEqO true [Yce]) (mVar 11) (zcc (za7 "Reader" zah [.tup []] (zab (mVar 7) Ycl)))) : M Bool) E h1 = .ok false Ygk := by
    show ((mBin _ _ _ : M W) E h1).bind _ = _
    rw [bin_ok (h1 := h1) (h2 := h1 ++ [none]) v11 mk eqs]
    rfl
   refine ⟨h1 ++ [none], ?_, [none] ++ [none], by simp only [h1, List.append_assoc]⟩
   show ((zai asB (mBin Y0 (mVar 9) Yba) : M Bool) E h1).bind _ = _
   rw [q0, zae]
   exact q1
 have K1 : KOk r.1 [("write", "a")] := ⟨K.k.k.n, fun d hd => by rw [List.mem_singleton.mp hd]; exact ⟨by simp, wrd_write, nam_ok Y3⟩, by simp, by simp, by simp⟩
 let kd : T := kndT r.1 [("write", "a")]
 let h3 : IH := h2 ++ [none]
 have mk3 : (zcc Yeq : M W) E h2 = .ok (.t kd) h3 := kind_made (b := false) K1 rfl
 have tp : (mApp zbj (zab Ybz (zab Yaw (zab (zcc Yeq) (mNil)))) : M W) E h2 = .ok (.t (.tup [.str (lnR r), .non, kd])) h3 := by
  rw [p_app, zav so (zav (show (mC .non : M W) E h2 = .ok Yco h2 from rfl) (zav mk3 rfl)), zae]
  rfl
 have nin : oInO [Yce, ("Kind", zdh)] Yap (.t (.tup [.str (lnR r), .non, kd])) h3 = .ok (.t Yx) h3 := by
  have a1 : zaj [.t (rdT r), .t Ydb] h3 = .ok (.t Yx) h3 := req_no rfl
  have a3 : zaj [.t (rdT r), .t .non] h3 = .ok (.t Yx) h3 := req_no rfl
  have a4 : zdh [.t kd, .t (rdT r)] h3 = .ok (.t Yx) h3 := rfl
  show ((noEr (zaj [.t (rdT r), .t Ydb] h3)).bind _ : Res W) = _
  rw [a1, zb8, zae]
 refine za2 (vc_if (vc_or (Wp.of t5 (Wp.itf Ybr (vc_test (vc_bin (Wp.of v11 (Wp.of tp (Wp.of nin (vc_asB (Wp.itf Ybr (zc2 (zbp ?_)))))))))))))
 -- the one before
 have d3 : Deal i j h3 := by
  obtain ⟨li, lj⟩ := d.lt
  refine d.keep ?_ ?_
  ·simp only [h3, e2, List.append_assoc]
   exact List.getElem?_append_left li
  ·simp only [h3, e2, List.append_assoc]
   exact List.getElem?_append_left lj
 have fin : ∀ {QF : Fl → IH → Prop}, QF (.nx [w0, w1, some (.r i), some (bef5 (some r)), w4, some Yhc, some Yhd, some Ydf, some (.t (.lst Ya5)), some (.t (.lst Ya6)), some w10, some Yap, some (.t pt), none, none]) h3 → Wp ((mSet 3 (mVar 11) : M Fl) E h3) QF := fun q => zcu (zb6 rfl q)
 cases b with
 | none =>
  have t5 : (mAnd (zai asB (mBin (isN true) (mVar 3) Yaw)) Yd6 : M Bool) E h3 = .ok false h3 := rfl
  exact za2 Yer
 | some k =>
  have B := hb k rfl
  have v3 : ∀ {h : IH}, (mVar 3 : M W) E h = .ok (.t (rdT k)) h := rfl
  have e1 : (mBin (oEqO false [Yce]) (mVar 11) (mVar 3) : M W) E h3 = .ok (.t (.bl (decide (lnR r = lnR k)))) h3 := binP v11 v3 ((reqO K.k B.k).trans Yae)
  have e2 : (mBin Y0 Ybz (mApp (zcg [Yt]) Y4) : M W) E h3 = .ok (.t (.bl (decide (lnR r = lnR k)))) h3 := binP so (zbk v3 (rstrO B.k)) (ev_eqs.trans rfl)
  have t5 : (mAnd (zai asB (mBin (isN true) (mVar 3) Yaw)) Yd6 : M Bool) E h3 = .ok false h3 :=
   andE (a := true) (b := false) rfl fun _ => zc4 (binP e1 e2 (ev_eqb.trans Yae))
  exact za2 Yer
theorem getL_app {h : IH} {ws : List W} : getL (h ++ [some (.lst ws)]) h.length = some ws := by
 unfold getL
 rw [List.getElem?_append_right Ye2, Nat.sub_self]
 rfl
theorem getL_left {h : IH} {x : Option Cell} {k : Nat} (hk : k < h.length) : getL (h ++ [x]) k = getL h k := by
 unfold getL
 rw [List.getElem?_append_left hk]
theorem mapM_deep {h : IH} {n : Nat} (l : List T) : (l.map W.t).mapM (deepL h n) = some l := by
 induction l with
 | nil => rfl
 | cons x l ih =>
  rw [List.map_cons, List.mapM_cons, ih]
  cases n <;> rfl
theorem turn05 (d : Deal i j h) {b : Option RP} (hb : ∀ k, b = some k → Rdr5 k) {w0 w1 w4 w5 w6 w7 w8 w9 w10 w11 w12 : Option W} :
  Wp (f_law_l1 [w0, w1, some (.r i), some (bef5 b), w4, w5, w6, w7, w8, w9, w10, w11, w12, none, none] h)
  fun fl h' => ∃ (k : RP) (rs : IS), fl = .nx (w0 :: w1 :: some (.r i) :: some (bef5 (some k)) :: rs) ∧ rs.length = 11 ∧ Rdr5 k ∧ Deal i j h' ∧ rs.drop 9 = [none, none] := by
 unfold f_law_l1
 obtain ⟨d0, h1, S0, e1, d1⟩ := glances_is (cs := P4) (ctr := C2) (m := 8) d Y3 Yae Yae Yae Yae Yc Yc
 refine za2 (zcu (zd3 (zan (zb6 rfl (zan (vc_app (zan (vc_c (zan (vc_c (zan (vc_c (zan (vc_c (zbh (vc_lstE (ts := P4.map T.str) rfl Yae (zan (vc_app (zan (vc_c (zan (vc_c (zbh (vc_lstE (ts := C2.map T.str) rfl Yae (zan (vc_c (zbh (Wp.of e1 (zbp ?_)))))))))))))))))))))))))))))
 have l0 := S0.len
 let E5 : IS := [w0, w1, some (.r i), some (bef5 b), w4, some (.t (.lst (d0.map dTr))), w6, w7, w8, w9, w10, w11, w12, none, none]
 show Wp ((mSeq _ _ : M Fl) E5 h1) _
 obtain ⟨m, em, hm⟩ : ∃ m : Nat, (if (8 : Int) - ((d0.length : Nat) : Int) < 2 then (8 : Int) - ((d0.length : Nat) : Int) else 2) = (m : Int) ∧ d0.length + m ≤ 8 := by
  by_cases c : (8 : Int) - ((d0.length : Nat) : Int) < 2
  ·exact ⟨8 - d0.length, by rw [if_pos c]; omega, by omega⟩
  ·exact ⟨2, by rw [if_neg c]; rfl, by omega⟩
 have mn : (mApp oMin2 Yb4 : M W) E5 h1 = .ok (.t (.int (m : Nat))) h1 := by
  have ol : (mApp oLen Yak : M W) E5 h1 = .ok (.t (.int (d0.length : Nat))) h1 := zbk (a := .t (.lst (d0.map dTr))) rfl Ycq
  have sb : (mBin iSub (mC (.int 8)) (mApp oLen Yak) : M W) E5 h1 = .ok (.t (.int ((8 : Int) - ((d0.length : Nat) : Int)))) h1 := binP (a := .t (.int 8)) rfl ol rfl
  rw [p_app, zav (show (mC (.int 2) : M W) E5 h1 = .ok (.t (.int 2)) h1 from rfl) (zav sb rfl), zae, oMin2_i, em]
 have ml : (mBin wMul Yez (mApp oMin2 Yb4) : M W) E5 h1 = .ok (.t (.lst ((List.replicate m (("look", "c") : Deed)).map dTr))) h1 := binP (a := .t (.lst [.tup [.str "look", .str "c"]])) rfl mn (rep_look Yc)
 obtain ⟨ds, h2, pd, e2, d2⟩ := put_is (ds := d0) (ms := List.replicate m (("look", "c") : Deed)) d1 (by rw [List.length_replicate]; omega)
 have S := scrp_more S0 hm (x := "c") Yae Y3 pd
 refine za2 (zcu (zd3 (zan (zb6 rfl (zan (zb6 rfl (zan (Wp.of ml (zbh (Wp.of e2 (zbp ?_)))))))))))
 have l1 := S.len
 obtain ⟨cs, h3, e3, d3, nd, ck, cl⟩ := tests_drawn (ds := ds) d2 l1
 obtain ⟨x, h4, hx, e4, d4⟩ := titles_is d3
 have K := rdr5_of hx S ck nd cl
 have dl : ∀ d ∈ ds, (dTx d).length ≤ 15 := fun d hd => dTx_len (K.k.k.ok d hd).w (K.k.k.ok d hd).n
 let E6 : IS := [w0, w1, some (.r i), some (bef5 b), w4, some Ybm, w6, w7, w8, w9, w10, w11, w12, none, none]
 have ts : (zaz zd0 [] (zab (mVar 2) Yak) : M W) E6 h2 = .ok (.t Yad) h3 := za3 (ws := [.r i, .t (.lst Yf)]) rfl e3
 have tt : (mBin ixW (zaz zdt [] (zab (mVar 2) (zab Yn (mNil)))) Yk : M W) E6 h3 = .ok Yem h4 := by
  rw [bin_ok (h1 := h4) (h2 := h4) (za3 (ws := [.r i, .t (.int 1)]) rfl e4) rfl ev_ixl0]
 refine za2 (vc_par2 (zan (Wp.of ts (zan (Wp.of tt (zbh ⟨_, _, rfl, zbp ?_⟩))))))
 let E7 : IS := [w0, w1, some (.r i), some (bef5 b), w4, some Ybm, some (.t Yad), some Yem, w8, w9, w10, w11, w12, none, none]
 have dt : (zaz za0 [] Yak : M W) E7 h4 = .ok (.t (.lst Ym)) h4 := za3 (ws := [.t (.lst Yf)]) rfl (deed_texts_is Yc dl)
 have qt : (zaz zaw [] (zab (mVar 6) (mNil)) : M W) E7 h4 = .ok (.t (.lst (cs.map fun c => .str (zay c)))) h4 := za3 (ws := [.t Yad]) rfl (test_texts_is ck Yc cl)
 refine za2 (vc_par2 (zan (Wp.of dt (zan (Wp.of qt (zbh ⟨_, _, rfl, zbp ?_⟩))))))
 let st : List T := ds.map fun d => .str (dTx d)
 let ct : List T := cs.map fun c => .str (zay c)
 have stl : st.length = ds.length := List.length_map ..
 have ctl : ct.length = cs.length := List.length_map ..
 let E8 : IS := [w0, w1, some (.r i), some (bef5 b), w4, some Ybm, some (.t Yad), some Yem, some (.t (.lst st)), some (.t (.lst ct)), w10, w11, w12, none, none]
 show Wp ((mSeq _ _ : M Fl) E8 h4) _
 obtain ⟨li, lj⟩ := d4.lt
 let h5 : IH := h4 ++ [some (.lst (st.map W.t))]
 let h6 : IH := h5 ++ [some (.lst (ct.map W.t))]
 let A : Nat := h4.length
 let B : Nat := h5.length
 let G : Nat := h6.length
 let h7 : IH := h6 ++ [some (.lst [.r A, .r B])]
 have lB : B = A + 1 := by simp only [A, B, h5, List.length_append, List.length_cons, List.length_nil]
 have lG : G = A + 2 := by simp only [A, G, h6, h5, List.length_append, List.length_cons, List.length_nil]
 have m1 : (mApp oListL Ycl : M W) E8 h4 = .ok (.r A) h5 := zbk (a := .t (.lst st)) rfl oListL_l
 have m2 : (mApp oListL (zab (mVar 9) (mNil)) : M W) E8 h5 = .ok (.r B) h6 := zbk (a := .t (.lst ct)) rfl oListL_l
 refine za2 (zcu (vc_app (zan (Wp.of m1 (zan (Wp.of m2 (zbh (vc_newL Yae (zbp ?_)))))))))
 let E9 : IS := [w0, w1, some (.r i), some (bef5 b), w4, some Ybm, some (.t Yad), some Yem, some (.t (.lst st)), some (.t (.lst ct)), some (.r G), w11, w12, none, none]
 show Wp ((mSeq _ _ : M Fl) E9 h7) _
 have gG : getL h7 G = some [.r A, .r B] := getL_app
 have gB : getL h7 B = some (ct.map W.t) := (getL_left (show B < G by omega)).trans getL_app
 have gA : getL h7 A = some (st.map W.t) := (getL_left (show A < G by omega)).trans ((getL_left (show A < B by omega)).trans getL_app)
 have dA : deepL h7 2 (.r A) = some (.lst st) := by
  show (match getL h7 A with | some ws => (ws.mapM (deepL h7 1)).map T.lst | none => none) = _
  rw [gA]
  simp only [mapM_deep, Option.map_some]
 have dB : deepL h7 2 (.r B) = some (.lst ct) := by
  show (match getL h7 B with | some ws => (ws.mapM (deepL h7 1)).map T.lst | none => none) = _
  rw [gB]
  simp only [mapM_deep, Option.map_some]
 have dG : deepL h7 3 (.r G) = some (.lst [.lst st, .lst ct]) := by
  show (match getL h7 G with | some ws => (ws.mapM (deepL h7 2)).map T.lst | none => none) = _
  rw [gG]
  simp only [List.mapM_cons, List.mapM_nil, dA, dB]
  rfl
 have lk : (mLendE Ydj : M W) E9 h7 = .ok (.t (rdT (x, ds, cs))) h7 := by
  have v10 : ∀ {h : IH}, (mVar 10 : M W) (E9.map (lendO h7)) h = .ok (.t (.lst [.lst st, .lst ct])) h := fun {h} => varP (w := .t (.lst [.lst st, .lst ct])) (by
   show some ((deepL h7 3 (.r G)).map W.t) = _
   rw [dG]
   rfl)
  exact rdr_lent (b := false) (bc := false) K.k (zav rfl (zav (binP v10 rfl ev_ixl0) (zav (binP v10 rfl ev_ixl1) rfl)))
 refine za2 (zcu (Wp.of lk (zbp ?_)))
 let E10 : IS := [w0, w1, some (.r i), some (bef5 b), w4, some Ybm, some (.t Yad), some Yem, some (.t (.lst st)), some (.t (.lst ct)), some (.r G), some (.t (rdT (x, ds, cs))), w12, none, none]
 show Wp ((mSeq _ _ : M Fl) E10 h7) _
 let h8 : IH := h7.set A (some (.lst (st.map W.t ++ [.t (.str "read q")])))
 have ap1 : (mDrop Yf5 : M Fl) E10 h7 = .ok (.nx E10) h8 :=
  dmeth_ok (o := .r A) (h1 := h7) (h2 := h7) (ws := [.t (.str "read q")]) (binP (a := .r G) rfl rfl (by rw [ixW_r, gG, Option.bind_some]; rfl)) (by simp only [isL, zdj, gA]; rfl) rfl (by
   simp only [zbl, gA, h8]
   rw [if_pos (by rw [List.length_map, stl]; omega)])
 refine za2 (Wp.of ap1 (zbp ?_))
 show Wp ((mSeq _ _ : M Fl) E10 h8) _
 have gG8 : getL h8 G = some [.r A, .r B] := by
  unfold getL
  simp only [h8]
  rw [List.getElem?_set_ne Yc, zbo gG]
 have gB8 : getL h8 B = some (ct.map W.t) := by
  unfold getL
  simp only [h8]
  rw [List.getElem?_set_ne Yc, zbo gB]
 let h9 : IH := h8.set B (some (.lst (ct.map W.t ++ [.t (.str "even 99")])))
 have ap2 : (mDrop Yfy : M Fl) E10 h8 = .ok (.nx E10) h9 :=
  dmeth_ok (o := .r B) (h1 := h8) (h2 := h8) (ws := [.t (.str "even 99")]) (binP (a := .r G) rfl rfl (by rw [ixW_r, gG8, Option.bind_some]; rfl)) (by simp only [isL, zdj, gB8]; rfl) rfl (by
   simp only [zbl, gB8, h9]
   rw [if_pos (by rw [List.length_map, ctl]; omega)])
 refine za2 (Wp.of ap2 (zbp ?_))
 have d7 : Deal i j h7 := by
  refine d4.keep ?_ ?_
  ·simp only [h7, h6, h5, List.append_assoc]
   exact List.getElem?_append_left li
  ·simp only [h7, h6, h5, List.append_assoc]
   exact List.getElem?_append_left lj
 have d9 : Deal i j h9 := (d7.keep (hp' := h8) (List.getElem?_set_ne Yc) (List.getElem?_set_ne Yc)).keep (List.getElem?_set_ne Yc) (List.getElem?_set_ne Yc)
 exact tail05 (r := (x, ds, cs)) K d9 hb
def r05 : RP := ("r", [("look", "c"), ("read", "a")], [.even 0])
theorem r05_ok : RK2 r05 := by
 refine ⟨⟨nam_ok Y3, fun d hd => ?_, by decide +kernel, by decide, ⟨("read", "a"), by decide, rfl⟩⟩, by decide, by decide, fun c hc => ?_, by decide⟩
 ·have : d = (("look", "c") : Deed) ∨ d = (("read", "a") : Deed) := by simpa [r05] using hd
  rcases this with rfl | rfl
  ·exact ⟨by decide +kernel, wrd_look, nam_ok Y3⟩
  ·exact ⟨by decide +kernel, wrd_read, nam_ok Y3⟩
 ·have : c = .even 0 := by simpa [r05] using hc
  subst this
  exact ⟨by decide, rfl⟩
theorem law_is {ns : List Int} (hn : ns.length ≤ 63) : ∃ hp', F_law [.t Yaj] [] = .ok (.t Yb5) hp' := by
 suffices h : Wp (F_law [.t Yaj] []) fun w _ => w = .t Yb5 by
  obtain ⟨w, h1, e, rfl⟩ := h.ex
  exact ⟨h1, e⟩
 refine vc_fnM (eta := some (.t Yaj) :: List.replicate 14 none) rfl rfl ?_
 unfold B_law
 let P : Option W := some (.t Yaj)
 have kl : ∀ {h : IH}, oLen [.t Yaj] h = .ok (.t (.int (ns.length : Nat))) h := fun {h} => by simp only [oLen, items_s, List.length_map]
 obtain ⟨m, em, hm⟩ : ∃ m : Nat, (if (1 : Int) < (if ((ns.length : Nat) : Int) < 3 then ((ns.length : Nat) : Int) else 3) then (if ((ns.length : Nat) : Int) < 3 then ((ns.length : Nat) : Int) else 3) else 1) = (m : Int) ∧ m < 4 := by
  refine ⟨(if (1 : Int) < (if ((ns.length : Nat) : Int) < 3 then ((ns.length : Nat) : Int) else 3) then (if ((ns.length : Nat) : Int) < 3 then ((ns.length : Nat) : Int) else 3) else 1).toNat, ?_, ?_⟩
  all_goals split <;> split <;> omega
 refine za2 (vc_for (vc_src (zan (vc_app (zan (vc_c (zan (vc_app (zan (vc_c (zan (vc_app (zan (zb6 rfl (zbh (Wp.rw kl (Wp.ok (zbh (Wp.rw oMin2_i (Wp.ok (zbh (Wp.rw oMax2_i (Wp.ok (zbh ?_))))))))))))))))))))))))
 rw [em]
 refine Wp.rw (rng_is (n := m) Yc) (Wp.ok ?_)
 refine vc_loop (G := gN 1) (S := f_law_l2) (fun ws eta h => (∃ ks : List Nat, ws = ks.map natW ∧ ∀ k ∈ ks, k < 10) ∧ ∃ r : IS, eta = P :: r ∧ r.length = 14 ∧ r.drop 12 = [none, none]) ?_ _ _ _ ⟨⟨List.range m, rfl, fun k hk => by have := List.mem_range.mp hk; omega⟩, List.replicate 14 none, rfl, rfl, rfl⟩ ?_
 ·rintro w ws eta h ⟨⟨ks, ew, hk⟩, r, rfl, rl, rd⟩
  cases ks with
  | nil => simp at ew
  | cons k ks =>
   rw [List.map_cons] at ew
   simp only [List.cons.injEq] at ew
   obtain ⟨rfl, rfl⟩ := ew
   match r, rl, rd with
   | [w1, w2, w3, w4, w5, w6, w7, w8, w9, w10, w11, w12, w13, w14], _, rd =>
    simp only [List.drop_succ_cons, List.drop_zero, List.cons.injEq, and_true] at rd
    obtain ⟨rfl, rfl⟩ := rd
    refine ⟨_, rfl, ?_⟩
    unfold f_law_l2
    have kb := hk k Y2
    obtain ⟨a, h1, e1, d1, _⟩ := deal_is (hp := h) (b := (k : Int)) hn ⟨by omega, by omega⟩
    have ek : natW k = W.t (.int (k : Nat)) := by unfold natW; rw [Int.zero_add]
    rw [ek]
    refine za2 (zcu (zd3 (zan (zb6 rfl (zan (zb6 rfl (zbh (Wp.of e1 (zbp ?_)))))))))
    refine za2 (zcu (vc_c (zbp ?_)))
    refine vc_for (vc_src (zan (vc_c (zbh (Wp.rw (rng_is (n := 4) Yc) (Wp.ok ?_))))))
    refine vc_loop (G := gN 4) (S := f_law_l1) (fun ws eta h => (∃ ks : List Nat, ws = ks.map natW) ∧ Deal a (a - 1) h ∧ ∃ (b : Option RP) (r : IS), eta = P :: some Yde :: some (.r a) :: some (bef5 b) :: r ∧ r.length = 11 ∧ r.drop 9 = [none, none] ∧ ∀ k, b = some k → Rdr5 k) ?_ _ _ _ ⟨⟨List.range 4, rfl⟩, d1, none, [w4, w5, w6, w7, w8, w9, w10, w11, w12, none, none], rfl, rfl, rfl, fun _ h => nomatch h⟩ ?_
    ·rintro w ws eta h ⟨⟨ks, ew⟩, d, b, r, rfl, rl, rd, hb⟩
     cases ks with
     | nil => simp at ew
     | cons k ks =>
      rw [List.map_cons] at ew
      simp only [List.cons.injEq] at ew
      obtain ⟨rfl, rfl⟩ := ew
      match r, rl, rd with
      | [w4, w5, w6, w7, w8, w9, w10, w11, w12, w13, w14], _, rd =>
       simp only [List.drop_succ_cons, List.drop_zero, List.cons.injEq, and_true] at rd
       obtain ⟨rfl, rfl⟩ := rd
       exact ⟨_, rfl, (turn05 d hb).mono fun fl h2 ⟨b2, r2, e, rl, B, d2, rd⟩ => ⟨_, e, ⟨ks, rfl⟩, d2, some b2, r2, rfl, rl, rd, fun k hk => by cases hk; exact B⟩⟩
    ·rintro e h ⟨-, d, b, r, rfl, rl, rd, hb⟩
     match r, rl, rd with
     | [w4, w5, w6, w7, w8, w9, w10, w11, w12, w13, w14], _, rd => exact ⟨_, rfl, ⟨ks, rfl, fun k hk' => hk k (List.mem_cons_of_mem _ hk')⟩, _, rfl, rfl, rd⟩
 ·rintro e h ⟨-, r, rfl, rl, rd⟩
  have ROka : ROk "r" [("read", "a")] := ⟨nam_ok Y3, fun d hd => by rw [List.mem_singleton.mp hd]; exact ⟨by simp, wrd_read, nam_ok Y3⟩, by simp, by simp, ⟨("read", "a"), List.mem_singleton.mpr rfl, rfl⟩⟩
  have mk1 : (zcc Yy : M W) (P :: r) h = .ok (.t (rdrG "r" [("read", "a")] [] [])) (h ++ [none]) := rdr_made0 (b := false) ROka rfl
  have f1 : (mFld ["Reader"] "checks" (zcc Yy) : M W) (P :: r) h = .ok (.t (.tup [])) (h ++ [none]) := fld_ok mk1 rfl
  have t1 : (zai asB Ygz : M Bool) (P :: r) h = .ok false (h ++ [none]) := by
   show ((mBin _ _ _ : M W) (P :: r) h).bind _ = _
   rw [bin_ok (h1 := h ++ [none]) (h2 := h ++ [none]) f1 rfl (r := .ok (.t Yx) (h ++ [none])) (by rfl)]
   rfl
  refine zbp (za2 (vc_if (Wp.of t1 (Wp.itf Ybr (zc2 (zbp (vc_ret ?_)))))))
  let h1 : IH := h ++ [none]
  let h2 : IH := h1 ++ [none]
  have mk2 : (zcc Yu : M W) (P :: r) h1 = .ok (.t (rdT r05)) h2 := rdrM (b := false) (bc := false) r05_ok rfl
  have s2 : (mApp (zcg [Yt]) (zab (zcc Yu) (mNil)) : M W) (P :: r) h1 = .ok (.t (.str "reader r: look c, read a if even 0")) h2 := by
   rw [p_app, zav mk2 rfl, zae, rstrO r05_ok]
   have : lnR r05 = "reader r: look c, read a if even 0" := by decide +kernel
   rw [this]
  refine Wp.of (bin_ok (h1 := h2) (h2 := h2) s2 rfl (r := .ok (.t Yb5) h2) (ev_eqs.trans rfl)) ⟨_, rfl, rfl⟩
end
section
variable {P : Program} {w : World} {K : PySem.W.Frag} {mg : Str → Option Value} {base : Heap} {f : Addr} {fd : FuncData} {dfs : List V} {kws : List Yc2}
abbrev DG (K : PySem.W.Frag) (x q : Str) (s : Stmt) (l : List V) (k : List Yc2) (a : Addr) (d : FuncData) : Prop := FunD K x q (defArgs s) (defBody s) (defScope s) l k a d
local macro_rules | `(tactic| simp_all_arith) => `(tactic| exact ⟨rfl, rfl, rfl, by decide +kernel, rfl, by decide +kernel, by decide +kernel⟩)
local macro_rules | `(tactic| simp_all_arith!) => `(tactic| first | exact .inl rfl | exact .inr rfl)
abbrev N_w_deal : List Str := ["_law_script", "_law_base", "_law_cells", "_law_blended", "_law_cell"]
theorem sc_w_deal : FnScope N_w_deal ["_law_script", "_law_base"] (defScope s_w_deal) := by simp_all_arith
theorem yon (F : DG K "_law_deal" "_law_deal" s_w_deal dfs kws f fd)
  (ydd : mg "int" = none)
  (ynx : mg "abs" = none) :
  FnG P w K mg base Yj 1 f fd ["_law_script", "_law_base"] (spM K w F_w_deal 2) :=
 okM (k := 0) F sc_w_deal fun cdv A outer s H E hr hgd => by
  have hN := sc_w_deal.nd
  have hu := hr.units
  exact zag (by first | exact st_comp (i := 2) (own := [("_law_cell", 4)]) (T := mYes) (E := zd5) rfl hN rfl rfl rfl (zdo (zce (zac 0) (zcn (zac 1)) (zcn (zak)))) (by first | exact blkOk_by (N := N_w_deal) (sc := defScope s_w_deal) (by decide +kernel) | exact blkOk_by (by with_unfolding_all rfl) | exact blkOk_by (by decide +kernel +revert)) (fun _ _ _ _ _ => pg_name (i := 4) hN rfl Yi) (zat 4) Y1 Yd4 za5 | exact za8 2 hN (zbr (own := [("_law_cell", 4)]) (T := mYes) (E := zd5) rfl hN (zdo (zce (zac 0) (zcn (zac 1)) (zcn (zak)))) (by first | exact blkOk_by (N := N_w_deal) (sc := defScope s_w_deal) (by decide +kernel) | exact blkOk_by (by with_unfolding_all rfl) | exact blkOk_by (by decide +kernel +revert)) (fun _ _ _ _ _ => pg_name (i := 4) hN rfl Yi) (zat 4) Y1 Yd4 za5)) (zag (za8 3 hN (zb9 (zak) (ie_mulA (zak) (zac 1)))) (zag (st_for (B := zdk) PassesOwn.never rfl (zdo (zac 2)) Yd2 (zat 4) (zao (za8 3 hN (ie_mod (zb5 call_int1 ok_int (zaa (zb9 (zb9 (ie_mulA (zac 3) (zak)) (ie_mod (zb5 call_int1 ok_int (zaa (zac 4) (zad)) ydd) (zak))) (zak)) (zad)) ydd) (zak))))) (zao (zau (ie_lstL (zaa (ie_revL (zbr (own := [("_law_cell", 4)]) (T := zde) (E := zd8) rfl hN (zdo (zac 2)) (by first | exact blkOk_by (N := N_w_deal) (sc := defScope s_w_deal) (by decide +kernel) | exact blkOk_by (by with_unfolding_all rfl) | exact blkOk_by (by decide +kernel +revert)) (fun _ _ _ _ _ => pg_name (i := 4) hN rfl Yi) (zat 4) (fun _ _ _ _ _ => its_one (it_ge (zac 4) (ie_pow (zak) (zak)))) (fun _ _ _ _ _ => zac 4) za5)) (zaa (zac 3) (zad))))))))
abbrev yo0 : List Str := ["_law_deal_here", "_law_wide", "_law_left"]
theorem ym1 : FnScope yo0 ["_law_deal_here", "_law_wide"] (defScope ylq) := by simp_all_arith
theorem yoo (F : DG K "_law_draw" "_law_draw" ylq dfs kws f fd)
  (ydd : mg "int" = none) :
  FnG P w K mg base Yj 1 f fd ["_law_deal_here", "_law_wide"] Yhe :=
 okM (k := 0) F ym1 fun cdv A outer s H E hr hgd => by
  have hN := ym1.nd
  have hu := hr.units
  exact zag (st_while (B := zcp) 4096 PassesOwn.never ((iw_and (it_ne hu Yay (zch (zad))) (zd4 (it_eq hu (zam Yay (ie_neg (zak))) (zak)))).it) (zao (st_expr (ie_pop Yay)))) (zag (zc1 (it_ne hu Yay (zch (zad))) (zag (za8 2 hN (ie_pop Yay)) (zag (st_expr (zdx Yay (zaa (ie_div (zac 2) (zac 1)) (zad)))) (zao (zau (ie_mod (zb5 call_int1 ok_int Yb3 ydd) (zac 1)))))) (zbe)) (zag (st_iput (zac 0) (zak) (ie_mod (zb5 call_int1 ok_int (zaa (zb9 (ie_mulA Yay (zak)) (zak)) (zad)) ydd) (zak))) (zao (zau (ie_mod (zb5 call_int1 ok_int (zaa (ie_div Yay (zak)) (zad)) ydd) (zac 1))))))
abbrev you : List Str := ["_law_deal_here", "_law_some", "_law_left", "_law_found"]
theorem ymc : FnScope you ["_law_deal_here", "_law_some"] (defScope yj4) := by simp_all_arith
theorem yod (F : DG K "_law_mixed" "_law_mixed" yj4 dfs kws f fd)
  (yf : mg "len" = none)
  (yb2 : mg "list" = none)
  {yr : Addr} {y6 : FuncData} (yn : FnG P w K mg base Yj 1 yr y6 ["_law_deal_here", "_law_wide"] Yhe)
  (yx : mg "_law_draw" = some (.ref yr)) (yy : PySem.W.keepIn K (.ref yr) = true)
  (yo : Binds K y6 ["_law_deal_here", "_law_wide"] []) :
  FnG P w K mg base Yj 2 f fd ["_law_deal_here", "_law_some"] (spM K w zb7 2) :=
 okM (k := 1) F ymc fun cdv A outer s H E hr hgd => by
  have hN := ymc.nd
  have hu := hr.units
  exact zag (st_par2 rfl hN (zaa (zb5 call_list_of ok_listL Y5 yb2) (zaa (ie_lstL (zad)) (zad)))) (zag (st_while (B := zcx) 4096 PassesOwn.never (it_ne hu (zac 2) (zch (zad))) (zao (st_expr (zdx (zac 3) (zaa (ie_popAt (zac 2) (zaa (zar (dts := []) (dvs := []) yn Yb hgd (by rfl) yx yy yo .nil Yp zbf (zaa (zac 0) (zaa (zbn call_len zcf Yb3 yf) (zad)))) (zad))) (zad)))))) (is_fz 3 (zao (zau (zac 3)))))
abbrev yo1 : List Str := ["_law_deal_here", "_law_some"]
theorem ym2 : FnScope yo1 ["_law_deal_here", "_law_some"] (defScope ylr) := by simp_all_arith
theorem yop (F : DG K "_law_pick" "_law_pick" ylr dfs kws f fd)
  (yf : mg "len" = none)
  {yr : Addr} {y6 : FuncData} (yn : FnG P w K mg base Yj 1 yr y6 ["_law_deal_here", "_law_wide"] Yhe)
  (yx : mg "_law_draw" = some (.ref yr)) (yy : PySem.W.keepIn K (.ref yr) = true)
  (yo : Binds K y6 ["_law_deal_here", "_law_wide"] []) :
  FnG P w K mg base Yj 2 f fd ["_law_deal_here", "_law_some"] (spM K w F_w_pick 2) :=
 okM (k := 1) F ym2 fun cdv A outer s H E hr hgd => by
  have hN := ym2.nd
  have hu := hr.units
  exact zao (zau (zam (zac 1) Ycv))
abbrev yo4 : List Str := ["_law_deal_here", "_law_deeds", "_law_more", "_law_found", "_law_deed", "_law_at"]
theorem yn0 : FnScope yo4 ["_law_deal_here", "_law_deeds", "_law_more"] (defScope ymv) := by simp_all_arith
theorem yov (F : DG K "_law_put" "_law_put" ymv dfs kws f fd)
  (yf : mg "len" = none)
  (yb2 : mg "list" = none)
  {yr : Addr} {y6 : FuncData} (yn : FnG P w K mg base Yj 1 yr y6 ["_law_deal_here", "_law_wide"] Yhe)
  (yx : mg "_law_draw" = some (.ref yr)) (yy : PySem.W.keepIn K (.ref yr) = true)
  (yo : Binds K y6 ["_law_deal_here", "_law_wide"] []) :
  FnG P w K mg base Yj 2 f fd ["_law_deal_here", "_law_deeds", "_law_more"] (spM K w F_w_put 3) :=
 okM (k := 1) F yn0 fun cdv A outer s H E hr hgd => by
  have hN := yn0.nd
  have hu := hr.units
  exact zag (za8 3 hN (zb5 call_list_of ok_listF Y5 yb2)) (zag (st_for (B := f_w_put_l1) PassesOwn.never rfl (zdo (zac 2)) Yd2 (zat 4) (zag (za8 5 hN (zar (dts := []) (dvs := []) yn Yb hgd (by rfl) yx yy yo .nil Yp zbf (zaa (zac 0) (zaa (zb9 Ybu (zak)) (zad))))) (zao (za8 3 hN (zb9 (zb9 (zce (zac 3) zd7 (zcn (zac 5))) (zch (zaa (zac 4) (zad)))) (zce (zac 3) (zcn (zac 5)) zd7)))))) (zao (zau (zac 3))))
abbrev yfs : List Str := ["_law_deal_here", "_law_called", "_law_counters", "_law_most", "_law_parts", "_law_found", "_law_more", "_law_part", "_law_turn"]
theorem ykc : FnScope yfs ["_law_deal_here", "_law_called", "_law_counters", "_law_most"] (defScope ycy) := by simp_all_arith
theorem yni (F : DG K "_law_glances" "_law_glances" ycy dfs kws f fd)
  (yf : mg "len" = none)
  (yex : mg "range" = none)
  {yfi : Addr} {yi4 : FuncData} (yfj : FnG P w K mg base Yj 2 yfi yi4 ["_law_deal_here", "_law_deeds", "_law_more"] (spM K w F_w_put 3))
  (ygb : mg "_law_put" = some (.ref yfi)) (ygc : PySem.W.keepIn K (.ref yfi) = true)
  (yfk : Binds K yi4 ["_law_deal_here", "_law_deeds", "_law_more"] [])
  {yr : Addr} {y6 : FuncData} (yn : FnG P w K mg base Yj 1 yr y6 ["_law_deal_here", "_law_wide"] Yhe)
  (yx : mg "_law_draw" = some (.ref yr)) (yy : PySem.W.keepIn K (.ref yr) = true)
  (yo : Binds K y6 ["_law_deal_here", "_law_wide"] [])
  {yls : Addr} {yn1 : FuncData} (yho : FnG P w K mg base Yj 2 yls yn1 ["_law_deal_here", "_law_some"] (spM K w F_w_pick 2))
  (yjk : mg "_law_pick" = some (.ref yls)) (yjl : PySem.W.keepIn K (.ref yls) = true)
  (yhp : Binds K yn1 ["_law_deal_here", "_law_some"] [])
  {yaf : Addr} {yb9 : FuncData} (yar : FnG P w K mg base Yj 2 yaf yb9 ["_law_deal_here", "_law_some"] (spM K w zb7 2))
  (ybm : mg "_law_mixed" = some (.ref yaf)) (ybn : PySem.W.keepIn K (.ref yaf) = true)
  (yas : Binds K yb9 ["_law_deal_here", "_law_some"] []) :
  FnG P w K mg base Yj 3 f fd ["_law_deal_here", "_law_called", "_law_counters", "_law_most"] (spM K w zdm 4) :=
 okM (k := 2) F ykc fun cdv A outer s H E hr hgd => by
  have hN := ykc.nd
  have hu := hr.units
  exact zag (za8 4 hN (zce (zar (dts := []) (dvs := []) yar Yb hgd (by rfl) ybm ybn yas .nil Yp zbf (zaa (zac 0) Y5)) zd7 (zcn (zb9 (zak) Ycv)))) (zag (za8 5 hN (zce (zbr (own := [("_law_part", 7)]) (T := mYes) (E := zcq) rfl hN (zdo (zac 4)) Yw (fun _ _ _ _ _ => pg_name (i := 7) hN rfl Yi) (zat 7) Y1 (fun _ _ _ _ _ => zdd (zaa (zal) (zaa (zac 7) (zad)))) za5) zd7 (zcn (zac 3)))) (zag (by first | exact st_comp (i := 6) (own := [("_law_turn", 8)]) (T := mYes) (E := zcr) rfl hN rfl rfl rfl (ii_rng1 (by rfl) yex (zaa (zar (dts := []) (dvs := []) yn (hr.mono (by decide)) hgd (by rfl) yx yy yo .nil (fun s => rfl) zbf (zaa (zac 0) (zaa (zak) (zad)))) (zad))) Yw (fun _ _ _ _ _ => pg_name (i := 8) hN rfl Yi) (zat 8) Y1 Ybv za5 | exact za8 6 hN (zbr (own := [("_law_turn", 8)]) (T := mYes) (E := zcr) rfl hN (ii_rng1 (by rfl) yex (zaa (zar (dts := []) (dvs := []) yn (hr.mono (by decide)) hgd (by rfl) yx yy yo .nil (fun s => rfl) zbf (zaa (zac 0) (zaa (zak) (zad)))) (zad))) Yw (fun _ _ _ _ _ => pg_name (i := 8) hN rfl Yi) (zat 8) Y1 Ybv za5)) (zao (zau (zar (dts := []) (dvs := []) yfj Yb hgd (by rfl) ygb ygc yfk .nil Yp zbf (zaa (zac 0) (zaa (zac 5) (zaa (zce (zac 6) zd7 (zcn (ie_sub (zac 3) (zbn call_len zcf Ygs yf)))) (zad)))))))))
abbrev ym3 : List Str := ["_law_deal_here", "_law_deeds", "_law_spots", "_law_found", "_law_at", "_law_late", "_law_deed"]
theorem ymd : FnScope ym3 ["_law_deal_here", "_law_deeds"] (defScope yhe) := by simp_all_arith
theorem yoe (F : DG K "_law_tests" "_law_tests" yhe dfs kws f fd)
  (yh3 : mg "enumerate" = none)
  {yaf : Addr} {yb9 : FuncData} (yar : FnG P w K mg base Yj 2 yaf yb9 ["_law_deal_here", "_law_some"] (spM K w zb7 2))
  (ybm : mg "_law_mixed" = some (.ref yaf)) (ybn : PySem.W.keepIn K (.ref yaf) = true)
  (yas : Binds K yb9 ["_law_deal_here", "_law_some"] [])
  {yr : Addr} {y6 : FuncData} (yn : FnG P w K mg base Yj 1 yr y6 ["_law_deal_here", "_law_wide"] Yhe)
  (yx : mg "_law_draw" = some (.ref yr)) (yy : PySem.W.keepIn K (.ref yr) = true)
  (yo : Binds K y6 ["_law_deal_here", "_law_wide"] []) :
  FnG P w K mg base Yj 3 f fd ["_law_deal_here", "_law_deeds"] (spM K w zd0 2) :=
 okM (k := 2) F ymd fun cdv A outer s H E hr hgd => by
  have hN := ymd.nd
  have hu := hr.units
  exact zag (st_par2 rfl hN (zaa (zbr (own := [("_law_at", 4), ("_law_deed", 6)]) (T := zct) (E := zcw) rfl hN (ii_en (by rfl) yh3 Y5) (by first | exact blkOk_by (N := ym3) (sc := defScope yhe) (by decide +kernel) | exact blkOk_by (by with_unfolding_all rfl) | exact blkOk_by (by decide +kernel +revert)) (fun _ _ _ _ _ => pg_tup rfl (pgs_cons Yd2 (pgs_cons (pg_name (i := 6) hN rfl Yi) (pgs_nil)))) (tg_tup (zcs (zat 4) (zcs (zat 6) (tgs_nil)))) (fun _ _ _ _ _ => its_one (it_eq hu (zam (zac 6) (zak)) (zal))) (fun _ _ _ _ _ => zac 4) za5) (zaa (ie_lstL (zad)) (zad)))) (zag (st_for (B := zdq) PassesOwn.never rfl (zdo (zac 2)) Yd2 (zat 4) (zag (zc1 (it_eq hu Yd5 (zak)) (zao (st_expr (zdx (zac 3) (zaa (zdd (zaa (zal) (zaa (zac 4) (zad)))) (zad))))) (zbe)) (zao (st_for (B := zcb) PassesOwn.never rfl (zdo (zac 2)) (pg_name (i := 5) hN rfl Yi) (zat 5) (zao (zc1 ((iw_and (it_gt (zac 5) (zac 4)) (iw_and (it_eq hu (zam (zac 1) (zac 5)) (zam (zac 1) (zac 4))) (zd4 (it_gt Yd5 (zak))))).it) (zao (st_expr (zdx (zac 3) (zaa (zdd (zaa (zal) (zaa (zac 4) Ygs))) (zad))))) (zbe))))))) (is_fz 3 (zao (zau (zce (zar (dts := []) (dvs := []) yar Yb hgd (by rfl) ybm ybn yas .nil Yp zbf (zaa (zac 0) (zaa (zac 3) (zad)))) zd7 (zcn (zak)))))))
abbrev yoq : List Str := ["_law_deal_here", "_law_size"]
theorem yla : FnScope yoq ["_law_deal_here", "_law_size"] (defScope yjh) := by simp_all_arith
theorem yn2 (F : DG K "_law_titles" "_law_titles" yjh dfs kws f fd)
  {yaf : Addr} {yb9 : FuncData} (yar : FnG P w K mg base Yj 2 yaf yb9 ["_law_deal_here", "_law_some"] (spM K w zb7 2))
  (ybm : mg "_law_mixed" = some (.ref yaf)) (ybn : PySem.W.keepIn K (.ref yaf) = true)
  (yas : Binds K yb9 ["_law_deal_here", "_law_some"] []) :
  FnG P w K mg base Yj 3 f fd ["_law_deal_here", "_law_size"] (spM K w zdt 2) :=
 okM (k := 2) F yla fun cdv A outer s H E hr hgd => by
  have hN := yla.nd
  have hu := hr.units
  exact zao (zau (zce (zar (dts := []) (dvs := []) yar Yb hgd (by rfl) ybm ybn yas .nil Yp zbf (zaa (zac 0) (zaa (zch (zaa (zal) (zaa (zal) (zaa (zal) (zaa (zal) (zaa (zal) (zaa (zal) Yau))))))) (zad)))) zd7 (zcn (zac 1))))
abbrev yi5 : List Str := ["_law_deeds", "_law_word", "_law_called"]
theorem yhq : FnScope yi5 ["_law_deeds"] (defScope ydj) := by simp_all_arith
theorem ylt (F : DG K "_law_deed_texts" "_law_deed_texts" ydj dfs kws f fd) :
  FnG P w K mg base Yj 1 f fd ["_law_deeds"] (spM K w za0 1) :=
 okP (k := 0) F yhq fun cdv A outer s H E hr hgd => by
  have hN := yhq.nd
  have hu := hr.units
  exact zao (zau (zbr (own := [("_law_word", 1), ("_law_called", 2)]) (T := mYes) (E := zbz) rfl hN (zdo (zac 0)) (by first | exact blkOk_by (N := yi5) (sc := defScope ydj) (by decide +kernel) | exact blkOk_by (by with_unfolding_all rfl) | exact blkOk_by (by decide +kernel +revert)) (fun _ _ _ _ _ => pg_tup rfl Yex) (tg_tup (zcs (zat 1) (zcs (zat 2) (tgs_nil)))) Y1 (fun _ _ _ _ _ => zb9 (zb9 (zac 1) (zal)) (zac 2)) za5))
abbrev yfl : List Str := ["_law_tests_here", "_law_part", "_law_test"]
theorem yhr : FnScope yfl ["_law_tests_here"] (defScope ybu) := by simp_all_arith
theorem ylu (F : DG K "_law_test_texts" "_law_test_texts" ybu dfs kws f fd)
  (y2 : mg "str" = none) :
  FnG P w K mg base Yj 1 f fd ["_law_tests_here"] (spM K w zaw 1) :=
 okP (k := 0) F yhr fun cdv A outer s H E hr hgd => by
  have hN := yhr.nd
  have hu := hr.units
  exact zao (zau (zbr (own := [("_law_test", 2)]) (T := mYes) (E := zb1) rfl hN (zdo (zac 0)) Ybb (fun _ _ _ _ _ => pg_name (i := 2) hN rfl Yi) (zat 2) Y1 (fun _ _ _ _ _ => ie_join (zal) (zbr (own := [("_law_part", 1)]) (T := mYes) (E := zbw) rfl hN (zdo (zac 2)) Ybb (fun _ _ _ _ _ => pg_name (i := 1) hN rfl Yi) (zat 1) Y1 (fun _ _ _ _ _ => zb5 call_strS ok_str Y5 y2) za5)) za5))
abbrev ym4 : List Str := ["value", "letter"]
theorem yme : FnScope ym4 ["value"] (defScope yhf) := by simp_all_arith
theorem yof (F : DG K "is_name" "is_name" yhf dfs kws f fd)
  (yk3 : mg "all" = none)
  (yi : mg "isinstance" = none)
  (y2 : mg "str" = none)
  (yf : mg "len" = none)
  {t_MOST_LETTERS : Tok} (yfm : mg "MOST_LETTERS" = some (.int (4) t_MOST_LETTERS))
  {t_LETTERS : Tok} (ykd : mg "LETTERS" = some (.str "abcdefghijklmnopqrstuvwxyz" t_LETTERS))
  (hT : IsTab K zd1)
  {yfc : Addr} {o_BARRED : Obj} {us_BARRED : List Value} {yjj : Nat} (ylv : mg "BARRED" = some (.ref yfc)) (lk_BARRED : K.lookup yfc = some o_BARRED) (yeo : o_BARRED.cls = .type "tuple") (yep : o_BARRED.dict = none) (oa_BARRED : o_BARRED.data = .seq us_BARRED.toArray yjj) (or_BARRED : Vals Yfm us_BARRED) (oz_BARRED : us_BARRED.length ≤ 1000) :
  FnG P w K mg base Yj 1 f fd ["value"] (spM K w zck 1) :=
 okP (k := 0) F yme fun cdv A outer s H E hr hgd => by
  have hN := yme.nd
  have hu := hr.units
  exact zag (zc1 ((iw_or Yar (iw_or (it_in hu (zac 0) (ie_globT ylv lk_BARRED yeo yep oa_BARRED or_BARRED oz_BARRED)) (iw_or1 (it_not (it_chain op_le ok_opC op_le ok_opC (zak) (zbn call_len zcf Yfd yf) (ie_glob (v := .int (4)) (by rfl) yfm ⟨_, rfl⟩ (fun s => by simp [Rw, Rf]))))))).it) Yc5 (zbe)) (zao (zau (zbn (cr_all rfl) ok_all (zaa (zbr (own := [("letter", 1)]) (T := mYes) (E := f_is_name_c1) rfl hN (ii_str (zac 0)) (by first | exact blkOk_by (N := ym4) (sc := defScope yhf) (by decide +kernel) | exact blkOk_by (by with_unfolding_all rfl) | exact blkOk_by (by decide +kernel +revert)) (fun _ _ _ _ _ => pg_name (i := 1) hN rfl Yi) (zat 1) Y1 (fun _ _ _ _ _ => ie_inS (zac 1) (ie_globS ykd)) za5) (zad)) yk3)))
abbrev ynj : List Str := ["value"]
theorem yi6 : FnScope ynj ["value"] (defScope yfx) := by simp_all_arith
theorem ymf (F : DG K "is_sequence" "is_sequence" yfx dfs kws f fd)
  (yi : mg "isinstance" = none)
  (yk : mg "tuple" = none)
  (yb2 : mg "list" = none)
  (hT : IsTab K zd1) :
  FnG P w K mg base Yj 1 f fd ["value"] (spM K w zbx 1) :=
 okP (k := 0) F yi6 fun cdv A outer s H E hr hgd => by
  have hN := yi6.nd
  have hu := hr.units
  exact zao (zau (zbn zdv (ok_isi hT) (zaa (zac 0) (zaa (zdd (zaa (ie_ty yb2 (by with_unfolding_all rfl)) (zaa (ie_ty yk (by with_unfolding_all rfl)) (zad)))) (zad))) yi))
abbrev yow : List Str := ["value", "words", "parts"]
theorem ymg : FnScope yow ["value", "words"] (defScope yj5) := by simp_all_arith
theorem yog (F : DG K "deed_in" "deed_in" yj5 dfs kws f fd)
  (yf : mg "len" = none)
  (yi : mg "isinstance" = none)
  (y2 : mg "str" = none)
  {yag : Addr} {yca : FuncData} (yat : FnG P w K mg base Yj 1 yag yca ["value"] (spM K w zck 1))
  (ybo : mg "is_name" = some (.ref yag)) (ybp : PySem.W.keepIn K (.ref yag) = true)
  (yau : Binds K yca ["value"] [])
  (hT : IsTab K zd1) :
  FnG P w K mg base Yj 2 f fd ["value", "words"] (spM K w F_deed_in 2) :=
 okP (k := 1) F ymg fun cdv A outer s H E hr hgd => by
  have hN := ymg.nd
  have hu := hr.units
  exact zag (zc1 Yar Yf6 (zbe)) (zag (za8 2 hN (ie_split (zac 0) (zal))) (zag (zc1 ((iw_or (it_ne hu (zbn call_len zcf Yb3 yf) (zak)) (iw_or (it_nin hu Yfe (zac 1)) (iw_or1 (it_not (it_tru (zar (dts := []) (dvs := []) yat Yb hgd (by rfl) ybo ybp yau .nil Yp zas (zaa Yfe (zad)))))))).it) Yf6 (zbe)) (zao (zau (zdd (zaa Yfe (zaa Yfe (zad))))))))
abbrev ye3 : List Str := ["value", "words", "found", "parts", "step", "deed"]
theorem ylb : FnScope ye3 ["value", "words"] (defScope ycb) := by simp_all_arith
theorem yn3 (F : DG K "deeds_in" "deeds_in" ycb dfs kws f fd)
  (yf : mg "len" = none)
  (yk4 : mg "set" = none)
  (yk : mg "tuple" = none)
  {yke : Addr} {ym5 : FuncData} (yf3 : FnG P w K mg base Yj 2 yke ym5 ["value", "words"] (spM K w F_deed_in 2))
  (yhs : mg "deed_in" = some (.ref yke)) (yht : PySem.W.keepIn K (.ref yke) = true)
  (yf4 : Binds K ym5 ["value", "words"] [])
  {yaq : Addr} {ycw : FuncData} (ya6 : FnG P w K mg base Yj 1 yaq ycw ["value"] (spM K w zbx 1))
  (ybj : mg "is_sequence" = some (.ref yaq)) (ybk : PySem.W.keepIn K (.ref yaq) = true)
  (ya7 : Binds K ycw ["value"] []) :
  FnG P w K mg base Yj 3 f fd ["value", "words"] (spM K w zdb 2) :=
 okP (k := 2) F ylb fun cdv A outer s H E hr hgd => by
  have hN := ylb.nd
  have hu := hr.units
  exact zag Yb6 (zag (by first | exact st_comp (i := 2) (own := [("step", 4)]) (T := mYes) (E := zcl) rfl hN rfl rfl rfl (zdo (zac 0)) (by first | exact blkOk_by (N := ye3) (sc := defScope ycb) (by decide +kernel) | exact blkOk_by (by with_unfolding_all rfl) | exact blkOk_by (by decide +kernel +revert)) (fun _ _ _ _ _ => pg_name (i := 4) hN rfl Yi) (zat 4) Y1 Ydr za5 | exact za8 2 hN (zbr (own := [("step", 4)]) (T := mYes) (E := zcl) rfl hN (zdo (zac 0)) (by first | exact blkOk_by (N := ye3) (sc := defScope ycb) (by decide +kernel) | exact blkOk_by (by with_unfolding_all rfl) | exact blkOk_by (by decide +kernel +revert)) (fun _ _ _ _ _ => pg_name (i := 4) hN rfl Yi) (zat 4) Y1 Ydr za5)) (zag (by first | exact st_comp (i := 3) (own := [("deed", 5)]) (T := zbv) (E := zby) rfl hN rfl rfl rfl (zdo (zac 2)) (by first | exact blkOk_by (N := ye3) (sc := defScope ycb) (by decide +kernel) | exact blkOk_by (by with_unfolding_all rfl) | exact blkOk_by (by decide +kernel +revert)) (fun _ _ _ _ _ => pg_name (i := 5) hN rfl Yi) (zat 5) Yct (fun _ _ _ _ _ => zam (zac 5) (zak)) za5 | exact za8 3 hN (zbr (own := [("deed", 5)]) (T := zbv) (E := zby) rfl hN (zdo (zac 2)) (by first | exact blkOk_by (N := ye3) (sc := defScope ycb) (by decide +kernel) | exact blkOk_by (by with_unfolding_all rfl) | exact blkOk_by (by decide +kernel +revert)) (fun _ _ _ _ _ => pg_name (i := 5) hN rfl Yi) (zat 5) Yct (fun _ _ _ _ _ => zam (zac 5) (zak)) za5)) (zao (zau (ie_if ((iw_or (it_in hu (zbi) (zac 2)) (iw_or1 (it_ne hu (ie_lenSet rfl yf yk4 (zac 3)) Ybu))).it) (zbi) Yhf)))))
abbrev ylc : List Str := ["word", "digits", "sign"]
theorem ykf : FnScope ylc ["word", "digits"] (defScope yfq) := by simp_all_arith
theorem ynk (F : DG K "number_in" "number_in" yfq dfs kws f fd)
  (ydd : mg "int" = none)
  (yf : mg "len" = none)
  (yk3 : mg "all" = none)
  {t_DIGITS : Tok} (ylw : mg "DIGITS" = some (.str "0123456789" t_DIGITS)) :
  FnG P w K mg base Yj 1 f fd ["word", "digits"] (spM K w zdf 2) :=
 okP (k := 0) F ykf fun cdv A outer s H E hr hgd => by
  have hN := ykf.nd
  have hu := hr.units
  exact zag (zc1 ((iw_or (it_not (it_chain op_le ok_opC op_le ok_opC (zak) (zbn call_len zcf Yfd yf) (zac 1))) (iw_or1 (it_not (it_tru (zbn (cr_all rfl) ok_all (zaa (zbr (own := [("sign", 2)]) (T := mYes) (E := f_number_in_c1) rfl hN (ii_str (zac 0)) (by first | exact blkOk_by (N := ylc) (sc := defScope yfq) (by decide +kernel) | exact blkOk_by (by with_unfolding_all rfl) | exact blkOk_by (by decide +kernel +revert)) (fun _ _ _ _ _ => pg_name (i := 2) hN rfl Yi) (zat 2) Y1 (fun _ _ _ _ _ => ie_inS (zac 2) (ie_globS ylw)) za5) (zad)) yk3))))).it) Yf6 (zbe)) (zao (zau (ie_if ((iw_and (it_eq hu Yay (zal)) (zd4 (it_ne hu (zac 0) (zal)))).it) (zbi) (zb5 call_int_str ok_intS Yfd ydd))))
abbrev yox : List Str := ["word", "deeds", "at"]
theorem ymh : FnScope yox ["word", "deeds"] (defScope yj6) := by simp_all_arith
theorem yoh (F : DG K "spot_in" "spot_in" yj6 dfs kws f fd)
  (yf : mg "len" = none)
  {t_MOST_DIGITS : Tok} (yfy : mg "MOST_DIGITS" = some (.int (9) t_MOST_DIGITS))
  {yh4 : Addr} {yle : FuncData} (yg4 : FnG P w K mg base Yj 1 yh4 yle ["word", "digits"] (spM K w zdf 2))
  (yh5 : mg "number_in" = some (.ref yh4)) (yh6 : PySem.W.keepIn K (.ref yh4) = true)
  (yg5 : Binds K yle ["word", "digits"] []) :
  FnG P w K mg base Yj 2 f fd ["word", "deeds"] (spM K w zdg 2) :=
 okP (k := 1) F ymh fun cdv A outer s H E hr hgd => by
  have hN := ymh.nd
  have hu := hr.units
  exact zag (za8 2 hN (zar (dts := []) (dvs := []) yg4 Yb hgd (by rfl) yh5 yh6 yg5 .nil Yp zas (zaa (zac 0) (zaa (ie_glob (v := .int (9)) (by rfl) yfy ⟨_, rfl⟩ (fun s => by simp [Rw, Rf])) (zad))))) (zao (zau (ie_if ((iw_and (it_notN (zac 2) (zbi)) (iw_and (it_ltA (zac 2) (zbn call_len zcf Y5 yf)) (zd4 (it_eq hu (zam (zam (zac 1) (zac 2)) (zak)) (zal))))).it) (zac 2) (zbi))))
abbrev ykg : List Str := ["value", "deeds", "parts", "spots", "part"]
theorem ymi : FnScope ykg ["value", "deeds"] (defScope yfv) := by simp_all_arith
theorem yoi (F : DG K "test_in" "test_in" yfv dfs kws f fd)
  (yf : mg "len" = none)
  (yi : mg "isinstance" = none)
  (y2 : mg "str" = none)
  {ykh : Addr} {ym6 : FuncData} (yf5 : FnG P w K mg base Yj 2 ykh ym6 ["word", "deeds"] (spM K w zdg 2))
  (yhu : mg "spot_in" = some (.ref ykh)) (yhv : PySem.W.keepIn K (.ref ykh) = true)
  (yf6 : Binds K ym6 ["word", "deeds"] [])
  (hT : IsTab K zd1) :
  FnG P w K mg base Yj 3 f fd ["value", "deeds"] (spM K w F_test_in 2) :=
 okP (k := 2) F ymi fun cdv A outer s H E hr hgd => by
  have hN := ymi.nd
  have hu := hr.units
  exact zag (zc1 Yar Yf6 (zbe)) (zag (za8 2 hN (ie_split (zac 0) (zal))) (zag (by first | exact st_comp (i := 3) (own := [("part", 4)]) (T := mYes) (E := zbd) rfl hN rfl rfl rfl (zdo (zce (zac 2) (zcn (zak)) zd7)) (by first | exact blkOk_by (N := ykg) (sc := defScope yfv) (by decide +kernel) | exact blkOk_by (by with_unfolding_all rfl) | exact blkOk_by (by decide +kernel +revert)) (fun _ _ _ _ _ => pg_name (i := 4) hN rfl Yi) (zat 4) Y1 Yds za5 | exact za8 3 hN (zbr (own := [("part", 4)]) (T := mYes) (E := zbd) rfl hN (zdo (zce (zac 2) (zcn (zak)) zd7)) (by first | exact blkOk_by (N := ykg) (sc := defScope yfv) (by decide +kernel) | exact blkOk_by (by with_unfolding_all rfl) | exact blkOk_by (by decide +kernel +revert)) (fun _ _ _ _ _ => pg_name (i := 4) hN rfl Yi) (zat 4) Y1 Yds za5)) (zag (zc1 (it_in hu (zbi) (zac 3)) Yf6 (zbe)) (zag (zc1 ((iw_and (it_eq hu Yfe (zal)) (zd4 (it_eq hu Ybu (zak)))).it) (zao (zau (zdd (zaa (zal) (zaa Yed (zad)))))) (zbe)) (zag (zc1 ((iw_or (it_ne hu Yfe (zal)) (iw_or (it_ne hu Ybu (zak)) (iw_or1 (it_ge Yed Yed)))).it) Yf6 (zbe)) (zao (zau (ie_if (it_eq hu (zam (zam (zac 1) Yed) (zak)) (zam (zam (zac 1) Yed) (zak))) (zdd (zaa (zal) (zaa Yed (zaa Yed (zad))))) (zbi)))))))))
abbrev yjm : List Str := ["value", "deeds", "found", "check"]
theorem ylf : FnScope yjm ["value", "deeds"] (defScope yey) := by simp_all_arith
theorem yn4 (F : DG K "tests_in" "tests_in" yey dfs kws f fd)
  (yf : mg "len" = none)
  (yk4 : mg "set" = none)
  (yk : mg "tuple" = none)
  {yki : Addr} {ym7 : FuncData} (yf7 : FnG P w K mg base Yj 3 yki ym7 ["value", "deeds"] (spM K w F_test_in 2))
  (yhw : mg "test_in" = some (.ref yki)) (yhx : PySem.W.keepIn K (.ref yki) = true)
  (yf8 : Binds K ym7 ["value", "deeds"] [])
  {yaq : Addr} {ycw : FuncData} (ya6 : FnG P w K mg base Yj 1 yaq ycw ["value"] (spM K w zbx 1))
  (ybj : mg "is_sequence" = some (.ref yaq)) (ybk : PySem.W.keepIn K (.ref yaq) = true)
  (ya7 : Binds K ycw ["value"] []) :
  FnG P w K mg base Yj 4 f fd ["value", "deeds"] (spM K w zco 2) :=
 okP (k := 3) F ylf fun cdv A outer s H E hr hgd => by
  have hN := ylf.nd
  have hu := hr.units
  exact zag Yb6 (zag (by first | exact st_comp (i := 2) (own := [("check", 3)]) (T := mYes) (E := zcm) rfl hN rfl rfl rfl (zdo (zac 0)) (by first | exact blkOk_by (N := yjm) (sc := defScope yey) (by decide +kernel) | exact blkOk_by (by with_unfolding_all rfl) | exact blkOk_by (by decide +kernel +revert)) (fun _ _ _ _ _ => pg_name (i := 3) hN rfl Yi) (zat 3) Y1 Ydt za5 | exact za8 2 hN (zbr (own := [("check", 3)]) (T := mYes) (E := zcm) rfl hN (zdo (zac 0)) (by first | exact blkOk_by (N := yjm) (sc := defScope yey) (by decide +kernel) | exact blkOk_by (by with_unfolding_all rfl) | exact blkOk_by (by decide +kernel +revert)) (fun _ _ _ _ _ => pg_name (i := 3) hN rfl Yi) (zat 3) Y1 Ydt za5)) (zao (zau (ie_if ((iw_or (it_in hu (zbi) (zac 2)) (iw_or1 (it_ne hu (ie_lenSetT rfl hu yf yk4 (zac 2)) (zbn call_len zcf Yb3 yf)))).it) (zbi) Yhf))))
abbrev yjz : List Str := ["self", "name", "steps", "checks", "deeds", "tests", "word", "part"]
theorem yi7 : FnScope yjz ["self", "name", "steps", "checks"] (defScope yh) := by simp_all_arith
theorem ymj (F : DG K "__init__" "Reader.__init__" yh dfs kws f fd)
  (yk : mg "tuple" = none)
  {yjn : Addr} {ymk : FuncData} (yh7 : FnG P w K mg base Yj 4 yjn ymk ["value", "deeds"] (spM K w zco 2))
  (yjo : mg "tests_in" = some (.ref yjn)) (yjp : PySem.W.keepIn K (.ref yjn) = true)
  (yh8 : Binds K ymk ["value", "deeds"] [])
  {ycv : Addr} {ye4 : FuncData} (yc2 : FnG P w K mg base Yj 3 ycv ye4 ["value", "words"] (spM K w zdb 2))
  (yd8 : mg "deeds_in" = some (.ref ycv)) (yd9 : PySem.W.keepIn K (.ref ycv) = true)
  (yc3 : Binds K ye4 ["value", "words"] [])
  {yag : Addr} {yca : FuncData} (yat : FnG P w K mg base Yj 1 yag yca ["value"] (spM K w zck 1))
  (ybo : mg "is_name" = some (.ref yag)) (ybp : PySem.W.keepIn K (.ref yag) = true)
  (yau : Binds K yca ["value"] [])
  (yh9 : ∀ c ∈ (["Reader"] : List Str), FldOk K c "tests")
  (y1 : ∀ c ∈ (["Kind", "Reader"] : List Str), FldOk K c "deeds")
  (yz : ∀ c ∈ (["Reader"] : List Str), FldOk K c "checks")
  (ym : ∀ c ∈ (["Kind", "Reader"] : List Str), FldOk K c "steps")
  (yp : ∀ c ∈ (["Kind", "Reader"] : List Str), FldOk K c "name")
  {yb y5 : Addr} {yml : FuncData} (yc : XF P w K mg base "InvalidReader" yb y5 yml ["self", "word"] "word")
  {yaw : Addr} {o_READER_WORDS : Obj} {us_READER_WORDS : List Value} {yd3 : Nat} (yfn : mg "READER_WORDS" = some (.ref yaw)) (lk_READER_WORDS : K.lookup yaw = some o_READER_WORDS) (yah : o_READER_WORDS.cls = .type "tuple") (yai : o_READER_WORDS.dict = none) (oa_READER_WORDS : o_READER_WORDS.data = .seq us_READER_WORDS.toArray yd3) (or_READER_WORDS : Vals ((["read", "look"] : List Str).map V.str) us_READER_WORDS) (oz_READER_WORDS : us_READER_WORDS.length ≤ 1000) :
  FnG P w K mg base (L2N.CX P w) 5 f fd ["self", "name", "steps", "checks"] (spX K w zah 4) :=
 okX (k := 4) F yi7 fun cdv A outer s H E hr hgd => by
  have hN := yi7.nd
  have hu := hr.units
  exact zag (zc1 Yel Ybp (zbe)) (zag (za8 4 hN (zar (dts := []) (dvs := []) yc2 Yb hgd (by rfl) yd8 yd9 yc3 .nil Yp zas (zaa (zac 2) (zaa (ie_globT yfn lk_READER_WORDS yah yai oa_READER_WORDS or_READER_WORDS oz_READER_WORDS) (zad))))) (zag (zc1 ((iw_or (it_isN (zac 4) (zbi)) (iw_or1 (it_nin hu (zal) (zbr (own := [("word", 6), ("part", 7)]) (T := mYes) (E := zbg) rfl hN (zdo (zac 4)) (by first | exact blkOk_by (N := yjz) (sc := defScope yh) (by decide +kernel) | exact blkOk_by (by with_unfolding_all rfl) | exact blkOk_by (by decide +kernel +revert)) (fun _ _ _ _ _ => pg_tup rfl (pgs_cons (pg_name (i := 6) hN rfl Yi) (pgs_cons (pg_name (i := 7) hN rfl Yi) (pgs_nil)))) (tg_tup (zcs (zat 6) (zcs (zat 7) (tgs_nil)))) Y1 (fun _ _ _ _ _ => zac 6) za5)))).it) Ybp (zbe)) (zag (za8 5 hN (zar (dts := []) (dvs := []) yh7 Yb hgd (by rfl) yjo yjp yh8 .nil Yp zas (zaa (zac 3) (zaa (zac 4) (zad))))) (zag (zc1 (it_isN (zac 5) (zbi)) Ybp (zbe)) (zag (st_fld yp (zac 0) (zac 1)) (zag (st_fld ym (zac 0) Yhf) (zag (st_fld yz (zac 0) (zb5 zbs ok_tup (zaa (zac 3) (zad)) yk)) (zag (st_fld y1 (zac 0) (zac 4)) (zao (st_fld yh9 (zac 0) (zac 5)))))))))))
abbrev yi8 : List Str := ["self", "word", "part"]
theorem yhy : FnScope yi8 ["self"] (defScope ydk) := by simp_all_arith
theorem ylx (F : DG K "reads" "Reader.reads" ydk dfs kws f fd)
  (yk : mg "tuple" = none)
  (y1 : ∀ c ∈ (["Kind", "Reader"] : List Str), FldOk K c "deeds") :
  FnG P w K mg base Yj 1 f fd ["self"] (spM K w za4 1) :=
 okP (k := 0) F yhy fun cdv A outer s H E hr hgd => by
  have hN := yhy.nd
  have hu := hr.units
  exact zao (zau (zb5 zbs ok_tup (zaa (zbr (own := [("word", 1), ("part", 2)]) (T := zbc) (E := zb0) rfl hN (zdo (zdy y1 (zac 0))) (by first | exact blkOk_by (N := yi8) (sc := defScope ydk) (by decide +kernel) | exact blkOk_by (by with_unfolding_all rfl) | exact blkOk_by (by decide +kernel +revert)) (fun _ _ _ _ _ => pg_tup rfl Yex) (tg_tup (zcs (zat 1) (zcs (zat 2) (tgs_nil)))) (fun _ _ _ _ _ => its_one (it_eq hu (zac 1) (zal))) (fun _ _ _ _ _ => zac 2) za5) (zad)) yk))
abbrev yn5 : List Str := ["self"]
theorem yj0 : FnScope yn5 ["self"] (defScope ygd) := by simp_all_arith
theorem ymw (F : DG K "__len__" "Reader.__len__" ygd dfs kws f fd)
  (yf : mg "len" = none)
  (y1 : ∀ c ∈ (["Kind", "Reader"] : List Str), FldOk K c "deeds") :
  FnG P w K mg base Yj 1 f fd ["self"] (spM K w zbu 1) :=
 okP (k := 0) F yj0 fun cdv A outer s H E hr hgd => by
  have hN := yj0.nd
  have hu := hr.units
  exact zao (zau (zbn call_len zcf (zaa (zdy y1 (zac 0)) (zad)) yf))
abbrev yn6 : List Str := ["self", "steps", "checks"]
theorem yj1 : FnScope yn6 ["self"] (defScope yge) := by simp_all_arith
theorem ymx (F : DG K "__str__" "Reader.__str__" yge dfs kws f fd)
  (yf : mg "len" = none)
  (yp : ∀ c ∈ (["Kind", "Reader"] : List Str), FldOk K c "name")
  (yz : ∀ c ∈ (["Reader"] : List Str), FldOk K c "checks")
  (ym : ∀ c ∈ (["Kind", "Reader"] : List Str), FldOk K c "steps") :
  FnG P w K mg base Yj 1 f fd ["self"] (spM K w zaf 1) :=
 okP (k := 0) F yj1 fun cdv A outer s H E hr hgd => by
  have hN := yj1.nd
  have hu := hr.units
  exact zag (st_par2 rfl hN (zaa (ie_join (zal) (zdy ym (zac 0))) (zaa (ie_join (zal) (zdy yz (zac 0))) (zad)))) (zag (zc1 (it_eq hu (zbn call_len zcf (zaa (zdy yz (zac 0)) (zad)) yf) (zak)) Ydh (zbe)) (zao (zau (ie_joined (zcd (zal) (zcd (ie_fmt (zdy yp (zac 0))) (zcd (zal) (zcd (ie_fmt (zac 1)) (zcd (zal) (zcd (ie_fmt (zac 2)) (ij_nil)))))))))))
abbrev ymm : List Str := ["_law_reader", "_law_tail"]
theorem yg6 : FnScope ymm ["_law_reader"] (defScope yez) := by simp_all_arith
theorem yk5 (F : DG K "_law_reader_text" "_law_reader_text" yez dfs kws f fd)
  {yac : Addr} {yb3 : FuncData} (yam : FnG P w K mg base Yj 1 yac yb3 ["_law_deeds"] (spM K w za0 1))
  (ya8 : mg "_law_deed_texts" = some (.ref yac)) (ya9 : PySem.W.keepIn K (.ref yac) = true)
  (yan : Binds K yb3 ["_law_deeds"] [])
  {yad : Addr} {yb4 : FuncData} (yao : FnG P w K mg base Yj 1 yad yb4 ["_law_tests_here"] (spM K w zaw 1))
  (yba : mg "_law_test_texts" = some (.ref yad)) (ybb : PySem.W.keepIn K (.ref yad) = true)
  (yap : Binds K yb4 ["_law_tests_here"] []) :
  FnG P w K mg base Yj 2 f fd ["_law_reader"] (spM K w za1 1) :=
 okP (k := 1) F yg6 fun cdv A outer s H E hr hgd => by
  have hN := yg6.nd
  have hu := hr.units
  exact zag (za8 1 hN (ie_if (it_ne hu Yay (zch (zad))) (zb9 (zal) (ie_join (zal) (zar (dts := []) (dvs := []) yao Yb hgd (by rfl) yba ybb yap .nil Yp zas (zaa Yay (zad))))) (zal))) (zao (zau (zb9 (zb9 (zb9 (zb9 (zal) Yay) (zal)) (ie_join (zal) (zar (dts := []) (dvs := []) yam Yb hgd (by rfl) ya8 ya9 yan .nil Yp zas (zaa Yay (zad))))) (zac 1))))
abbrev yoj : List Str := ["self", "other"]
theorem ykj : FnScope yoj ["self", "other"] (defScope yh1) := by simp_all_arith
theorem ynl (F : DG K "__eq__" "Reader.__eq__" yh1 dfs kws f fd)
  (y2 : mg "str" = none)
  (yi : mg "isinstance" = none)
  {ya : Addr} (yg : ClsF K mg "Reader" ya)
  {ydg : Addr} {ydh : FuncData} (yt : FnG P w K mg base Yj 1 ydg ydh ["self"] (spM K w zaf 1))
  (yu : Meth K ya "__str__" ydg)
  (hT : IsTab K zd1)
  (y0 : Binds K ydh ["self"] []) :
  FnG P w K mg base Yj 4 f fd ["self", "other"] (spM K w zaj 2) :=
 okP (k := 3) F ykj fun cdv A outer s H E hr hgd => by
  have hN := ykj.nd
  have hu := hr.units
  exact zao (zau (ie_and (zbn zdv (ok_isi hT) (zaa (zac 1) (zaa (ie_cls yg.cn yg.mg) (zad))) yi) (ie_one (ie_eq hu (zb5 Ybl zd9 Yfd y2) (zb5 Ybl zd9 Y5 y2)))))
abbrev yor : List Str := ["self", "steps"]
theorem ylg : FnScope yor ["self"] (defScope yji) := by simp_all_arith
theorem yn7 (F : DG K "__str__" "Kind.__str__" yji dfs kws f fd)
  (yp : ∀ c ∈ (["Kind", "Reader"] : List Str), FldOk K c "name")
  (ym : ∀ c ∈ (["Kind", "Reader"] : List Str), FldOk K c "steps") :
  FnG P w K mg base Yj 1 f fd ["self"] (spM K w zc9 1) :=
 okP (k := 0) F ylg fun cdv A outer s H E hr hgd => by
  have hN := ylg.nd
  have hu := hr.units
  exact zag (za8 1 hN (ie_join (zal) (zdy ym (zac 0)))) Ydh
abbrev yoy : List Str := ["self", "other"]
theorem ymn : FnScope yoy ["self", "other"] (defScope yj7) := by simp_all_arith
theorem yok (F : DG K "__eq__" "Kind.__eq__" yj7 dfs kws f fd)
  (y2 : mg "str" = none)
  (yi : mg "isinstance" = none)
  {ye : Addr} (ycx : ClsF K mg "Kind" ye)
  {ymo : Addr} {ymp : FuncData} (yft : FnG P w K mg base Yj 1 ymo ymp ["self"] (spM K w zc9 1))
  (yfu : Meth K ye "__str__" ymo)
  (hT : IsTab K zd1)
  (yf9 : Binds K ymp ["self"] []) :
  FnG P w K mg base Yj 4 f fd ["self", "other"] (spM K w zdh 2) :=
 okP (k := 3) F ymn fun cdv A outer s H E hr hgd => by
  have hN := ymn.nd
  have hu := hr.units
  exact zao (zau (ie_and (zbn zdv (ok_isi hT) (zaa (zac 1) (zaa (ie_cls ycx.cn ycx.mg) (zad))) yi) (ie_one (ie_eq hu (zb5 Ye9 zd9 Yfd y2) (zb5 Ye9 zd9 Y5 y2)))))
abbrev yol : List Str := ["self", "name", "steps", "deeds"]
theorem ykk : FnScope yol ["self", "name", "steps"] (defScope yh2) := by simp_all_arith
theorem ynm (F : DG K "__init__" "Kind.__init__" yh2 dfs kws f fd)
  (yk : mg "tuple" = none)
  (yf : mg "len" = none)
  {ycv : Addr} {ye4 : FuncData} (yc2 : FnG P w K mg base Yj 3 ycv ye4 ["value", "words"] (spM K w zdb 2))
  (yd8 : mg "deeds_in" = some (.ref ycv)) (yd9 : PySem.W.keepIn K (.ref ycv) = true)
  (yc3 : Binds K ye4 ["value", "words"] [])
  {yag : Addr} {yca : FuncData} (yat : FnG P w K mg base Yj 1 yag yca ["value"] (spM K w zck 1))
  (ybo : mg "is_name" = some (.ref yag)) (ybp : PySem.W.keepIn K (.ref yag) = true)
  (yau : Binds K yca ["value"] [])
  (y1 : ∀ c ∈ (["Kind", "Reader"] : List Str), FldOk K c "deeds")
  (ym : ∀ c ∈ (["Kind", "Reader"] : List Str), FldOk K c "steps")
  (yp : ∀ c ∈ (["Kind", "Reader"] : List Str), FldOk K c "name")
  {yd y7 : Addr} {ynn : FuncData} (yj : XF P w K mg base "InvalidKind" yd y7 ynn ["self", "word"] "word")
  {yax : Addr} {o_WRITER_WORDS : Obj} {us_WRITER_WORDS : List Value} {yd4 : Nat} (yfo : mg "WRITER_WORDS" = some (.ref yax)) (lk_WRITER_WORDS : K.lookup yax = some o_WRITER_WORDS) (yaj : o_WRITER_WORDS.cls = .type "tuple") (yak : o_WRITER_WORDS.dict = none) (oa_WRITER_WORDS : o_WRITER_WORDS.data = .seq us_WRITER_WORDS.toArray yd4) (or_WRITER_WORDS : Vals ((["write", "bump"] : List Str).map V.str) us_WRITER_WORDS) (oz_WRITER_WORDS : us_WRITER_WORDS.length ≤ 1000) :
  FnG P w K mg base (L2N.CX P w) 4 f fd ["self", "name", "steps"] (spX K w zbt 3) :=
 okX (k := 3) F ykk fun cdv A outer s H E hr hgd => by
  have hN := ykk.nd
  have hu := hr.units
  exact zag (zc1 Yel Ydc (zbe)) (zag (za8 3 hN (zar (dts := []) (dvs := []) yc2 Yb hgd (by rfl) yd8 yd9 yc3 .nil Yp zas (zaa (zac 2) (zaa (ie_globT yfo lk_WRITER_WORDS yaj yak oa_WRITER_WORDS or_WRITER_WORDS oz_WRITER_WORDS) (zad))))) (zag (zc1 ((iw_or (it_isN (zac 3) (zbi)) (iw_or1 (it_eq hu Ybu (zak)))).it) Ydc (zbe)) (zag (st_fld yp (zac 0) (zac 1)) (zag (st_fld ym (zac 0) Yhf) (zao (st_fld y1 (zac 0) (zac 3)))))))
abbrev yo2 : List Str := ["_law_script", "_law_spot", "_law_deal_here", "_law_before", "_law_turn", "_law_deeds", "_law_tests_here", "_law_title", "_law_steps", "_law_checks", "_law_handed", "_law_made", "_law_parts", "_law_word", "_law_part"]
theorem yoz : FnScope yo2 ["_law_script"] (defScope yno) := by simp_all_arith
theorem yo5 (F : DG K "law" "law" yno dfs kws f fd)
  (y2 : mg "str" = none)
  (yex : mg "range" = none)
  (yos : mg "max" = none)
  (yny : mg "min" = none)
  (yf : mg "len" = none)
  (yk : mg "tuple" = none)
  (yi9 : mg "repr" = none)
  (yb2 : mg "list" = none)
  {ye5 : Addr} {yhz : FuncData} (yek : FnG P w K mg base Yj 2 ye5 yhz ["_law_reader"] (spM K w za1 1))
  (ye6 : mg "_law_reader_text" = some (.ref ye5)) (ye7 : PySem.W.keepIn K (.ref ye5) = true)
  (yel : Binds K yhz ["_law_reader"] [])
  {yad : Addr} {yb4 : FuncData} (yao : FnG P w K mg base Yj 1 yad yb4 ["_law_tests_here"] (spM K w zaw 1))
  (yba : mg "_law_test_texts" = some (.ref yad)) (ybb : PySem.W.keepIn K (.ref yad) = true)
  (yap : Binds K yb4 ["_law_tests_here"] [])
  {yac : Addr} {yb3 : FuncData} (yam : FnG P w K mg base Yj 1 yac yb3 ["_law_deeds"] (spM K w za0 1))
  (ya8 : mg "_law_deed_texts" = some (.ref yac)) (ya9 : PySem.W.keepIn K (.ref yac) = true)
  (yan : Binds K yb3 ["_law_deeds"] [])
  {yjq : Addr} {ymq : FuncData} (yia : FnG P w K mg base Yj 3 yjq ymq ["_law_deal_here", "_law_size"] (spM K w zdt 2))
  (yjr : mg "_law_titles" = some (.ref yjq)) (yjs : PySem.W.keepIn K (.ref yjq) = true)
  (yib : Binds K ymq ["_law_deal_here", "_law_size"] [])
  {ykl : Addr} {ym8 : FuncData} (yjt : FnG P w K mg base Yj 3 ykl ym8 ["_law_deal_here", "_law_deeds"] (spM K w zd0 2))
  (ykm : mg "_law_tests" = some (.ref ykl)) (ykn : PySem.W.keepIn K (.ref ykl) = true)
  (yju : Binds K ym8 ["_law_deal_here", "_law_deeds"] [])
  {yfi : Addr} {yi4 : FuncData} (yfj : FnG P w K mg base Yj 2 yfi yi4 ["_law_deal_here", "_law_deeds", "_law_more"] (spM K w F_w_put 3))
  (ygb : mg "_law_put" = some (.ref yfi)) (ygc : PySem.W.keepIn K (.ref yfi) = true)
  (yfk : Binds K yi4 ["_law_deal_here", "_law_deeds", "_law_more"] [])
  {yic : Addr} {ylh : FuncData} (yg7 : FnG P w K mg base Yj 3 yic ylh ["_law_deal_here", "_law_called", "_law_counters", "_law_most"] (spM K w zdm 4))
  (yid : mg "_law_glances" = some (.ref yic)) (yie : PySem.W.keepIn K (.ref yic) = true)
  (yg8 : Binds K ylh ["_law_deal_here", "_law_called", "_law_counters", "_law_most"] [])
  {yly : Addr} {yn8 : FuncData} (yko : FnG P w K mg base Yj 1 yly yn8 ["_law_script", "_law_base"] (spM K w F_w_deal 2))
  (ylz : mg "_law_deal" = some (.ref yly)) (yl0 : PySem.W.keepIn K (.ref yly) = true)
  (ykp : Binds K yn8 ["_law_script", "_law_base"] [])
  {ya : Addr} (yg : ClsF K mg "Reader" ya)
  {ye : Addr} (ycx : ClsF K mg "Kind" ye)
  {yj2 : Addr} {yfz : FuncData} (yae : FnG P w K mg base (L2N.CX P w) 5 yj2 yfz ["self", "name", "steps", "checks"] (spX K w zah 4))
  {ydg : Addr} {ydh : FuncData} (yt : FnG P w K mg base Yj 1 ydg ydh ["self"] (spM K w zaf 1))
  {yli : Addr} {ylj : FuncData} (yb5 : FnG P w K mg base Yj 4 yli ylj ["self", "other"] (spM K w zaj 2))
  {ylk : Addr} {yll : FuncData} (yg9 : FnG P w K mg base (L2N.CX P w) 4 ylk yll ["self", "name", "steps"] (spX K w zbt 3))
  {ym9 : Addr} {yna : FuncData} (yjv : FnG P w K mg base Yj 4 ym9 yna ["self", "other"] (spM K w zdh 2))
  {ykq : Addr} {ykr : FuncData} (yf0 : FnG P w K mg base Yj 1 ykq ykr ["self"] (spM K w zbu 1))
  {yja : Addr} {yjb : FuncData} (ye8 : FnG P w K mg base Yj 1 yja yjb ["self"] (spM K w za4 1))
  (yem : Mk K ya yj2)
  (yu : Meth K ya "__str__" ydg)
  (yz : ∀ c ∈ (["Reader"] : List Str), FldOk K c "checks")
  (yb6 : Meth K ya "__eq__" yli)
  (nn_Reader : PySem.W.findIn K Ya4 "__ne__" = some (some Ybg)) (no_Reader : PySem.W.mroIn K ya Yek = some true)
  (yn9 : Mk K ye ylk)
  (yjw : Meth K ye "__eq__" ym9)
  (ss_Kind : PySem.W.subIn K Yby Ycf = some false) (st_Kind : PySem.W.subIn K Yby Yb0 = some false) (sn_Kind : PySem.W.subIn K Yby Ybx = some false)
  (ss_Reader : PySem.W.subIn K Ya4 Ycf = some false) (st_Reader : PySem.W.subIn K Ya4 Yb0 = some false) (sn_Reader : PySem.W.subIn K Ya4 Ybx = some false)
  (sb_Reader_Kind : PySem.W.subIn K Ya4 Yby = some false) (sb_Kind_Reader : PySem.W.subIn K Yby Ya4 = some false) (ne_Reader_Kind : ya ≠ ye)
  (yf1 : Meth K ya "__len__" ykq)
  {ydc : Addr} (ya5 : PropOf K ya "reads" ydc yja)
  (ym : ∀ c ∈ (["Kind", "Reader"] : List Str), FldOk K c "steps")
  (yp : ∀ c ∈ (["Kind", "Reader"] : List Str), FldOk K c "name")
  (yb7 : Binds K yfz ["self", "name", "steps", "checks"] [])
  (y0 : Binds K ydh ["self"] [])
  {e_Reader_init : Addr} (dt_Reader_init : ∀ s, RwL K s (([.tup []] : List T).map W.t) [V.ref e_Reader_init])
  (yea : Binds K yfz ["self", "name", "steps", "checks"] [.ref e_Reader_init])
  (yc4 : Binds K ylj ["self", "other"] [])
  (yha : Binds K yll ["self", "name", "steps"] [])
  (yks : Binds K yna ["self", "other"] [])
  (yhb : Binds K ykr ["self"] [])
  (yfp : Binds K yjb ["self"] []) :
  FnG P w K mg base Yj 9 f fd ["_law_script"] (spM K w F_law 1) :=
 okM (k := 8) F yoz fun cdv A outer s H E hr hgd => by
  have hN := yoz.nd
  have hu := hr.units
  exact zag (st_for (B := f_law_l2) PassesOwn.never rfl (ii_rng1 (by rfl) yex (zaa (zbn (call_max2 rfl) ok_max2 (zaa (zak) (zaa (zbn (call_min2 rfl) ok_min2 (zaa (zak) (zaa (zbn call_len zcf Yfd yf) (zad))) yny) (zad))) yos) (zad))) (pg_name (i := 1) hN rfl Yi) (zat 1) (zag (za8 2 hN (zar (dts := []) (dvs := []) yko Yb hgd (by rfl) ylz yl0 ykp .nil Yp zbf (zaa (zac 0) Y5))) (zag (za8 3 hN (zbi)) (zao (st_for (B := f_law_l1) PassesOwn.never rfl (ii_rng1 (by rfl) yex (zaa (zak) (zad))) Yd2 (zat 4) (zag (za8 5 hN (zar (dts := []) (dvs := []) yg7 Yb hgd (by rfl) yid yie yg8 .nil Yp zbf (zaa (zac 2) (zaa (zch (zaa (zal) (zaa (zal) (zaa (zal) Yau)))) (zaa (zch (zaa (zal) Yau)) (zaa (zak) (zad))))))) (zag (za8 5 hN (zar (dts := []) (dvs := []) yfj Yb hgd (by rfl) ygb ygc yfk .nil Yp zbf (zaa (zac 2) (zaa (zac 5) (zaa (ie_mulA (zch (zaa (zdd (zaa (zal) Yau)) (zad))) (zbn (call_min2 rfl) ok_min2 (zaa (zak) (zaa (ie_sub (zak) (zbn call_len zcf Ygs yf)) (zad))) yny)) (zad)))))) (zag (st_par2 rfl hN (zaa (zar (dts := []) (dvs := []) yjt Yb hgd (by rfl) ykm ykn yju .nil Yp zbf (zaa (zac 2) Ygs)) (zaa (zam (zar (dts := []) (dvs := []) yia Yb hgd (by rfl) yjr yjs yib .nil Yp zbf (zaa (zac 2) (zaa (zak) (zad)))) (zak)) (zad)))) (zag (st_par2 rfl hN (zaa (zar (dts := []) (dvs := []) yam Yb hgd (by rfl) ya8 ya9 yan .nil Yp zas Ygs) (zaa (zar (dts := []) (dvs := []) yao Yb hgd (by rfl) yba ybb yap .nil Yp zas (zaa (zac 6) (zad))) (zad)))) (zag (za8 10 hN (ie_lstL (zaa (zb5 call_list_of ok_listL (zaa (zac 8) (zad)) yb2) (zaa (zb5 call_list_of ok_listL (zaa (zac 9) (zad)) yb2) (zad))))) (zag (za8 11 hN (ie_lendE (ie_frzI (ie_makeX yem yg.cn yae Yb hgd (by rfl) yg.mg yb7 .nil (fun s => by rfl) fnX_len Ya8 (zaa (zac 7) (zaa (zam (zac 10) (zak)) (zaa (zam (zac 10) (zak)) (zad)))))))) (zag (st_expr (zdx (zam (zac 10) (zak)) Yau)) (zag (st_expr (zdx (zam (zac 10) (zak)) Yau)) (zag (zc1 (it_ne hu (zbn (call_reprD hgd hu) ok_repr (zaa (zdd (zaa (zdy yp (zac 11)) (zaa (zdy ym (zac 11)) (zaa (zdy yz (zac 11)) (zad))))) (zad)) yi9) (zbn (call_reprD hgd hu) ok_repr (zaa (zdd Ydi) (zad)) yi9)) Yc5 (zbe)) (zag (za8 12 hN (zb5 zbs ok_tup (zaa (zbr (own := [("_law_word", 13), ("_law_part", 14)]) (T := f_law_c1) (E := f_law_c2) rfl hN (zdo (zac 5)) (by first | exact blkOk_by (N := yo2) (sc := defScope yno) (by decide +kernel) | exact blkOk_by (by with_unfolding_all rfl) | exact blkOk_by (by decide +kernel +revert)) (fun _ _ _ _ _ => pg_tup rfl (pgs_cons (pg_name (i := 13) hN rfl Yi) (pgs_cons (pg_name (i := 14) hN rfl Yi) (pgs_nil)))) (tg_tup (zcs (zat 13) (zcs (zat 14) (tgs_nil)))) (fun _ _ _ _ _ => its_one (it_eq hu (zac 13) (zal))) (fun _ _ _ _ _ => zac 14) za5) (zad)) yk)) (zag (zc1 (it_ne hu (zbn (call_reprD hgd hu) ok_repr (zaa (ie_prop yg.cn yg.cl ya5 ye8 Yb hgd yfp (zas) (zac 11)) (zad)) yi9) (zbn (call_reprD hgd hu) ok_repr (zaa (zac 12) (zad)) yi9)) Yc5 (zbe)) (zag (zc1 ((iw_or (it_ne hu (ie_lenOwn yg.cn yf1 yf0 Yb hgd yhb zas yf (zac 11)) (zbn call_len zcf (zaa (zac 8) (zad)) yf)) (iw_or1 (it_ne hu Ygf (zar (dts := []) (dvs := []) yek Yb hgd (by rfl) ye6 ye7 yel .nil Yp zas (zaa (zdd (zaa (zac 7) (zaa (zac 5) (zaa (zac 6) (zad))))) (zad)))))).it) Yc5 (zbe)) (zag (zc1 (it_cmp Yef ok_eqO (zac 11) (ie_frzI (ie_makeX yem yg.cn yae Yb hgd (by rfl) yg.mg yb7 .nil (fun s => by rfl) fnX_len Ya8 Ydi)) Yfz) Yc5 (zbe)) (zag (zc1 ((iw_or ((iw_and (it_eq hu (zac 9) (zch (zad))) (zd4 (it_cmp Yef ok_eqO (zac 11) (ie_frzI (ie_makeX yem yg.cn yae Yb hgd (by rfl) yg.mg yea Yfa dt_Reader_init fnX_len Ya8 (zaa (zac 7) (zaa (zac 8) (zad))))) Yfz))).it) (iw_or1 (it_cmp (op_inO (alts := [Yce, ("Kind", zdh)]) ⟨.mk' yg.cn yb6 yb5 Yb yc4 zas ss_Reader st_Reader sn_Reader, ⟨.mk' ycx.cn yjw yjv Yb yks zas ss_Kind st_Kind sn_Kind, True.intro⟩⟩ (unrel2 yg.cn ycx.cn sb_Reader_Kind sb_Kind_Reader ne_Reader_Kind) hu hgd) ok_inO (zac 11) (zdd (zaa Ygf (zaa (zbi) (zaa (ie_frzI (ie_makeX yn9 ycx.cn yg9 Yb hgd (by rfl) ycx.mg yha .nil (fun s => by rfl) fnX_len Ya8 (zaa (zac 7) (zaa (zch Yau) (zad))))) (zad))))) (by rfl)))).it) Yc5 (zbe)) (zag (zc1 ((iw_and (it_notN (zac 3) (zbi)) (zd4 (it_ne hu (ie_cmp (op_eqO (alts := [Yce]) ⟨.mk' yg.cn yb6 yb5 Yb yc4 zas nn_Reader no_Reader, True.intro⟩ hgd) ok_eqO (zac 11) (zac 3) Yfz) (ie_eq hu Ygf (zb5 Ybl zd9 (zaa (zac 3) (zad)) y2))))).it) Yc5 (zbe)) (zao (za8 3 hN (zac 11))))))))))))))))))))))) (zag (zc1 (it_ne hu (zdy yz (ie_frzI (ie_makeX yem yg.cn yae Yb hgd (by rfl) yg.mg yea Yfa dt_Reader_init fnX_len Ya8 (zaa (zal) (zaa (zch Yau) (zad)))))) (zdd (zad))) Yc5 (zbe)) (zao (zau (ie_eq hu (zb5 Ybl zd9 (zaa (ie_frzI (ie_makeX yem yg.cn yae Yb hgd (by rfl) yg.mg yb7 .nil (fun s => by rfl) fnX_len Ya8 (zaa (zal) (zaa (zch (zaa (zal) Yau)) (zaa (zch Yau) (zad)))))) (zad)) y2) (zal)))))
end
theorem all_mk : AllMk F_law := by
 intro l w K h mg fa KX G hfa ye y9 ykw yen ykx yky ykz yk0 yec yed ye0 ss_Kind st_Kind sn_Kind ya yq yhg yb8 yhh yhi yhj yhk yc5 yc6 ycc yc7 ydl nn_Reader no_Reader ss_Reader st_Reader sn_Reader sb_Reader_Kind sb_Kind_Reader ne_Reader_Kind ih it ia_Kind im_Kind ia_Reader im_Reader ty_Kind ks_str_Kind ks_tuple_Kind ycd ty_Reader ks_str_Reader ks_tuple_Reader ybl yd ybv yif yig yih yii ye9 yij yik yil yim yin yio yip yiq yir yis ydm ydn yc8 ybw ybx ydo y7 yby ybz yit ydp ydq ydr yds yiu ydt yav yb0 yiv ydu ydv yiw yix yfa yiy yfb yiz ydw ydx ydy yi0 yi1 yi2 ydz yd0 yd1 yd2 yc9 yda ydb yb ybc ygf ygg ygh ygi yeh ygj ygk ygl ygm ygn ygo ygp ygq ygr ygs yce ycf ybq ybd ybe ycg y5 ybf ybg ygt ych yci ycj yck ygu ycl yaa ybh ygv ycm ycn ygw ygx yei ygy yej ygz yco ycp ycq yg0 yg1 yg2 ycr ycs yct ycu ybr ybs ybt xsup xany xtop v_MOST_LETTERS w_MOST_LETTERS v_MOST_DIGITS w_MOST_DIGITS v_LETTERS w_LETTERS v_DIGITS w_DIGITS yfc o_BARRED us_BARRED yjj w_BARRED lk_BARRED yeo yep oa_BARRED or_BARRED oz_BARRED yaw o_READER_WORDS us_READER_WORDS yd3 w_READER_WORDS lk_READER_WORDS yah yai oa_READER_WORDS or_READER_WORDS oz_READER_WORDS yax o_WRITER_WORDS us_WRITER_WORDS yd4 w_WRITER_WORDS lk_WRITER_WORDS yaj yak oa_WRITER_WORDS or_WRITER_WORDS oz_WRITER_WORDS ynp ynq ynr yl2 yk1 yfr yns ynt ye1 yk2 ynu ynv ynw yl3 ad_w_deal ymy yfd ad_w_draw ymz yfe ad_w_mixed yl4 yeq ad_w_pick ym0 yff ad_w_put ynz yga ad_w_glances yj8 ycz ad_w_tests yl5 yer ad_w_titles yk6 yd5 ad_w_deed_texts yhl yay ad_w_test_texts yhm yaz ad_is_name yl6 yet ad_is_sequence yi3 ybi ad_deed_in yl7 yeu ad_deeds_in yk7 yd6 ad_number_in yj9 yc0 ad_spot_in yl8 yev ad_test_in yl9 yew ad_tests_in yk8 yd7 ad_Reader_init yfg ya0 ya1 ya2 yab ya3 yfh ya4 sl_Reader_init y8 to_Reader_init tn_Reader_init at_Reader_init fn_Reader_init yee yef yeg e_Reader_init eo_Reader_init en_Reader_init t_Reader_init u_Reader_init el_Reader_init ec_Reader_init ed_Reader_init ea_Reader_init ydc ad_Reader_reads ya5 yhn yb1 ad_Reader_len yjx yde ad_Reader_str yjy ydf ad_w_reader_text yg3 yal ad_Reader_eq yka yeb ad_Kind_str yk9 ye2 ad_Kind_eq yma yfw ad_Kind_init ykb yc1 ad_law yot ymb
 have e0 := hfa.symm.trans (PySem.W.mg_of KX G ymb.1)
 obtain rfl : fa = ad_law := by cases e0; rfl
 have yjc : Cls K ye := ⟨ykw, yen, ykx, yky⟩
 have ycx : ClsF K mg "Kind" ye := ⟨y9, PySem.W.mg_of KX G y9, yjc⟩
 have ydi : Cls K ya := ⟨yhg, yb8, yhh, yhi⟩
 have yg : ClsF K mg "Reader" ya := ⟨yq, PySem.W.mg_of KX G yq, ydi⟩
 have yh9 : ∀ c ∈ (["Reader"] : List Str), FldOk K c "tests" := by
  intro c hc
  simp only [List.mem_cons, List.not_mem_nil, or_false] at hc
  subst hc
  ·exact ⟨_, yq, ydi, yc5⟩
 have y1 : ∀ c ∈ (["Kind", "Reader"] : List Str), FldOk K c "deeds" := by
  intro c hc
  simp only [List.mem_cons, List.not_mem_nil, or_false] at hc
  rcases hc with rfl | rfl
  ·exact ⟨_, y9, yjc, yec⟩
  ·exact ⟨_, yq, ydi, yc6⟩
 have yz : ∀ c ∈ (["Reader"] : List Str), FldOk K c "checks" := by
  intro c hc
  simp only [List.mem_cons, List.not_mem_nil, or_false] at hc
  subst hc
  ·exact ⟨_, yq, ydi, ycc⟩
 have ym : ∀ c ∈ (["Kind", "Reader"] : List Str), FldOk K c "steps" := by
  intro c hc
  simp only [List.mem_cons, List.not_mem_nil, or_false] at hc
  rcases hc with rfl | rfl
  ·exact ⟨_, y9, yjc, yed⟩
  ·exact ⟨_, yq, ydi, yc7⟩
 have yp : ∀ c ∈ (["Kind", "Reader"] : List Str), FldOk K c "name" := by
  intro c hc
  simp only [List.mem_cons, List.not_mem_nil, or_false] at hc
  rcases hc with rfl | rfl
  ·exact ⟨_, y9, yjc, ye0⟩
  ·exact ⟨_, yq, ydi, ydl⟩
 have kt_str_Kind : PySem.W.kitOne K Ycf Yby = some false := kt_of yen ty_Kind ks_str_Kind rfl
 have kt_tuple_Kind : PySem.W.kitOne K Yb0 Yby = some false := kt_of yen ty_Kind ks_tuple_Kind rfl
 have yl1 : PySem.W.kitOne K Ybx Yby = some false := kt_of yen ty_Kind ycd rfl
 have kt_str_Reader : PySem.W.kitOne K Ycf Ya4 = some false := kt_of yb8 ty_Reader ks_str_Reader rfl
 have kt_tuple_Reader : PySem.W.kitOne K Yb0 Ya4 = some false := kt_of yb8 ty_Reader ks_tuple_Reader rfl
 have ykt : PySem.W.kitOne K Ybx Ya4 = some false := kt_of yb8 ty_Reader ybl rfl
 have kr_Kind_Reader : PySem.W.kitOne K Yby Ya4 = some false := kt_of yb8 ty_Reader sb_Kind_Reader (ne_of ne_Reader_Kind.symm)
 have kr_Reader_Kind : PySem.W.kitOne K Ya4 Yby = some false := kt_of yen ty_Kind sb_Reader_Kind (ne_of ne_Reader_Kind)
 have hT : IsTab K zd1 := by
  refine ⟨fun t c b tv cv h ht hc => ?_, fun c d b C h n => ?_⟩
  ·unfold zd1 at h
   split at h
   ·cases ht
    cases hc
    exact kit_ty h
   ·split at h
    ·rename_i a a2 e
     cases h
     obtain ⟨ea, eb⟩ := e
     cases ht
     obtain ⟨C2, rfl, n2⟩ := hc
     rcases ea with rfl | rfl | rfl <;> rcases eb with rfl | rfl
     ·cases n2.inj y9; exact kt_str_Kind
     ·cases n2.inj yq; exact kt_str_Reader
     ·cases n2.inj y9; exact kt_tuple_Kind
     ·cases n2.inj yq; exact kt_tuple_Reader
     ·cases n2.inj y9; exact yl1
     ·cases n2.inj yq; exact ykt
    ·cases h
   ·split at h
    ·rename_i a a2 e
     cases h
     obtain ⟨rfl, e⟩ := e
     obtain ⟨C1, rfl, n1⟩ := ht
     obtain ⟨C2, rfl, n2⟩ := hc
     cases n1.inj n2
     rcases e with rfl | rfl
     ·cases n1.inj y9
      simp [PySem.W.kitOne]
     ·cases n1.inj yq
      simp [PySem.W.kitOne]
    ·split at h
     ·rename_i a a2 _ e
      cases h
      obtain ⟨C1, rfl, n1⟩ := ht
      obtain ⟨C2, rfl, n2⟩ := hc
      rcases e with ⟨rfl, rfl⟩ | ⟨rfl, rfl⟩
      ·cases n1.inj y9
       cases n2.inj yq
       exact kr_Kind_Reader
      ·cases n1.inj yq
       cases n2.inj y9
       exact kr_Reader_Kind
     ·cases h
   ·cases h
  ·rcases d with d | d
   ·exact absurd h (by simp [zd1])
   ·have key : c = "Kind" ∨ c = "Reader" := by
     simp only [zd1] at h
     split at h
     ·rename_i e
      exact e.2
     ·split at h
      ·rename_i _ e
       exact e.imp (·.1) (·.1)
      ·cases h
    rcases key with rfl | rfl
    ·cases n.inj y9
     exact ⟨yjc, ia_Kind, ih, it, im_Kind⟩
    ·cases n.inj yq
     exact ⟨ydi, ia_Reader, ih, it, im_Reader⟩
 have yjd : OexC K yd := ⟨⟨_, _, _, _, _, _, _, _, _, _, _, _, _, _, _, ydm, ydn⟩, yc8, ybw, ybx, ydo⟩
 have yje : XIni l.prog K yd y7 "InvalidKind.__init__" "word" (defArgs (inClass (topS 2) 0)) (defBody (inClass (topS 2) 0)) (defScope (inClass (topS 2) 0)) Ys := ⟨yjd, ⟨_, _, _, _, _, _, _, _, _, _, _, _, _, _, _, _, _, _, _, rfl, ydu, ydv, ydw, ydx, ydy, ydz⟩, yby, ybz, yd0, yd1, yd2, xsup, xany, yc9, xtop⟩
 have yj : ∀ base : Heap, XF l.prog w K mg base "InvalidKind" yd y7 Ys ["self", "word"] "word" := fun base => ⟨yjd, yby, ybz, ybv, xini_ok yje ⟨rfl, rfl, rfl, rfl, rfl, rfl, rfl, rfl, rfl, by decide +kernel, by decide, by decide⟩ (fun env => rfl), xini_hot yje ⟨rfl, rfl, rfl, rfl, rfl, rfl, rfl, rfl, rfl, by decide +kernel, by decide, by decide⟩ (fun env => rfl), PySem.W.mg_of KX G ybv, .all fun us hl => match us, hl with | [_, _], _ => rfl, exm_self ybw yda ybx ydb⟩
 have yhc : OexC K yb := ⟨⟨_, _, _, _, _, _, _, _, _, _, _, _, _, _, _, yce, ycf⟩, ybq, ybd, ybe, ycg⟩
 have yhd : XIni l.prog K yb y5 "InvalidReader.__init__" "word" (defArgs (inClass (topS 3) 0)) (defBody (inClass (topS 3) 0)) (defScope (inClass (topS 3) 0)) Yr := ⟨yhc, ⟨_, _, _, _, _, _, _, _, _, _, _, _, _, _, _, _, _, _, _, rfl, ycm, ycn, yco, ycp, ycq, ycr⟩, ybf, ybg, ycs, yct, ycu, xsup, xany, ybr, xtop⟩
 have yc : ∀ base : Heap, XF l.prog w K mg base "InvalidReader" yb y5 Yr ["self", "word"] "word" := fun base => ⟨yhc, ybf, ybg, ybc, xini_ok yhd ⟨rfl, rfl, rfl, rfl, rfl, rfl, rfl, rfl, rfl, by decide +kernel, by decide, by decide⟩ (fun env => rfl), xini_hot yhd ⟨rfl, rfl, rfl, rfl, rfl, rfl, rfl, rfl, rfl, by decide +kernel, by decide, by decide⟩ (fun env => rfl), PySem.W.mg_of KX G ybc, .all fun us hl => match us, hl with | [_, _], _ => rfl, exm_self ybd ybs ybe ybt⟩
 have yfm := PySem.W.mg_of KX G w_MOST_LETTERS
 have yfy := PySem.W.mg_of KX G w_MOST_DIGITS
 have ykd := PySem.W.mg_of KX G w_LETTERS
 have ylw := PySem.W.mg_of KX G w_DIGITS
 have ylv := PySem.W.mg_of KX G w_BARRED
 have yfn := PySem.W.mg_of KX G w_READER_WORDS
 have yfo := PySem.W.mg_of KX G w_WRITER_WORDS
 have ydd := PySem.W.mg_none_of KX G ynp
 have ynx := PySem.W.mg_none_of KX G ynq
 have yf := PySem.W.mg_none_of KX G ynr
 have yb2 := PySem.W.mg_none_of KX G yl2
 have yex := PySem.W.mg_none_of KX G yk1
 have yh3 := PySem.W.mg_none_of KX G yfr
 have y2 := PySem.W.mg_none_of KX G yns
 have yk3 := PySem.W.mg_none_of KX G ynt
 have yi := PySem.W.mg_none_of KX G ye1
 have yk := PySem.W.mg_none_of KX G yk2
 have yk4 := PySem.W.mg_none_of KX G ynu
 have yos := PySem.W.mg_none_of KX G ynv
 have yny := PySem.W.mg_none_of KX G ynw
 have yi9 := PySem.W.mg_none_of KX G yl3
 have ylz := PySem.W.mg_of KX G yfd.1
 have yl0 := yfd.2.kp
 have yoa := yfd.2
 have yx := PySem.W.mg_of KX G yfe.1
 have yy := yfe.2.kp
 have yob := yfe.2
 have ybm := PySem.W.mg_of KX G yeq.1
 have ybn := yeq.2.kp
 have ynb := yeq.2
 have yjk := PySem.W.mg_of KX G yff.1
 have yjl := yff.2.kp
 have yoc := yff.2
 have ygb := PySem.W.mg_of KX G yga.1
 have ygc := yga.2.kp
 have yom := yga.2
 have yid := PySem.W.mg_of KX G ycz.1
 have yie := ycz.2.kp
 have ylm := ycz.2
 have ykm := PySem.W.mg_of KX G yer.1
 have ykn := yer.2.kp
 have ync := yer.2
 have yjr := PySem.W.mg_of KX G yd5.1
 have yjs := yd5.2.kp
 have ymr := yd5.2
 have ya8 := PySem.W.mg_of KX G yay.1
 have ya9 := yay.2.kp
 have yjf := yay.2
 have yba := PySem.W.mg_of KX G yaz.1
 have ybb := yaz.2.kp
 have yjg := yaz.2
 have ybo := PySem.W.mg_of KX G yet.1
 have ybp := yet.2.kp
 have ynd := yet.2
 have ybj := PySem.W.mg_of KX G ybi.1
 have ybk := ybi.2.kp
 have yj3 := ybi.2
 have yhs := PySem.W.mg_of KX G yeu.1
 have yht := yeu.2.kp
 have yne := yeu.2
 have yd8 := PySem.W.mg_of KX G yd6.1
 have yd9 := yd6.2.kp
 have yms := yd6.2
 have yh5 := PySem.W.mg_of KX G yc0.1
 have yh6 := yc0.2.kp
 have yln := yc0.2
 have yhu := PySem.W.mg_of KX G yev.1
 have yhv := yev.2.kp
 have ynf := yev.2
 have yhw := PySem.W.mg_of KX G yew.1
 have yhx := yew.2.kp
 have yng := yew.2
 have yjo := PySem.W.mg_of KX G yd7.1
 have yjp := yd7.2.kp
 have ymt := yd7.2
 have yem : Mk K ya ad_Reader_init := ⟨yhj, at_Reader_init, fn_Reader_init, yhk⟩
 have dt_Reader_init : ∀ s, RwL K s (([.tup []] : List T).map W.t) [V.ref e_Reader_init] := fun s => ⟨V.ref e_Reader_init, [], rfl, by simp only [Rw, Rf]; exact ⟨e_Reader_init, [], rfl, .inr ⟨eo_Reader_init, #[], en_Reader_init, el_Reader_init, ec_Reader_init, ed_Reader_init, ea_Reader_init, by simp, .nil⟩, rfl⟩, rfl⟩
 have yf2 : FunD K "__init__" "Reader.__init__" (defArgs yh) (defBody yh) (defScope yh) [V.ref e_Reader_init] [] ad_Reader_init Yv := ⟨⟨yfg, yfh, (.ref y8), ya0, ya1, ya2, ya4, yab, ya3, sl_Reader_init, rfl, yee, yef, .inr ⟨by simp, y8, to_Reader_init, [.ref e_Reader_init], tn_Reader_init, rfl, t_Reader_init, u_Reader_init, .cons rfl .nil⟩, .inl rfl⟩, yeg⟩
 have yf1 := yde.me
 have yku := yde.2.2
 have yu := ydf.me
 have ykv := ydf.2.2
 have ye6 := PySem.W.mg_of KX G yal.1
 have ye7 := yal.2.kp
 have yh0 := yal.2
 have yb6 := yeb.me
 have ylo := yeb.2.2
 have yfu := ye2.me
 have ymu := ye2.2.2
 have yjw := yfw.me
 have ynh := yfw.2.2
 have yn9 : Mk K ye ad_Kind_init := ⟨ykz, yc1.1, yc1.2.1, yk0⟩
 have ylp := yc1.2.2
 have yo3 := ymb.2
 have yo := yob.bindsN (ps := ["_law_deal_here", "_law_wide"]) fun _ _ _ _ _ _ us hl => match us, hl with | [_, _], _ => rfl
 have yfk := yom.bindsN (ps := ["_law_deal_here", "_law_deeds", "_law_more"]) fun _ _ _ _ _ _ us hl => match us, hl with | [_, _, _], _ => rfl
 have yhp := yoc.bindsN (ps := ["_law_deal_here", "_law_some"]) fun _ _ _ _ _ _ us hl => match us, hl with | [_, _], _ => rfl
 have yas := ynb.bindsN (ps := ["_law_deal_here", "_law_some"]) fun _ _ _ _ _ _ us hl => match us, hl with | [_, _], _ => rfl
 have yau := ynd.bindsN (ps := ["value"]) fun _ _ _ _ _ _ us hl => match us, hl with | [_], _ => rfl
 have yf4 := yne.bindsN (ps := ["value", "words"]) fun _ _ _ _ _ _ us hl => match us, hl with | [_, _], _ => rfl
 have ya7 := yj3.bindsN (ps := ["value"]) fun _ _ _ _ _ _ us hl => match us, hl with | [_], _ => rfl
 have yg5 := yln.bindsN (ps := ["word", "digits"]) fun _ _ _ _ _ _ us hl => match us, hl with | [_, _], _ => rfl
 have yf6 := ynf.bindsN (ps := ["word", "deeds"]) fun _ _ _ _ _ _ us hl => match us, hl with | [_, _], _ => rfl
 have yf8 := yng.bindsN (ps := ["value", "deeds"]) fun _ _ _ _ _ _ us hl => match us, hl with | [_, _], _ => rfl
 have yh8 := ymt.bindsN (ps := ["value", "deeds"]) fun _ _ _ _ _ _ us hl => match us, hl with | [_, _], _ => rfl
 have yc3 := yms.bindsN (ps := ["value", "words"]) fun _ _ _ _ _ _ us hl => match us, hl with | [_, _], _ => rfl
 have yan := yjf.bindsN (ps := ["_law_deeds"]) fun _ _ _ _ _ _ us hl => match us, hl with | [_], _ => rfl
 have yap := yjg.bindsN (ps := ["_law_tests_here"]) fun _ _ _ _ _ _ us hl => match us, hl with | [_], _ => rfl
 have y0 := ykv.bindsN (ps := ["self"]) fun _ _ _ _ _ _ us hl => match us, hl with | [_], _ => rfl
 have yf9 := ymu.bindsN (ps := ["self"]) fun _ _ _ _ _ _ us hl => match us, hl with | [_], _ => rfl
 have yel := yh0.bindsN (ps := ["_law_reader"]) fun _ _ _ _ _ _ us hl => match us, hl with | [_], _ => rfl
 have yib := ymr.bindsN (ps := ["_law_deal_here", "_law_size"]) fun _ _ _ _ _ _ us hl => match us, hl with | [_, _], _ => rfl
 have yju := ync.bindsN (ps := ["_law_deal_here", "_law_deeds"]) fun _ _ _ _ _ _ us hl => match us, hl with | [_, _], _ => rfl
 have yg8 := ylm.bindsN (ps := ["_law_deal_here", "_law_called", "_law_counters", "_law_most"]) fun _ _ _ _ _ _ us hl => match us, hl with | [_, _, _, _], _ => rfl
 have ykp := yoa.bindsN (ps := ["_law_script", "_law_base"]) fun _ _ _ _ _ _ us hl => match us, hl with | [_, _], _ => rfl
 have yb7 : Binds K Yv ["self", "name", "steps", "checks"] [] := by
  obtain ⟨ds, r, b⟩ := yf2.binds1 (ps := ["self", "name", "steps", "checks"]) 4 1 Yae Yae fun T kV doc pm an cdv ct us its hu hi => match us, hu, its, hi with | [_, _, _, _], _, [_], _ => ⟨_, rfl, rfl⟩
  cases r
  exact b
 have yea : Binds K Yv ["self", "name", "steps", "checks"] [.ref e_Reader_init] := by
  obtain ⟨ds, r, b⟩ := yf2.binds1 (ps := ["self", "name", "steps", "checks"]) 3 0 Yae Yae fun T kV doc pm an cdv ct us its hu hi => match us, hu, its, hi with | [_, _, _], _, [_], _ => ⟨_, rfl, rfl⟩
  cases r with
  | cons a z =>
   cases z
   cases (show _ = Value.ref e_Reader_init from a)
   exact b
 have yc4 := ylo.bindsN (ps := ["self", "other"]) fun _ _ _ _ _ _ us hl => match us, hl with | [_, _], _ => rfl
 have yha := ylp.bindsN (ps := ["self", "name", "steps"]) fun _ _ _ _ _ _ us hl => match us, hl with | [_, _, _], _ => rfl
 have yks := ynh.bindsN (ps := ["self", "other"]) fun _ _ _ _ _ _ us hl => match us, hl with | [_, _], _ => rfl
 have yhb := yku.bindsN (ps := ["self"]) fun _ _ _ _ _ _ us hl => match us, hl with | [_], _ => rfl
 have yfp := yb1.bindsN (ps := ["self"]) fun _ _ _ _ _ _ us hl => match us, hl with | [_], _ => rfl
 have yko := fun base : Heap => yon (P := l.prog) (w := w) (mg := mg) (base := base) yoa ydd ynx
 have yn := fun base : Heap => yoo (P := l.prog) (w := w) (mg := mg) (base := base) yob ydd
 have yar := fun base : Heap => yod (P := l.prog) (w := w) (mg := mg) (base := base) ynb yf yb2 (yn base) yx yy yo
 have yho := fun base : Heap => yop (P := l.prog) (w := w) (mg := mg) (base := base) yoc yf (yn base) yx yy yo
 have yfj := fun base : Heap => yov (P := l.prog) (w := w) (mg := mg) (base := base) yom yf yb2 (yn base) yx yy yo
 have yg7 := fun base : Heap => yni (P := l.prog) (w := w) (mg := mg) (base := base) ylm yf yex (yfj base) ygb ygc yfk (yn base) yx yy yo (yho base) yjk yjl yhp (yar base) ybm ybn yas
 have yjt := fun base : Heap => yoe (P := l.prog) (w := w) (mg := mg) (base := base) ync yh3 (yar base) ybm ybn yas (yn base) yx yy yo
 have yia := fun base : Heap => yn2 (P := l.prog) (w := w) (mg := mg) (base := base) ymr (yar base) ybm ybn yas
 have yam := fun base : Heap => ylt (P := l.prog) (w := w) (mg := mg) (base := base) yjf
 have yao := fun base : Heap => ylu (P := l.prog) (w := w) (mg := mg) (base := base) yjg y2
 have yat := fun base : Heap => yof (P := l.prog) (w := w) (mg := mg) (base := base) ynd yk3 yi y2 yf yfm ykd hT ylv lk_BARRED yeo yep oa_BARRED or_BARRED oz_BARRED
 have ya6 := fun base : Heap => ymf (P := l.prog) (w := w) (mg := mg) (base := base) yj3 yi yk yb2 hT
 have yf3 := fun base : Heap => yog (P := l.prog) (w := w) (mg := mg) (base := base) yne yf yi y2 (yat base) ybo ybp yau hT
 have yc2 := fun base : Heap => yn3 (P := l.prog) (w := w) (mg := mg) (base := base) yms yf yk4 yk (yf3 base) yhs yht yf4 (ya6 base) ybj ybk ya7
 have yg4 := fun base : Heap => ynk (P := l.prog) (w := w) (mg := mg) (base := base) yln ydd yf yk3 ylw
 have yf5 := fun base : Heap => yoh (P := l.prog) (w := w) (mg := mg) (base := base) ynf yf yfy (yg4 base) yh5 yh6 yg5
 have yf7 := fun base : Heap => yoi (P := l.prog) (w := w) (mg := mg) (base := base) yng yf yi y2 (yf5 base) yhu yhv yf6 hT
 have yh7 := fun base : Heap => yn4 (P := l.prog) (w := w) (mg := mg) (base := base) ymt yf yk4 yk (yf7 base) yhw yhx yf8 (ya6 base) ybj ybk ya7
 have yae := fun base : Heap => ymj (P := l.prog) (w := w) (mg := mg) (base := base) yf2 yk (yh7 base) yjo yjp yh8 (yc2 base) yd8 yd9 yc3 (yat base) ybo ybp yau yh9 y1 yz ym yp (yc base) yfn lk_READER_WORDS yah yai oa_READER_WORDS or_READER_WORDS oz_READER_WORDS
 have ye8 := fun base : Heap => ylx (P := l.prog) (w := w) (mg := mg) (base := base) yb1 yk y1
 have yf0 := fun base : Heap => ymw (P := l.prog) (w := w) (mg := mg) (base := base) yku yf y1
 have yt := fun base : Heap => ymx (P := l.prog) (w := w) (mg := mg) (base := base) ykv yf yp yz ym
 have yek := fun base : Heap => yk5 (P := l.prog) (w := w) (mg := mg) (base := base) yh0 (yam base) ya8 ya9 yan (yao base) yba ybb yap
 have yb5 := fun base : Heap => ynl (P := l.prog) (w := w) (mg := mg) (base := base) ylo y2 yi yg (yt base) yu hT y0
 have yft := fun base : Heap => yn7 (P := l.prog) (w := w) (mg := mg) (base := base) ymu yp ym
 have yjv := fun base : Heap => yok (P := l.prog) (w := w) (mg := mg) (base := base) ynh y2 yi ycx (yft base) yfu hT yf9
 have yg9 := fun base : Heap => ynm (P := l.prog) (w := w) (mg := mg) (base := base) ylp yk yf (yc2 base) yd8 yd9 yc3 (yat base) ybo ybp yau y1 ym yp (yj base) yfo lk_WRITER_WORDS yaj yak oa_WRITER_WORDS or_WRITER_WORDS oz_WRITER_WORDS
 exact ⟨_, fun s v => yo3.bindsA (ps := ["_law_script"]) (fun _ _ _ _ _ _ us hl => match us, hl with | [_], _ => rfl) s [v] rfl, fun base _ _ => yo5 yo3 y2 yex yos yny yf yk yi9 yb2 (yek base) ye6 ye7 yel (yao base) yba ybb yap (yam base) ya8 ya9 yan (yia base) yjr yjs yib (yjt base) ykm ykn yju (yfj base) ygb ygc yfk (yg7 base) yid yie yg8 (yko base) ylz yl0 ykp yg ycx (yae base) (yt base) (yb5 base) (yg9 base) (yjv base) (yf0 base) (ye8 base) yem yu yz yb6 nn_Reader no_Reader yn9 yjw ss_Kind st_Kind sn_Kind ss_Reader st_Reader sn_Reader sb_Reader_Kind sb_Kind_Reader ne_Reader_Kind yf1 ya5 ym yp yb7 y0 dt_Reader_init yea yc4 yha yks yhb yfp⟩
end D
theorem PySem.Challenge.cw_untorn_k05_readers_made_holds : PySem.Challenge.rw_untorn_k05_readers_made.Holds :=
 D.early D.all_mk fun h => D.law_is h
