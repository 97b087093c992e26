import PyProof.Rows.All
import PySem.Challenge.RW_untorn_k37_any_values_as_certificates
import KE.OsRunLaw
import HandS.Head0
import HandS.Head1
import HandS.Head2
import KE.KDictKeyed
import Wide.All
import OpenK.AllK
import Wide.FinOn
import HandS.ForMost
import HandS.Zip
import HandS.Style
import HandS.Star
import KE.DataEq
import KE.GoesEnum
import KE.GoesMore
import HandS.WordsExc
import HandS.Defaults
import HandS.Conv
import HandS.Wide
import HandS.TupAny
import HandS.RaiseMore
import HandS.Strs
import KE.KIndexOf
import HandS.SortInts
import HandS.Dict
import HandS.TryOnly
import HandS.List
import PyProof.ReprRoads
import HandS.Sort
import HandS.WideMore
import KE.SortKeyHeap
import HandS.SortKw
import PyProof.TupleOfSeq
import HandS.DictEq
import KE.KDictPairs
import KE.KDictZip
import PyProof.StrLawsRepr
import HandS.Property
import HandS.ClsMeth
import HandS.ExcInit
import HandS.ExcInitHot
import KE.KExcSuper
import HandS.CallSlots
import HandS.ExcCtx
import HandS.CallLocal
import HandS.SuiteRaise
import HandS.RaiseFrom
import HandS.ExcField
import HandS.ExcIs
import HandS.IsInst
import HandS.Text
import HandS.FStr
import PyProof.Rows.SetFrom
import HandS.SetKeys
import HandS.DictComp
import PyProof.InstSpecial
import HandS.TupSets
import HandS.TupMul
import HandS.Codes
import KE.SortData
import HandS.SetFor
import HandS.SetBool
import HandS.More
import HandS.SetTxt0
import PyProof.Rows.SortShellAny
import KE.KDictDisplayH
import PyProof.DictTable
import KE.KCallOwn
import HandS.ListItems
import HandS.OwnEq
import PyProof.InstNe
import KE.LtData
import KE.KDictSum
import KE.KDictCopyH
import HandS.TryMany
import KE.KExcIs
set_option Elab.async false
set_option linter.all false
set_option maxRecDepth 100000
set_option maxHeartbeats 4000000
set_option autoImplicit false
set_option hygiene false
local macro_rules | `($x:ident) => do
 let .str .anonymous s := x.getId | Lean.Macro.throwUnsupported
 if s.front != 'Y' then Lean.Macro.throwUnsupported
 match s with
 | "Ya" => `((by simp_all_arith!))
 | "Yb" => `((hr.mono (by decide)))
 | "Yc" => `((X.blk s H scope (compEnvC scope cl C X.env) fp))
 | "Yd" => `((L2.CX P w))
 | "Ye" => `((fun s => rfl))
 | "Yf" => `((by omega))
 | "Yg" => `((by decide +kernel))
 | "Yh" => `((mC (.int 0)))
 | "Yi" => `((.Call (.Attribute (.Call (.Name "super" p0) [] [] p1) "__init__" p2) [.Constant (.str txt) j p3] [] p4))
 | "Yj" => `((fun _ _ _ _ _ => za4))
 | "Yk" => `((by simp [Rw, Rf]))
 | "Yl" => `((Aft.refl s))
 | "Ym" => `((model X.prog X.w))
 | "Yn" => `((fun s => ⟨_, _, rfl, by simp [Rw, Rf], rfl⟩))
 | "Yo" => `((.bl false))
 | "Yp" => `((.tup (ds.map dTr)))
 | "Yq" => `((mC (.int 1)))
 | "Yr" => `((zac (mVar 3) (mNil)))
 | "Ys" => `((NestedKey × Addr × V))
 | "Yt" => `((ds.map fun d => .str (dTx d)))
 | "Yu" => `((by with_unfolding_all rfl))
 | "Yv" => `((List.mem_cons_self ..))
 | "Yw" => `((ts.map W.t))
 | "Yx" => `((eqW false))
 | _ => Lean.Macro.throwUnsupported
local macro_rules | `($x:ident) => do
 let .str .anonymous s := x.getId | Lean.Macro.throwUnsupported
 if s.front != 'Y' then Lean.Macro.throwUnsupported
 match s with
 | "Yy" => `((zac (mVar 0) (mNil)))
 | "Yz" => `((.DictComp kx vx [⟨tg, iter, [], 0⟩] scope pos))
 | "Y0" => `((zac (mC (.ty "tuple")) (mNil)))
 | "Y1" => `((.str line))
 | "Y2" => `((seqObj "list" vs.toArray 0))
 | "Y3" => `((zaa (zab 3) (zad)))
 | "Y4" => `((zai (zan (zbw))))
 | "Y5" => `((.t (.str "")))
 | "Y6" => `((PySem.W.ksFn "__init__" "InvalidReader.__init__" (defArgs (inClass (topS 4) 0)) (defBody (inClass (topS 4) 0)) (defScope (inClass (topS 4) 0)) .none ye5 ye6 ye7 ye9 (.ref ybp) ye8 ycs))
 | "Y7" => `((.str "r"))
 | "Y8" => `((PySem.W.ksFn "__init__" "InvalidKind.__init__" (defArgs (inClass (topS 3) 0)) (defBody (inClass (topS 3) 0)) (defScope (inClass (topS 3) 0)) .none yhf yhg yhh yhj (.ref yb8) yhi ydr))
 | "Y9" => `((PySem.W.ksFn "__init__" "InvalidText.__init__" (defArgs (inClass (topS 6) 0)) (defBody (inClass (topS 6) 0)) (defScope (inClass (topS 6) 0)) .none yhw yhx yhy yh0 (.ref yb9) yhz ydx))
 | "Yaa" => `((zac (mVar 1) (mNil)))
 | "Yab" => `((mC (.str "torn")))
 | "Yac" => `((by simp; omega))
 | "Yad" => `((zaa (zab 1) (zad)))
 | "Yae" => `((.bl true))
 | "Yaf" => `((zac (mSM zcp (mVar 4) (mC (.str ", "))) (zac (mIf (zah asB (mBin (eqW true) (mVar 5) (mC (.str "")))) (mSM zcp (mVar 6) (mC (.str ", "))) (mApp zaw (mNil))) (mNil))))
 | "Yag" => `((cellsFrom (s3.heap.objs.size + 1) scope.names (cloFrom X.env.cells scope.names [])))
 | "Yah" => `((zac (mVar 2) (mNil)))
 | "Yai" => `((.cls "Reader"))
 | "Yaj" => `((mApp zaw (mNil)))
 | "Yak" => `((if ltCps x.cps.toList y.cps.toList = true then [u, v] else [v, u]))
 | "Yal" => `((model prog w))
 | _ => Lean.Macro.throwUnsupported
local macro_rules | `($x:ident) => do
 let .str .anonymous s := x.getId | Lean.Macro.throwUnsupported
 if s.front != 'Y' then Lean.Macro.throwUnsupported
 match s with
 | "Yam" => `((e :: es))
 | "Yan" => `((fun x => hc (by simp [x])))
 | "Yao" => `((mFld ["Kind", "Reader"] "deeds" (mVar 0)))
 | "Yap" => `((getMethod ov "__init__" (do return (← importBound (.Call (.Name "super" p0) [] [] p1) env).getD true)))
 | "Yaq" => `((.t (.tup ts)))
 | "Yar" => `((mC .non))
 | "Yas" => `((.t (.lst ts)))
 | "Yat" => `((List.mem_cons_of_mem _ hx))
 | "Yau" => `((fun _ _ => rfl))
 | "Yav" => `((.builtin "object.__class__"))
 | "Yaw" => `((by simp))
 | "Yax" => `((mAsg (mVar 2) (gA 8 (gsC (gN 4) (gsC (gN 5) (gsC (gN 6) (gsC (gN 7) (gsC (gN 8) (gsC (gN 9) (gsC (gN 10) (gsC (gN 11) gsN)))))))))))
 | "Yay" => `((zaa (zab 2) (zad)))
 | "Yaz" => `((zaa (zab 0) (zad)))
 | "Ya0" => `((.t .non))
 | "Ya1" => `((zfd (zag (zae 4) (zag (zae 5) (zag (zae 6) (zag (zae 7) (zag (zae 8) (zag (zae 9) (zag (zae 10) (zag (zae 11) (za7)))))))))))
 | "Ya2" => `((mC (.str "")))
 | "Ya3" => `((.type "BaseException"))
 | "Ya4" => `((PySem.W.fnOf "__init__" "Reader.__init__" (defArgs yab) (defBody yab) (defScope yab) (.ref yb1) ydy ydz yd0 yd2 yce yd1))
 | "Ya5" => `((PySem.W.fnOf "__init__" "Design.__init__" (defArgs yak) (defBody yak) (defScope yak) (.ref yb2) yd6 yd7 yd8 yea ycf yd9))
 | "Ya6" => `((zbp eta us))
 | "Ya7" => `((eqW true))
 | "Ya8" => `((mNot (zah truW (mApp (oIsi zbo) (zac (mVar 0) (zac (mC (.ty "str")) (mNil)))))))
 | "Ya9" => `((Addr × Obj))
 | _ => Lean.Macro.throwUnsupported
local macro_rules | `($x:ident) => do
 let .str .anonymous s := x.getId | Lean.Macro.throwUnsupported
 if s.front != 'Y' then Lean.Macro.throwUnsupported
 match s with
 | "Yba" => `((PySem.W.fnOf x q (defArgs s) (defBody s) (defScope s) .none kV dc pm an cd ct))
 | "Ybb" => `((PySem.W.fnOf "certifies" "certifies" (defArgs yai) (defBody yai) (defScope yai) (.ref yda) ygx ygy ygz yg1 yei yg0))
 | "Ybc" => `((zaa (zaj) (zaa (zat (zad)) (zaa (zam) (zaa (zat (zad)) (zaa (zaj) (zad)))))))
 | "Ybd" => `((mSq (mVar 0)))
 | "Ybe" => `((zac (mVar 5) (mNil)))
 | "Ybf" => `((.t (.int i)))
 | "Ybg" => `((pgs_nil))
 | "Ybh" => `((s.heap.objs.size + 1))
 | "Ybi" => `((starEach es X.env))
 | "Ybj" => `((gsC (gN 2) (gsC (gN 3) gsN)))
 | "Ybk" => `((zaq (zab 2) (zaj)))
 | "Ybl" => `((.cls "Design"))
 | "Ybm" => `((hK P w k))
 | "Ybn" => `((NestedKey × Addr × Value))
 | "Ybo" => `((os.map onR))
 | "Ybp" => `((oIsi zbo))
 | "Ybq" => `((.cons rfl .nil))
 | "Ybr" => `((mC (.int 2)))
 | "Ybs" => `((Option Value))
 | "Ybt" => `((.Call (.Name "len" p) [.Call (.Name "set" p2) [a] [] q] [] pos))
 | "Ybu" => `((zaa (zam) (zad)))
 | "Ybv" => `((.cls "Kind"))
 | "Ybw" => `((.t (.str n)))
 | "Ybx" => `((ns.map T.int))
 | _ => Lean.Macro.throwUnsupported
local macro_rules | `($x:ident) => do
 let .str .anonymous s := x.getId | Lean.Macro.throwUnsupported
 if s.front != 'Y' then Lean.Macro.throwUnsupported
 match s with
 | "Yby" => `((some (.builtin "object.__setattr__")))
 | "Ybz" => `((A.deeper (envOfC qual (defScope st) s.heap.objs.size f cdv)))
 | "Yb0" => `((Nat.lt_of_sub_eq_succ rfl))
 | "Yb1" => `((by first | exact blkOk_by (N := yqn) (sc := defScope yix) (by decide +kernel) | exact blkOk_by (by with_unfolding_all rfl) | exact blkOk_by (by decide +kernel +revert)))
 | "Yb2" => `((by first | exact blkOk_by (N := ymf) (sc := defScope yfm) (by decide +kernel) | exact blkOk_by (by with_unfolding_all rfl) | exact blkOk_by (by decide +kernel +revert)))
 | "Yb3" => `((by first | exact blkOk_by (N := yoq) (sc := defScope ygv) (by decide +kernel) | exact blkOk_by (by with_unfolding_all rfl) | exact blkOk_by (by decide +kernel +revert)))
 | "Yb4" => `((by first | exact blkOk_by (N := y06) (sc := defScope yq7) (by decide +kernel) | exact blkOk_by (by with_unfolding_all rfl) | exact blkOk_by (by decide +kernel +revert)))
 | "Yb5" => `((by first | exact blkOk_by (N := yqy) (sc := defScope yiy) (by decide +kernel) | exact blkOk_by (by with_unfolding_all rfl) | exact blkOk_by (by decide +kernel +revert)))
 | "Yb6" => `((by first | exact blkOk_by (N := yzf) (sc := defScope ynt) (by decide +kernel) | exact blkOk_by (by with_unfolding_all rfl) | exact blkOk_by (by decide +kernel +revert)))
 | "Yb7" => `((hp.objs.size + 1))
 | "Yb8" => `((.type "type"))
 | "Yb9" => `((gT 2 (gsC (gN 4) (gsC (gN 5) gsN))))
 | "Yca" => `((gT 2 (gsC (gN 6) (gsC (gN 7) gsN))))
 | "Ycb" => `((zac (mVar 4) (mNil)))
 | "Ycc" => `((zac (mVar 8) (mNil)))
 | "Ycd" => `((.t (.int (i : Nat))))
 | "Yce" => `((isB true))
 | "Ycf" => `((.ref s.heap.objs.size))
 | "Ycg" => `((defScope st))
 | "Ych" => `((.t (.int (at_ : Nat))))
 | "Yci" => `((zaa (zab 5) (zad)))
 | "Ycj" => `((DitO X.w D []))
 | "Yck" => `((.str (numS i)))
 | "Ycl" => `((fun _ => vc_ret (vc_c (vc_rt ⟨_, rfl, rfl, rfl⟩))))
 | _ => Lean.Macro.throwUnsupported
local macro_rules | `($x:ident) => do
 let .str .anonymous s := x.getId | Lean.Macro.throwUnsupported
 if s.front != 'Y' then Lean.Macro.throwUnsupported
 match s with
 | "Ycm" => `((.r (k + 3)))
 | "Ycn" => `((.t (.int 0)))
 | "Yco" => `((zag (zae 2) (zag (zae 3) (za7))))
 | "Ycp" => `((.ListComp elt [⟨tg, iter, ifs, 0⟩, ⟨tg1, iter1, ifs1, 0⟩] scope pos))
 | "Ycq" => `((zfc (zab 2) (zfg rfl (pgs_cons (pg_name (i := 4) hN rfl Ya) (pgs_cons (pg_name (i := 5) hN rfl Ya) (pgs_cons (pg_name (i := 6) hN rfl Ya) (pgs_cons (pg_name (i := 7) hN rfl Ya) (pgs_cons (pg_name (i := 8) hN rfl Ya) (pgs_cons (pg_name (i := 9) hN rfl Ya) (pgs_cons (pg_name (i := 10) hN rfl Ya) (pgs_cons (pg_name (i := 11) hN rfl Ya) Ybg))))))))) Ya1))
 | "Ycr" => `((pgs_cons (pg_name (i := 2) hN rfl Ya) (pgs_cons (pg_name (i := 3) hN rfl Ya) Ybg)))
 | "Ycs" => `((pg_name (i := 5) hN rfl Ya))
 | "Yct" => `((by decide))
 | "Ycu" => `((pg_name (i := 6) hN rfl Ya))
 | "Ycv" => `((zbi (zbc (zal (dts := []) (dvs := []) y8 Yb hgd (by rfl) yac yad y9 .nil Ye zak Yaz))))
 | "Ycw" => `((pg_name (i := 4) hN rfl Ya))
 | "Ycx" => `((pg_name (i := 7) hN rfl Ya))
 | "Ycy" => `((ie_cmeth (dts := []) (dvs := []) yc.cn r_Design cm_Design_read ybe Yb hgd ybo .nil Ye zf7 (fun σ => L2.passAt zf4 σ) (ie_cls yc.cn yc.mg) Ybu))
 | "Ycz" => `((mRet (mC Yo)))
 | "Yc0" => `((.Call (.Name "super" p0) [] [] p1))
 | "Yc1" => `((zai (st_raise rfl (L2N.takes_of rfl rfl rfl rfl) (xc_cold yh.T yh.iC yh.tI yh.cn yh.ok Yb yh.bd rfl yh.mg Ybu))))
 | "Yc2" => `((.Call (.Name x p) Yam [] pos))
 | "Yc3" => `((zbi (zbc (zbg za9 (zcv hT) (zaa (zab 0) (zaa (ze9 yap Yu) (zad))) ya))))
 | "Yc4" => `((zac Yh (zac Yaj (zac (mC (.str "open")) (zac Yaj (zac Yh (mNil)))))))
 | "Yc5" => `((fun _ _ _ _ _ => zat (zaa (zbn yx (zab 5)) (zaa (zal (dts := []) (dvs := []) yjd Yb hgd (by rfl) ykk ykl yje .nil Ye zak (zaa (zab 0) (zaa (zab 1) (zaa (zab 2) (zaa (zab 5) Y3))))) (zad)))))
 | "Yc6" => `((zbc (zbg za9 (zcv hT) (zaa (zab 0) (zaa (ze9 ye Yu) (zad))) ya)))
 | "Yc7" => `((mSeq (mIf (mAnd (zah asB (mBin Ya7 (mVar 5) Ya2)) (zah asB (mBin Yx (mVar 6) Ya2))) (mRaise (mExc "InvalidText" "at" (zac Yh (mNil)))) (za8)) (zel (hitC "InvalidReader") 7 zbq zeb)))
 | "Yc8" => `((ie_isB (zal (dts := [.non]) (dvs := [V.non]) yag Yb hgd (by rfl) yan y6 yah Ybq Yn zak (zaa (zab 9) (zaa (zam) (zaa (zam) (zaa (zb6 (zab 10) zds (zco (zaj))) (zad)))))) (zbw)))
 | "Yc9" => `((fun _ _ _ _ _ => pg_name (i := 1) hN rfl Ya))
 | _ => Lean.Macro.throwUnsupported
local macro_rules | `($x:ident) => do
 let .str .anonymous s := x.getId | Lean.Macro.throwUnsupported
 if s.front != 'Y' then Lean.Macro.throwUnsupported
 match s with
 | "Yda" => `((fun _ _ _ _ _ => zal (dts := []) (dvs := []) yg5 (hr.mono (Nat.le_refl _)) hgd (by rfl) yli ylj yjk .nil Ye hG (zaa (zab 0) (zaa (ie_sub (zab 1) (zaj)) (zad)))))
 | "Ydb" => `((mBin ixW (mVar 2) Yh))
 | "Ydc" => `((mBin ixW (mVar 3) Yh))
 | "Ydd" => `((zez (zal (dts := [.non]) (dvs := [V.non]) yag Yb hgd (by rfl) yan y6 yah Ybq Yn zak (zaa (zab 9) (zaa (zam) (zaa (zam) (zaa (zab 10) (zad)))))) (zbw)))
 | "Yde" => `((Str.ofString "stirred"))
 | "Ydf" => `((.builtin "sorted"))
 | "Ydg" => `((List.mem_cons_of_mem _ hu))
 | "Ydh" => `((some (.builtin "ValueError.__init__")))
 | "Ydi" => `(("at", .t (.int 0)))
 | "Ydj" => `((ks.map knR))
 | "Ydk" => `((rs.map rdR))
 | "Ydl" => `((zc3 (zag (zae 4) (zag (zae 5) (za7)))))
 | "Ydm" => `((zaa (zab 4) (zad)))
 | "Ydn" => `((zc3 (zag (zae 6) (zag (zae 7) (za7)))))
 | "Ydo" => `((ie_prop yc.cn yc.cl yp yz Yb hgd y5 (zak) (zab 0)))
 | "Ydp" => `((.r hp.length))
 | "Ydq" => `((zac (mC Y7) (zac Yab (zac (mApp zaw Yr) (mNil)))))
 | "Ydr" => `((zah asB (mBin Yce (zar zap [.non] (zac (mVar 2) (zac (mC Y7) (zac (mC (.str "early")) (zac (mApp zaw (zac (mVar 3) Yr)) (mNil)))))) (mC Yae))))
 | "Yds" => `((zai (zan (za6))))
 | "Ydt" => `((zaa (zaj) (zad)))
 | "Ydu" => `((by rw [wipe_length]; simpa using hl))
 | "Ydv" => `((.tpl [.r k, .r (k + 1), .r (k + 2)]))
 | "Ydw" => `((SetTable.insertAt es j (hK P w k, Value.ref x)))
 | "Ydx" => `((zb1 hu (zab 9) (zam)))
 | _ => Lean.Macro.throwUnsupported
local macro_rules | `($x:ident) => do
 let .str .anonymous s := x.getId | Lean.Macro.throwUnsupported
 if s.front != 'Y' then Lean.Macro.throwUnsupported
 match s with
 | "Ydy" => `((fun xs H Q => (∃ a, xs = [.str a] ∧ Q (.str a) H) ∨ (∃ i, xs = [.int i] ∧ i.natAbs.log2 < 1920 ∧ Q (.str (toString i)) H)))
 | "Ydz" => `((X.blk z3 H3 scope ce fp))
 | "Yd0" => `((X.blk s3 H3 scope ce fp))
 | "Yd1" => `((zah asB (mBin Yx (mVar 9) (mC (.str "past")))))
 | "Yd2" => `((zbg call_len zb4 Yaz yg))
 | "Yd3" => `((.t (.int j)))
 | "Yd4" => `((PySem.HandSPX.excO C hp.objs.size))
 | "Yd5" => `((zah asB (mBin Yce (zar zap [.non] (zac (mVar 7) (zac (mC Y7) (zac Yab (zac (mApp zaw (zac (mVar 3) Ycc)) (mNil)))))) (mC Yae))))
 | "Yd6" => `((zah asB (mBin Yce (zar zap [.non] (zac (mVar 7) (zac (mC Y7) (zac Yab (zac (mApp zay (zac (mVar 3) Ycc)) (mNil)))))) (mC Yo))))
 | "Yd7" => `((zah truW (zar zap [.non] (zac (mVar 7) (zac (mC Y7) (zac (mC (.str "early")) (zac (mApp zaw (zac (mVar 8) Yr)) (mNil))))))))
 | "Yd8" => `((zah asB (mBin Yce (zar zap [.non] (zac (mVar 9) (zac (mC Y7) (zac (mC (.str "early")) (zac (mVar 10) (mNil)))))) (mC Yae))))
 | "Yd9" => `((model P w))
 | "Yea" => `((L2.CX X.prog X.w))
 | "Yeb" => `((List Key × T))
 | "Yec" => `((X.env :: X.outer))
 | "Yed" => `((some (.ref a)))
 | "Yee" => `((.t (.str a)))
 | "Yef" => `((fun s => by simp [Rw, Rf]))
 | "Yeg" => `((Addr × List Key))
 | "Yeh" => `((.ref ym))
 | "Yei" => `((mNot (zah truW (zar zav [] Yy))))
 | "Yej" => `((.t (.str p)))
 | "Yek" => `((mBin Yce (zar zap [.non] (zac (mVar 2) (zac (mC Y7) (zac (mVar 6) (zac (mApp zaw (zac (mVar 3) Ybe)) (mNil)))))) (mC Yo)))
 | "Yel" => `((.t (.str (zbm ds))))
 | _ => Lean.Macro.throwUnsupported
local macro_rules | `($x:ident) => do
 let .str .anonymous s := x.getId | Lean.Macro.throwUnsupported
 if s.front != 'Y' then Lean.Macro.throwUnsupported
 match s with
 | "Yem" => `((starEach [.Constant (.str txt) j p3] env))
 | "Yen" => `((sortingHeap (h1.push Y2) h1.objs.size vs))
 | "Yeo" => `((he.run pins s σ H _ I h))
 | "Yep" => `((keywordEach [] X.env))
 | "Yeq" => `((.Call (.Attribute o mn apos) Yam [] pos))
 | "Yer" => `((fun acc k => if memT k acc = true then acc else acc ++ [k]))
 | "Yes" => `((Str.ofString "great"))
 | "Yet" => `((.t (.tup [.non, .non, rT5 n s1 s2 d t])))
 | "Yeu" => `((ws.drop (i + 1)))
 | "Yev" => `((((ze5 ks).length : Nat) : Int))
 | "Yew" => `((mApp zay (zac (zfx "Design" zbj [] (mC Ybl) (zac (mC (.str "kind m: write a\nreader r: read a")) (mNil))) (mNil))))
 | "Yex" => `((.str (zgi n ds)))
 | "Yey" => `((zaq (zab 3) (zaj)))
 | "Yez" => `((.Call (.Attribute o m apos) Yam [] pos))
 | "Ye0" => `((fun v H2 => v = .non ∧ Q (.ref x) H2))
 | "Ye1" => `((ns.map V.int))
 | "Ye2" => `((.t (.int 1)))
 | "Ye3" => `((cs.map T.str))
 | "Ye4" => `((zai (st_raise rfl (L2N.takes_of rfl rfl rfl rfl) (xc_cold yu.T yu.iC yu.tI yu.cn yu.ok Yb yu.bd rfl yu.mg Ybu))))
 | "Ye5" => `((zah asB (mBin Yce (zar zap [.non] (zac (mVar 7) (zac (mC Y7) (zac Yab (zac (mApp zaw Ycc) (mNil)))))) (mC Yo))))
 | "Ye6" => `((List Key × V))
 | "Ye7" => `((Nat.le_refl _))
 | "Ye8" => `((wipe σ us))
 | "Ye9" => `((.t (.bl b)))
 | _ => Lean.Macro.throwUnsupported
local macro_rules | `($x:ident) => do
 let .str .anonymous s := x.getId | Lean.Macro.throwUnsupported
 if s.front != 'Y' then Lean.Macro.throwUnsupported
 match s with
 | "Yfa" => `((.ref yb))
 | "Yfb" => `((zah truW (mApp Ybp (zac (mVar 0) Y0))))
 | "Yfc" => `((zah truW (mApp Ybp (zac (mVar 3) Y0))))
 | "Yfd" => `((zac (zba zay (mSq (mVar 3)) (gN 7) mYes zcn [7]) (mNil)))
 | "Yfe" => `(((l.2.2 : Nat) : Int))
 | "Yff" => `((fun z => by cases z))
 | "Yfg" => `((Key × W))
 | "Yfh" => `((.type "function"))
 | "Yfi" => `((mSrc rng1 (zac (mC (.int 3)) (mNil))))
 | "Yfj" => `((zar zap [.non] (zac (mVar 9) (zac (mC Y7) (zac Yab (zac (mSl (mVar 10) zca (ze8 (mC (.int 3)))) (mNil)))))))
 | "Yfk" => `((.t (.lst (ds.map dTr))))
 | "Yfl" => `((.ins "Reader" []))
 | "Yfm" => `((fun _ _ _ _ _ => zal (dts := []) (dvs := []) ynd Yb hgd (by rfl) yp3 yp4 yne .nil Ye zak (zaa (zab 4) Yad)))
 | "Yfn" => `((fun _ _ _ _ _ => zb8 ((zdx (zgf (zab 5) (za6)) (zc4 (zb1 hu (zaq (zab 5) (zaj)) (zaq (zab 1) (zaj))))).it)))
 | "Yfo" => `((zbg call_len zb4 Y3 yg))
 | "Yfp" => `((fun _ _ _ _ _ => zal (dts := []) (dvs := []) ynf Yb hgd (by rfl) yp5 yp6 yng .nil Ye zak (zaa (zab 4) Yad)))
 | "Yfq" => `((fun _ _ _ _ _ => zal (dts := []) (dvs := []) ynh Yb hgd (by rfl) yp7 yp8 yni .nil Ye zak (zaa (zab 3) Yad)))
 | "Yfr" => `((inW false))
 | "Yfs" => `((.dK (mergeK [] (ks.zip ys))))
 | "Yft" => `((("self" : Str), Value.ref e))
 | "Yfu" => `((q.mono fun _ _ q => Wp.ok q))
 | "Yfv" => `((pgs_cons Ycw (pgs_cons Ycs Ybg)))
 | "Yfw" => `((pgs_cons Ycu (pgs_cons Ycx Ybg)))
 | "Yfx" => `((hp.set i (some (.ins "Design" [("kinds", .t (.tup Ydj)), ("readers", .t (.tup Ydk)), ("rounds", .t (.tup Ybo))]))))
 | _ => Lean.Macro.throwUnsupported
local macro_rules | `($x:ident) => do
 let .str .anonymous s := x.getId | Lean.Macro.throwUnsupported
 if s.front != 'Y' then Lean.Macro.throwUnsupported
 match s with
 | "Yfy" => `((mProp "Design" za5 (mVar 0)))
 | "Yfz" => `((zah asB (mBin Yce (zar zap [.non] (zac (mVar 9) (zac (mC Y7) (zac Yab (zac (mVar 10) (mNil)))))) (mC Yo))))
 | "Yf0" => `((zal (dts := []) (dvs := []) ybc Yb hgd (by rfl) ybj ybk ybd .nil Ye zak (zaa (zab 1) (zaa (zab 7) (zad)))))
 | "Yf1" => `((fun a oe pn xe hot => xc_hot yf.T yf.iC yf.tI yf.cn yf.hot (L2H.roomH_mark Yb _) hot yf.bd rfl yf.mg Ydt))
 | "Yf2" => `((eta.set i (some a)))
 | "Yf3" => `((cxOf CX P w K mg base N qual Ycg f cdv A outer s H E))
 | "Yf4" => `((.ref yo))
 | "Yf5" => `((fun r s' => r = .ok (.ret (.bool true)) ∧ OldK s1.heap s'.heap ∧ s'.os = s1.os ∧ AllBare s'.gens))
 | "Yf6" => `((mBin Yx (mBin ixW (mBin ixW (mVar 1) Ydc) Yq) (mBin ixW (mBin ixW (mVar 1) (mBin ixW (mVar 3) Yq)) Yq)))
 | "Yf7" => `((["c", "e"] : List Str))
 | "Yf8" => `((rT5 l.2.1 l.2.2.1 l.2.2.2.1 l.2.2.2.2.1 l.2.2.2.2.2))
 | "Yf9" => `((zaa (ze9 ye Yu) (zad)))
 | "Yga" => `((pg_name (i := 8) hN rfl Ya))
 | "Ygb" => `((zai (zan (zat (zaa (zam) (zaa (zat (zad)) (zad)))))))
 | "Ygc" => `((by rw [R.len]; exact Nat.le_refl _))
 | "Ygd" => `((zah asB (mBin Yce (zar zap [.non] (zac (mVar 7) (zac (mC Y7) (zac Yab (zac Yaj (mNil)))))) (mC Yo))))
 | "Yge" => `((rT5 n s1 s2 d t))
 | "Ygf" => `((hp.set i (some (.ins "Design" (putA "readers" (.t (.tup Ydk)) (putA "kinds" (.t (.tup Ydj)) []))))))
 | "Ygg" => `((by simpa using hl))
 | "Ygh" => `((RwL.of_trees.mp l))
 | "Ygi" => `((t_const fun s => by simp [Rw, Rf]))
 | "Ygj" => `((isN false))
 | "Ygk" => `((fun a b => sle a b = true))
 | "Ygl" => `((.t (.tup [.non, kT3 n s d, .non])))
 | _ => Lean.Macro.throwUnsupported
local macro_rules | `($x:ident) => do
 let .str .anonymous s := x.getId | Lean.Macro.throwUnsupported
 if s.front != 'Y' then Lean.Macro.throwUnsupported
 match s with
 | "Ygm" => `((zaq (zab 0) (zaj)))
 | "Ygn" => `((zaa (zab 8) (zad)))
 | "Ygo" => `((mBin ixW (mVar 2) Yq))
 | "Ygp" => `((zar zap [.non] (zac (mVar 9) (zac (mC Y7) (zac Yab (zac (mSl (mVar 10) zca (ze8 Ybr)) (mNil)))))))
 | "Ygq" => `((some (.t (.str l.1))))
 | "Ygr" => `((by rw [wipe_length, wipe_length]; simpa using hl))
 | "Ygs" => `((.ListComp elt [⟨tg, iter, ifs, 0⟩] scope pos))
 | "Ygt" => `((fun _ _ _ _ _ => zb8 ((zdx (zgf (zaq (zab 6) (zab 8)) (za6)) (zc4 (it_ge (zab 8) (zab 3)))).it)))
 | "Ygu" => `((fun _ _ _ _ _ => zdq (dts := []) (dvs := []) yc.cn yc.cl yr yq Yb hgd yt .nil Ye zak (zab 0) Y3))
 | "Ygv" => `((mFld ["Design"] "kinds" (mVar 0)))
 | "Ygw" => `((.t (.tup [oT2 c' n, .non, .non])))
 | "Ygx" => `((.tup [.str (Txt.partition a b).1, .str (Txt.partition a b).2.1, .str (Txt.partition a b).2.2]))
 | "Ygy" => `((.SetComp elt [⟨tg, iter, ifs, 0⟩] scope pos))
 | "Ygz" => `((Str × V))
 | "Yg0" => `((mAsg (mSM zbd (mVar 3) (mC (.str " if "))) (gA 3 (gsC (gN 4) (gsC (gN 5) (gsC (gN 6) gsN))))))
 | "Yg1" => `((.ins "Kind" []))
 | "Yg2" => `((zft (b := true) (orE (a := true) (b := true) u1 fun z => by cases z) Ycl fun h => by cases h))
 | "Yg3" => `((zbn yd (zab 0)))
 | "Yg4" => `((.Tuple elts kk tpos))
 | "Yg5" => `((tM X.K X.w Wx (SrcF X.K X.w) Fi))
 | "Yg6" => `((.Subscript e (.Slice none none (some (.UnaryOp .USub (.Constant (.int 1) k p1) p2)) p3) pos))
 | "Yg7" => `((X.blk z H scope (compEnvC scope cl C X.env) fp))
 | "Yg8" => `((mC (.str "look")))
 | "Yg9" => `((mApp newL (mNil)))
 | _ => Lean.Macro.throwUnsupported
local macro_rules | `($x:ident) => do
 let .str .anonymous s := x.getId | Lean.Macro.throwUnsupported
 if s.front != 'Y' then Lean.Macro.throwUnsupported
 match s with
 | "Yha" => `((pgs_cons Ycs (pgs_cons Ycu Ybg)))
 | "Yhb" => `((zag (zae 5) (zag (zae 6) (za7))))
 | "Yhc" => `((eval o X.env))
 | "Yhd" => `((mApp oLen Yr))
 | "Yhe" => `((zah asB (mBin Ya7 (mVar 2) (mApp zay (mNil)))))
 | "Yhf" => `((.t (.str tx)))
 | "Yhg" => `((zbg call_len zb4 Yad yg))
 | "Yhh" => `((zah asB (mBin Yx (mVar 9) (mC (.str "new")))))
 | "Yhi" => `((zbi (zbc (zal (dts := []) (dvs := []) yau Yb hgd (by rfl) ya1 ya2 yav .nil Ye zak Yad))))
 | "Yhj" => `((fun _ _ _ => False))
 | "Yhk" => `((by cases b <;> rfl))
 | "Yhl" => `((.lst ws))
 | "Yhm" => `((.nx eta))
 | "Yhn" => `((by rw [wipe_length]; exact hl))
 | "Yho" => `((.lst []))
 | "Yhp" => `((ws.map some ++ List.replicate (nn - n) none))
 | "Yhq" => `((spM X.K X.w m n))
 | "Yhr" => `((nomark _))
 | "Yhs" => `((.type "tuple"))
 | "Yht" => `((.ref x1))
 | "Yhu" => `(((a, oe) :: pn))
 | "Yhv" => `((some (.builtin "getset_descriptor.__get__")))
 | "Yhw" => `((fun _ _ _ _ _ => zab 6))
 | "Yhx" => `((fun _ _ _ _ _ => zab 3))
 | _ => Lean.Macro.throwUnsupported
local macro_rules | `($x:ident) => do
 let .str .anonymous s := x.getId | Lean.Macro.throwUnsupported
 if s.front != 'Y' then Lean.Macro.throwUnsupported
 match s with
 | "Yhy" => `((fun _ _ _ _ _ => zb8 (zb1 hu (zab 2) (zam))))
 | "Yhz" => `((fun _ _ _ _ _ => zbg call_abs ok_abs (zaa (zdw call_int1 ok_int Yci yc9) (zad)) y2y))
 | "Yh0" => `((pgs_cons (pg_name (i := 11) hN rfl Ya) (pgs_cons (pg_name (i := 12) hN rfl Ya) Ybg)))
 | "Yh1" => `((ha.run pos pins s σ H _ I h))
 | "Yh2" => `((Str × Nat))
 | "Yh3" => `((.t (.tup [.str "", .str ""])))
 | "Yh4" => `((cr_all rfl))
 | "Yh5" => `((.t (.lst (if ltCps p.1.cps.toList q.1.cps.toList = true then [t, u] else [u, t]))))
 | "Yh6" => `((fun k => W.t (.str k)))
 | "Yh7" => `((mBin Yce (zar zap [.non] (zac (mVar 2) (zac (mC Y7) (zac (mVar 6) Ybe)))) (mC Yo)))
 | "Yh8" => `((.str "torn"))
 | "Yh9" => `((pgs_cons (pg_name (i := 1) hN rfl Ya) (pgs_cons (pg_name (i := 2) hN rfl Ya) Ybg)))
 | "Yia" => `((fun (e : EntW) (p : Value × Value) => keyIs e.2.1 p.1 = true ∧ RelV e.2.2 p.2))
 | "Yib" => `((.lst xs))
 | "Yic" => `((fun _ (a b : Bool) => a = b))
 | "Yid" => `((mBin (inW true) (mC (.str "read")) (zba zay (mSq (mVar 4)) Yca mYes zck [6, 7])))
 | "Yie" => `((.str "reader "))
 | "Yif" => `((zac (mC (.ty "str")) (mNil)))
 | "Yig" => `((mFld ["Kind", "Reader"] "deeds" (mVar 1)))
 | "Yih" => `((L2.takes_of rfl rfl rfl rfl))
 | "Yii" => `((Str × W))
 | "Yij" => `((ns.map T.str))
 | "Yik" => `((.ref cda))
 | "Yil" => `(("self" : Str))
 | _ => Lean.Macro.throwUnsupported
local macro_rules | `($x:ident) => do
 let .str .anonymous s := x.getId | Lean.Macro.throwUnsupported
 if s.front != 'Y' then Lean.Macro.throwUnsupported
 match s with
 | "Yim" => `((mApp oLen Yy))
 | "Yin" => `((fun x H1 => ∃ k, x = .bl k ∧ Q k H1))
 | "Yio" => `((fun x H1 => D.nx (σ.set i (some x)) H1))
 | "Yip" => `((PySem.W.fnOf x x (defArgs s) (defBody s) (defScope s) .none kV dc pm an cd ct))
 | "Yiq" => `((some (.builtin "type.__getattribute__")))
 | "Yir" => `(((["if", "bump", "even", "kind", "look", "read", "same"] : List Str).map V.str))
 | "Yis" => `((mBin ixW (mVar 0) Yh))
 | "Yit" => `((zac (mFrz (mBin zf5 (mVar 2) Ybr)) (zac (mFrz (mBin zf5 (mVar 2) Yh)) (mNil))))
 | "Yiu" => `((mSrc rng1 (zac (zar zdr [] (zac (mVar 0) (zac (mC (.int 4)) (mNil)))) (mNil))))
 | "Yiv" => `((fun _ _ => False))
 | "Yiw" => `(((a, oe4) :: (X.pn ++ pins)))
 | "Yix" => `((fun (v : Value) (b : V × PyData) => RelV b.1 v ∧ ∃ as, Reads h v b.2 as))
 | "Yiy" => `((mC (.str "even")))
 | "Yiz" => `((fun _ _ _ => rfl))
 | "Yi0" => `((pg_name (i := 3) hN rfl Ya))
 | "Yi1" => `((pg_name (i := 9) hN rfl Ya))
 | "Yi2" => `((by simp only [List.length_cons]; omega))
 | "Yi3" => `((PySem.W.kxs_mw "ValueError.__init__" e))
 | "Yi4" => `((ce_nam F.on _ (List.mem_map_of_mem ho)))
 | "Yi5" => `((i _ _ _ hw))
 | "Yi6" => `((false, eval e X.env))
 | "Yi7" => `((cutL ts lo hi))
 | "Yi8" => `((h3.set i (some (.dic (putW kvs k v)))))
 | "Yi9" => `((fun z H' => ∃ i : Int, z = .int i ∧ 0 ≤ i ∧ i < 2 ^ 63 ∧ Q z H'))
 | _ => Lean.Macro.throwUnsupported
local macro_rules | `($x:ident) => do
 let .str .anonymous s := x.getId | Lean.Macro.throwUnsupported
 if s.front != 'Y' then Lean.Macro.throwUnsupported
 match s with
 | "Yja" => `((List.mem_cons_of_mem _ hb))
 | "Yjb" => `((mC (.str " ")))
 | "Yjc" => `((mApp oLen Yaa))
 | "Yjd" => `((zac (mVar 7) (mNil)))
 | "Yje" => `((.tup (ws.map T.str)))
 | "Yjf" => `((by rw [lst_ok Yac, List.map_map]; rfl))
 | "Yjg" => `((kT3 l.2.1 l.2.2.1 l.2.2.2))
 | "Yjh" => `((.type "str"))
 | "Yji" => `((F eta hp))
 | "Yjj" => `((mRet Yar))
 | "Yjk" => `((cs.map chkT))
 | "Yjl" => `((hr.mono (Nat.le_add_right_of_le Yct)))
 | "Yjm" => `((.tup [.int (i : Nat), x]))
 | "Yjn" => `((m (.r s.hp.length :: (ws ++ dts.map W.t)) (s.hp ++ [some (.ins c [])])))
 | "Yjo" => `((by rw [tl_if]; exact free_steps ds (List.ne_nil_of_length_pos h0) h.ok))
 | "Yjp" => `((eta.set i (some w)))
 | "Yjq" => `((RwL.of_trees.mpr l))
 | "Yjr" => `((starEach Yam X.env))
 | "Yjs" => `((Nat.lt_succ_self _))
 | "Yjt" => `((show (PySem.Froz.sObj "set" (es, ep, t)).data = .set es ep t from rfl))
 | "Yju" => `((zdw zbr zeg Yay ye))
 | "Yjv" => `((zac (mC (.str "same")) (zac Ydc (zac (mBin ixW (mVar 3) Yq) (mNil)))))
 | "Yjw" => `((.lst vs))
 | "Yjx" => `((fun _ f => f))
 | _ => Lean.Macro.throwUnsupported
local macro_rules | `($x:ident) => do
 let .str .anonymous s := x.getId | Lean.Macro.throwUnsupported
 if s.front != 'Y' then Lean.Macro.throwUnsupported
 match s with
 | "Yjy" => `((.Call (.Name "dict" p) [.Call (.Name "zip" p2) [e, e2] [] q] [] pos))
 | "Yjz" => `((.tup ts))
 | "Yj0" => `((.ref fI))
 | "Yj1" => `((.ins C dx []))
 | "Yj2" => `((s0.addL D (.dit []) Ycj))
 | "Yj3" => `((.ref yn))
 | "Yj4" => `((.ref yi))
 | "Yj5" => `((.ref yj))
 | "Yj6" => `((.str (dTx d)))
 | "Yj7" => `((fun r hr => by rw [List.mem_singleton.mp hr]; exact ⟨rpk1, rfl⟩))
 | "Yj8" => `((zbg call_len zb4 Yay yg))
 | "Yj9" => `((fun _ _ _ _ _ => ie_lenOwn yaq.cn ydd ydc Yb hgd yfl zak yg (zab 4)))
 | "Yka" => `(((List.range (j - i).toNat).map fun k => W.t (.int (i + (k : Nat)))))
 | "Ykb" => `((.type "object"))
 | "Ykc" => `((fun (v : Value) (b : V × PyData) => ∃ as, Reads s.heap v b.2 as))
 | "Ykd" => `((.t (kndT n ds)))
 | "Yke" => `((zbb (sm_ok rfl rfl (zeo (split_steps h.ok h0) Yg Yf)) (zbb a3 rfl)))
 | "Ykf" => `((fun env => rfl))
 | "Ykg" => `((.frz o (.lst Ye1)))
 | "Ykh" => `((fun _ (a b : Option Int) => a = b))
 | "Yki" => `((.str ": "))
 | "Ykj" => `((zaq (zab 1) (zaj)))
 | "Ykk" => `((defBody st))
 | "Ykl" => `((isN true))
 | _ => Lean.Macro.throwUnsupported
local macro_rules | `($x:ident) => do
 let .str .anonymous s := x.getId | Lean.Macro.throwUnsupported
 if s.front != 'Y' then Lean.Macro.throwUnsupported
 match s with
 | "Ykm" => `((.scr Ybx))
 | "Ykn" => `(((p.length : Nat) : Int))
 | "Yko" => `(((cs.map zde).map T.str))
 | "Ykp" => `((.ref yao))
 | "Ykq" => `((zaa (ze9 yap Yu) (zad)))
 | "Ykr" => `((zah asB (mBin Yce (zar zap [.non] (zac (mVar 2) Ydq)) (mC Yae))))
 | "Yks" => `((zah asB (mBin Yce (zar zap [.non] (zac (mVar 7) Ydq)) (mC Yo))))
 | "Ykt" => `((.t (.bl (if neg then !decide (x ∈ l) else decide (x ∈ l)))))
 | "Yku" => `((fun _ _ _ _ _ => zdw call_strS ok_str (zaa (zab 14) (zad)) yap))
 | "Ykv" => `((.frz o (.tup xs)))
 | "Ykw" => `((.Name x pos))
 | "Ykx" => `((.frz o (.tup vs)))
 | "Yky" => `((.nx ((is.zip ws).foldl (fun e p => e.set p.1 (some p.2)) eta)))
 | "Ykz" => `((s3.addF p' (.lst (cutV xs l u))))
 | "Yk0" => `((.ref x :: (vs ++ dvs)))
 | "Yk1" => `((way t.mask Ybm n))
 | "Yk2" => `((.bl (if neg then !(valN xs k).isSome else (valN xs k).isSome)))
 | "Yk3" => `((mApp oLen Yah))
 | "Yk4" => `((mSq (mSl (mVar 2) (ze8 Yq) zca)))
 | "Yk5" => `((mBin wAdd (mVar 5) Yq))
 | "Yk6" => `((w ++ " " ++ r))
 | "Yk7" => `((mBin Ya7 (mVar 5) Ya2))
 | "Yk8" => `((.str (rdrTxC n ds cs)))
 | "Yk9" => `((spM K w zb0 1))
 | _ => Lean.Macro.throwUnsupported
local macro_rules | `($x:ident) => do
 let .str .anonymous s := x.getId | Lean.Macro.throwUnsupported
 if s.front != 'Y' then Lean.Macro.throwUnsupported
 match s with
 | "Yla" => `((spM K w zav 1))
 | "Ylb" => `((zbs (zab 0)))
 | "Ylc" => `((ie_frz (ie_ixTpl (zab 2) (zaj))))
 | "Yld" => `((spM K w za1 2))
 | "Yle" => `((fun _ _ _ _ _ => pg_tup rfl (pgs_cons Ycx (pgs_cons Ycs Ybg))))
 | "Ylf" => `((fun z => nl (by rw [z]; exact ⟨i, c0, ⟨h0, hv⟩, ha⟩)))
 | "Ylg" => `((.int (if i < 0 then -i else i)))
 | "Ylh" => `((q.mono fun _ _ q => Wp.bind (q.mono fun _ _ q => Wp.bind q)))
 | "Yli" => `((by rw [List.length_map]; omega))
 | "Ylj" => `((zfe (prog := X.prog) (w := X.w) hd k2 i2 b n2 its2.toArray))
 | "Ylk" => `((.t (.bl (if neg then !decide (i = j) else decide (i = j)))))
 | "Yll" => `((.t (.lst (xs ++ ys))))
 | "Ylm" => `((mChain f f' Fa Fb Fc))
 | "Yln" => `((.t (.bl (if neg then !decide (b = c) else decide (b = c)))))
 | "Ylo" => `((.ins c (putA f v fs)))
 | "Ylp" => `((mBin ixW (mVar 0) Yq))
 | "Ylq" => `(((w0 :: ws).map T.str))
 | _ => Lean.Macro.throwUnsupported
set_option hygiene true
namespace Mir
open PySem PySem.Spec L2
open PyProof.Rows hiding St
/-- a frozen value as a tree -/
inductive T where
 | non | bl (b : Bool) | int (i : Int) | str (s : Str) | ty (n : String)
 | tup (xs : List T) | lst (xs : List T) | scr (xs : List T) | pr (xs : List T)
 | dic (ks : List Key) (vs : List T) | ins (c : Str) (ns : List Str) (vs : List T)
 | cls (c : Str) | dit (ks : List (List Key)) (vs : List T) | exc (c : Str) (ns : List Str) (vs : List T)
/-- a value: a tree, or a live cell -/
inductive W where
 | t (x : T) | r (i : Nat)
inductive Cell where
 | lst (xs : List W)
 | dic (kvs : List (Key × W))
 | ins (c : Str) (fs : List (Str × W))
 | dit (kvs : List (T × W))
 | tpl (ws : List W)
 /-- a dict keyed by nested tuples, locked for good -/
 | dil (kvs : List (T × W))
def Cell.alive : Cell → Prop
 | .dil _ => False
 | _ => True
abbrev IH := List (Option Cell)
structure Ex where
 cls : Str
 fs : List Yii
inductive Res (A : Type) where
 | ok (a : A) (h : IH) | er (e : Ex) (eta : List (Option W)) (h : IH) | bad
abbrev IS := List (Option W)
abbrev M (A : Type) := IS → IH → Res A
def Res.bind {A B : Type} (r : Res A) (k : A → IH → Res B) : Res B := match r with
 | .ok a h => k a h
 | .er e eta h => .er e eta h
 | .bad => .bad
/-- the state of the relation -/
structure S4 where
 rho : List Addr
 fz : Addr → Prop
 hp : IH
 H : Hp
def KTup (K : PySem.W.Frag) (a : Addr) (xs : List V) : Prop :=
 ∃ (o : Obj) (its : Array Value) (n : Nat), K.lookup a = some o ∧ o.cls = .type "tuple" ∧ o.dict = none ∧ o.data = .seq its n ∧ its.size ≤ sizeLine ∧ Vals xs its.toList
def KLst (K : PySem.W.Frag) (a : Addr) (xs : List V) : Prop :=
 ∃ (o : Obj) (its : Array Value) (n : Nat), K.lookup a = some o ∧ o.cls = .type "list" ∧ o.dict = none ∧ o.data = .seq its n ∧ its.size ≤ sizeLine ∧ Vals xs its.toList
def FTup (K : PySem.W.Frag) (fz : Addr → Prop) (H : Hp) (a : Addr) (xs : List V) : Prop := (fz a ∧ ∃ o : Obj, H a = some Ykv ∧ o.dict = none) ∨ KTup K a xs
/-- a pair that a walk lays -/
def FPr (fz : Addr → Prop) (H : Hp) (a : Addr) (xs : List V) : Prop := fz a ∧ H a = some (.tup xs)
/-- a dict whose keys are tuples -/
def FDit (fz : Addr → Prop) (H : Hp) (a : Addr) (kvs : List Ye6) : Prop := fz a ∧ H a = some (.dT kvs)
def FLst (fz : Addr → Prop) (H : Hp) (a : Addr) (xs : List V) : Prop := fz a ∧ H a = some Yib
def FDic (fz : Addr → Prop) (H : Hp) (a : Addr) (kvs : List (Key × V)) : Prop := fz a ∧ ∃ o, H a = some (.frz o (.dK kvs))
def FScr (K : PySem.W.Frag) (fz : Addr → Prop) (H : Hp) (a : Addr) (xs : List V) : Prop := (fz a ∧ ∃ o, H a = some (.frz o Yib)) ∨ KLst K a xs
/-- the class that the module's name c holds -/
def CN (K : PySem.W.Frag) (c : Str) (C : Addr) : Prop := PySem.W.nsIn K mainGlobals c = some (some (.ref C))
/-- a frozen instance -/
def FIns (fz : Addr → Prop) (H : Hp) (a C : Addr) (fs : List Ygz) : Prop := fz a ∧ ∃ dx, H a = some (.ins C dx fs)
mutual
def Rf (K : PySem.W.Frag) (fz : Addr → Prop) (H : Hp) : T → V → Prop
 | .non, v => v = .non
 | .bl b, v => v = .bl b
 | .int i, v => v = .int i
 | .str s, v => v = .str s
 | .ty n, v => v = .ty n
 | .tup xs, v => ∃ a vs, v = .ref a ∧ FTup K fz H a vs ∧ RfL K fz H xs vs
 | .lst xs, v => ∃ a vs, v = .ref a ∧ FLst fz H a vs ∧ RfL K fz H xs vs
 | .scr xs, v => ∃ a vs, v = .ref a ∧ FScr K fz H a vs ∧ RfL K fz H xs vs
 | .pr xs, v => ∃ a vs, v = .ref a ∧ FPr fz H a vs ∧ RfL K fz H xs vs
 | .dic ks xs, v => ∃ a vs, v = .ref a ∧ FDic fz H a (ks.zip vs) ∧ ks.length = xs.length ∧ RfL K fz H xs vs
 | .cls c, v => ∃ C, v = .ref C ∧ CN K c C
 | .dit ks xs, v => ∃ a vs, v = .ref a ∧ FDit fz H a (ks.zip vs) ∧ ks.length = xs.length ∧ RfL K fz H xs vs
 | .exc _ _ _, _ => False
 | .ins c ns xs, v => ∃ a C vs, v = .ref a ∧ CN K c C ∧ FIns fz H a C (ns.zip vs) ∧ ns.length = xs.length ∧ RfL K fz H xs vs
def RfL (K : PySem.W.Frag) (fz : Addr → Prop) (H : Hp) : List T → List V → Prop
 | [], vs => vs = []
 | x :: xs, vs => ∃ v r, vs = v :: r ∧ Rf K fz H x v ∧ RfL K fz H xs r
end
def Rw (K : PySem.W.Frag) (s : S4) : W → V → Prop
 | .t x, v => Rf K s.fz s.H x v
 | .r i, v => ∃ a, s.rho[i]? = some a ∧ v = .ref a
def RwL (K : PySem.W.Frag) (s : S4) : List W → List V → Prop
 | [], vs => vs = []
 | x :: xs, vs => ∃ v r, vs = v :: r ∧ Rw K s x v ∧ RwL K s xs r
def RwK (K : PySem.W.Frag) (s : S4) : List Yfg → List (Key × V) → Prop
 | [], vs => vs = []
 | x :: xs, vs => ∃ v r, vs = (x.1, v) :: r ∧ Rw K s x.2 v ∧ RwK K s xs r
def RwF (K : PySem.W.Frag) (s : S4) : List Yii → List Ygz → Prop
 | [], vs => vs = []
 | x :: xs, vs => ∃ v r, vs = (x.1, v) :: r ∧ Rw K s x.2 v ∧ RwF K s xs r
mutual
/-- a tree as a key -/
def nkT : T → Option NestedKey
 | .non => some .none
 | .bl b => some (.num (if b = true then 1 else 0))
 | .int i => some (.num i)
 | .str s => some (.text s)
 | .tup xs => (nkTL xs).map .tup
 | .ty _ => none | .lst _ => none | .scr _ => none | .pr _ => none | .dic _ _ => none | .ins _ _ _ => none | .cls _ => none | .dit _ _ => none | .exc _ _ _ => none
def nkTL : List T → Option (List NestedKey)
 | [] => some []
 | x :: xs => match nkT x, nkTL xs with | some k, some ks => some (k :: ks) | _, _ => none
end
/-- a dict whose keys are nested tuples: its entries, by the world's hash -/
def DitO (ω : World) (a : Addr) (xs : List Ys) : HO := .ext fun h => xs.length ≤ sizeLine ∧ (a == sysModules) = false ∧
 ∃ ys : List Ybn, Paired (fun (p : NestedKey × Addr × V) (q : NestedKey × Addr × Value) => p.1 = q.1 ∧ p.2.1 = q.2.1 ∧ RelV p.2.2 q.2.2) xs ys ∧ (ys.map (·.1)).Nodup ∧
 ∃ o es ep, h.get? a = some o ∧ o.ExactDict ∧ o.data = .dict es ep ∧ es.toList = ys.map fun y => (⟨y.1.hash ω, .ref y.2.1, y.2.2⟩ : DictEntry)
def RwD (K : PySem.W.Frag) (s : S4) : List (T × W) → List Ys → Prop
 | [], vs => vs = []
 | x :: xs, vs => ∃ k b v r, vs = (k, b, v) :: r ∧ nkT x.1 = some k ∧ k.depth ≤ 8 ∧ Rf K s.fz s.H x.1 (.ref b) ∧ Rw K s x.2 v ∧ RwD K s xs r
def CellOk (K : PySem.W.Frag) (ω : World) (s : S4) (a : Addr) : Cell → Option HO → Prop
 | .lst ws, o => ∃ vs, o = some Yjw ∧ RwL K s ws vs
 | .dic kvs, o => ∃ vs, o = some (.dK vs) ∧ RwK K s kvs vs
 | .ins c fs, o => ∃ C dx vs, o = some (.ins C dx vs) ∧ CN K c C ∧ RwF K s fs vs
 | .dit kvs, o => ∃ xs, o = some (DitO ω a xs) ∧ RwD K s kvs xs
 | .tpl ws, o => ∃ ob vs, o = some (.frz ob (.tup vs)) ∧ ob.dict = none ∧ RwL K s ws vs
 | .dil kvs, o => ∃ ob xs, o = some (.frz ob (DitO ω a xs)) ∧ RwD K s kvs xs
def Live (s : S4) (a : Addr) : Prop := ∃ (i : Nat) (c : Cell), (s.hp[i]? = some (some c) ∧ c.alive) ∧ s.rho[i]? = some a
structure Rel (K : PySem.W.Frag) (ω : World) (s : S4) : Prop where
 len : s.rho.length = s.hp.length
 nd : s.rho.Nodup
 trk : ∀ a ∈ s.rho, s.H a ≠ none
 ftrk : ∀ a, s.fz a → s.H a ≠ none
 fz : ∀ a, Live s a → ¬ s.fz a
 cell : ∀ (i : Nat) (c : Cell) (a : Addr), s.hp[i]? = some (some c) → s.rho[i]? = some a → CellOk K ω s a c (s.H a)
structure Aft (s s' : S4) : Prop where
 pre : ∃ ex, s'.rho = s.rho ++ ex ∧ ∀ a ∈ ex, s.H a = none
 fz : ∀ a, s.fz a → s'.fz a
 keep : ∀ a o, s.H a = some o → ¬ Live s a → s'.H a = some o
 fnew : ∀ a, s'.fz a → s.fz a ∨ s.H a = none ∨ Live s a
 live : ∀ a, Live s' a → Live s a ∨ s.H a = none
 trk : ∀ a, s.H a ≠ none → s'.H a ≠ none
theorem Aft.refl (s : S4) : Aft s s := ⟨⟨[], by simp, by simp⟩, fun _ h => h, fun _ _ h _ => h, fun _ h => .inl h, fun _ h => .inl h, fun _ h => h⟩
theorem Aft.trans {s s1 s2 : S4} (a : Aft s s1) (b : Aft s1 s2) : Aft s s2 := by
 have none_of : ∀ x, s1.H x = none → s.H x = none := fun x h => by
  cases q : s.H x with
  | none => rfl
  | some o => exact absurd h (a.trk x (by rw [q]; intro z; cases z))
 refine ⟨?_, fun x h => b.fz x (a.fz x h), fun x o h nl => ?_, fun x h => ?_, fun x h => ?_, fun x h => b.trk x (a.trk x h)⟩
 ·obtain ⟨e1, p1, q1⟩ := a.pre
  obtain ⟨e2, p2, q2⟩ := b.pre
  refine ⟨e1 ++ e2, by rw [p2, p1, List.append_assoc], fun x hx => ?_⟩
  rcases List.mem_append.mp hx with hx | hx
  ·exact q1 x hx
  ·exact none_of x (q2 x hx)
 ·refine b.keep x o (a.keep x o h nl) fun l => ?_
  rcases a.live x l with l | l
  ·exact nl l
  ·rw [l] at h; cases h
 ·rcases b.fnew x h with h | h | h
  ·exact a.fnew x h
  ·exact .inr (.inl (none_of x h))
  ·rcases a.live x h with h | h
   ·exact .inr (.inr h)
   ·exact .inr (.inl h)
 ·rcases b.live x h with h | h
  ·exact a.live x h
  ·exact .inr (none_of x h)
section
variable {K : PySem.W.Frag} {ω : World} {s s' : S4}
theorem FTup.aft {a : Addr} {xs : List V} (h : FTup K s.fz s.H a xs) (A : Aft s s') (R : Rel K ω s) : FTup K s'.fz s'.H a xs := by
 rcases h with ⟨f, o, h, d⟩ | h
 ·exact .inl ⟨A.fz a f, o, A.keep a _ h fun l => R.fz a l f, d⟩
 ·exact .inr h
theorem FPr.aft {a : Addr} {xs : List V} (h : FPr s.fz s.H a xs) (A : Aft s s') (R : Rel K ω s) : FPr s'.fz s'.H a xs := by
 obtain ⟨f, h⟩ := h
 exact ⟨A.fz a f, A.keep a _ h fun l => R.fz a l f⟩
theorem FDit.aft {a : Addr} {xs : List Ye6} (h : FDit s.fz s.H a xs) (A : Aft s s') (R : Rel K ω s) : FDit s'.fz s'.H a xs := by
 obtain ⟨f, h⟩ := h
 exact ⟨A.fz a f, A.keep a _ h fun l => R.fz a l f⟩
theorem FLst.aft {a : Addr} {xs : List V} (h : FLst s.fz s.H a xs) (A : Aft s s') (R : Rel K ω s) : FLst s'.fz s'.H a xs :=
 ⟨A.fz a h.1, A.keep a _ h.2 fun l => R.fz a l h.1⟩
theorem FDic.aft {a : Addr} {xs : List (Key × V)} (h : FDic s.fz s.H a xs) (A : Aft s s') (R : Rel K ω s) : FDic s'.fz s'.H a xs :=
 let ⟨o, e⟩ := h.2; ⟨A.fz a h.1, o, A.keep a _ e fun l => R.fz a l h.1⟩
theorem FIns.aft {a C : Addr} {fs : List Ygz} (h : FIns s.fz s.H a C fs) (A : Aft s s') (R : Rel K ω s) : FIns s'.fz s'.H a C fs :=
 let ⟨dx, e⟩ := h.2; ⟨A.fz a h.1, dx, A.keep a _ e fun l => R.fz a l h.1⟩
theorem FScr.aft {a : Addr} {xs : List V} (h : FScr K s.fz s.H a xs) (A : Aft s s') (R : Rel K ω s) : FScr K s'.fz s'.H a xs :=
 h.imp (fun h => let ⟨o, e⟩ := h.2; ⟨A.fz a h.1, o, A.keep a _ e fun l => R.fz a l h.1⟩) id
mutual
theorem Rf.aft (A : Aft s s') (R : Rel K ω s) : ∀ (x : T) (v : V), Rf K s.fz s.H x v → Rf K s'.fz s'.H x v
 | .non, _, h => by simpa [Rf] using h
 | .bl _, _, h => by simpa [Rf] using h
 | .int _, _, h => by simpa [Rf] using h
 | .str _, _, h => by simpa [Rf] using h
 | .ty _, _, h => by simpa [Rf] using h
 | .cls _, _, h => by simpa [Rf] using h
 | .exc _ _ _, _, h => by simp [Rf] at h
 | .tup xs, v, h => by
  simp only [Rf] at h ⊢
  obtain ⟨a, vs, e, t, l⟩ := h
  exact ⟨a, vs, e, t.aft A R, RfL.aft A R xs vs l⟩
 | .lst xs, v, h => by
  simp only [Rf] at h ⊢
  obtain ⟨a, vs, e, t, l⟩ := h
  exact ⟨a, vs, e, t.aft A R, RfL.aft A R xs vs l⟩
 | .scr xs, v, h => by
  simp only [Rf] at h ⊢
  obtain ⟨a, vs, e, t, l⟩ := h
  exact ⟨a, vs, e, t.aft A R, RfL.aft A R xs vs l⟩
 | .pr xs, v, h => by
  simp only [Rf] at h ⊢
  obtain ⟨a, vs, e, t, l⟩ := h
  exact ⟨a, vs, e, t.aft A R, RfL.aft A R xs vs l⟩
 | .dic ks xs, v, h => by
  simp only [Rf] at h ⊢
  obtain ⟨a, vs, e, t, n, l⟩ := h
  exact ⟨a, vs, e, t.aft A R, n, RfL.aft A R xs vs l⟩
 | .dit ks xs, v, h => by
  simp only [Rf] at h ⊢
  obtain ⟨a, vs, e, t, n, l⟩ := h
  exact ⟨a, vs, e, t.aft A R, n, RfL.aft A R xs vs l⟩
 | .ins c ns xs, v, h => by
  simp only [Rf] at h ⊢
  obtain ⟨a, C, vs, e, cn, t, n, l⟩ := h
  exact ⟨a, C, vs, e, cn, t.aft A R, n, RfL.aft A R xs vs l⟩
theorem RfL.aft (A : Aft s s') (R : Rel K ω s) : ∀ (xs : List T) (vs : List V), RfL K s.fz s.H xs vs → RfL K s'.fz s'.H xs vs
 | [], _, h => by simpa [RfL] using h
 | x :: xs, vs, h => by
  simp only [RfL] at h ⊢
  obtain ⟨v, r, e, a, b⟩ := h
  exact ⟨v, r, e, Rf.aft A R x v a, RfL.aft A R xs r b⟩
end
theorem Rw.aft {w : W} {v : V} (h : Rw K s w v) (A : Aft s s') (R : Rel K ω s) : Rw K s' w v := by
 cases w with
 | t x => exact Rf.aft A R x v h
 | r i =>
  obtain ⟨a, e1, e2⟩ := h
  obtain ⟨ex, p, _⟩ := A.pre
  exact ⟨a, by rw [p, List.getElem?_append_left (List.getElem?_eq_some_iff.mp e1).1]; exact e1, e2⟩
theorem RwL.aft (A : Aft s s') (R : Rel K ω s) : ∀ (ws : List W) (vs : List V), RwL K s ws vs → RwL K s' ws vs
 | [], _, h => h
 | x :: xs, vs, h => by
  obtain ⟨v, r, e, a, b⟩ := h
  exact ⟨v, r, e, a.aft A R, RwL.aft A R xs r b⟩
theorem RwK.aft (A : Aft s s') (R : Rel K ω s) : ∀ (ws : List (Key × W)) (vs : List (Key × V)), RwK K s ws vs → RwK K s' ws vs
 | [], _, h => h
 | x :: xs, vs, h => by
  obtain ⟨v, r, e, a, b⟩ := h
  exact ⟨v, r, e, a.aft A R, RwK.aft A R xs r b⟩
theorem RwF.aft (A : Aft s s') (R : Rel K ω s) : ∀ (ws : List (Str × W)) (vs : List (Str × V)), RwF K s ws vs → RwF K s' ws vs
 | [], _, h => h
 | x :: xs, vs, h => by
  obtain ⟨v, r, e, a, b⟩ := h
  exact ⟨v, r, e, a.aft A R, RwF.aft A R xs r b⟩
theorem RwD.aft (A : Aft s s') (R : Rel K ω s) : ∀ (ws : List (T × W)) (vs : List (NestedKey × Addr × V)), RwD K s ws vs → RwD K s' ws vs
 | [], _, h => h
 | x :: xs, vs, h => by
  obtain ⟨k, b, v, r, e, h1, h2, h3, h4, h5⟩ := h
  exact ⟨k, b, v, r, e, h1, h2, Rf.aft A R _ _ h3, h4.aft A R, RwD.aft A R xs r h5⟩
theorem CellOk.aft {a : Addr} {c : Cell} {o : Option HO} (h : CellOk K ω s a c o) (A : Aft s s') (R : Rel K ω s) : CellOk K ω s' a c o := by
 cases c with
 | lst ws => obtain ⟨vs, e, l⟩ := h; exact ⟨vs, e, RwL.aft A R ws vs l⟩
 | dic kvs => obtain ⟨vs, e, l⟩ := h; exact ⟨vs, e, RwK.aft A R kvs vs l⟩
 | ins c fs => obtain ⟨C, dx, vs, e, cn, l⟩ := h; exact ⟨C, dx, vs, e, cn, RwF.aft A R fs vs l⟩
 | dit kvs => obtain ⟨vs, e, l⟩ := h; exact ⟨vs, e, RwD.aft A R kvs vs l⟩
 | tpl ws => obtain ⟨ob, vs, e, d, l⟩ := h; exact ⟨ob, vs, e, d, RwL.aft A R ws vs l⟩
 | dil kvs => obtain ⟨ob, vs, e, l⟩ := h; exact ⟨ob, vs, e, RwD.aft A R kvs vs l⟩
theorem RwL.length : ∀ {ws : List W} {vs : List V}, RwL K s ws vs → ws.length = vs.length
 | [], _, h => by rw [show _ = [] from h]; rfl
 | x :: xs, vs, h => by
  obtain ⟨v, r, e, a, b⟩ := h
  rw [e, List.length_cons, List.length_cons, RwL.length b]
theorem RfL.length : ∀ {ws : List T} {vs : List V}, RfL K s.fz s.H ws vs → ws.length = vs.length
 | [], _, h => by simp only [RfL] at h; rw [h]; rfl
 | x :: xs, vs, h => by
  simp only [RfL] at h
  obtain ⟨v, r, e, a, b⟩ := h
  rw [e, List.length_cons, List.length_cons, RfL.length b]
theorem RwL.get : ∀ {ws : List W} {vs : List V} {i : Nat} {w : W}, RwL K s ws vs → ws[i]? = some w → ∃ v, vs[i]? = some v ∧ Rw K s w v
 | [], _, _, _, _, h => by simp at h
 | x :: xs, vs, 0, w, h, e => by
  obtain ⟨v, r, e', a, b⟩ := h
  simp at e
  subst e
  exact ⟨v, by rw [e']; rfl, a⟩
 | x :: xs, vs, i + 1, w, h, e => by
  obtain ⟨v, r, e', a, b⟩ := h
  obtain ⟨v', h1, h2⟩ := RwL.get (i := i) (w := w) b (by simpa using e)
  exact ⟨v', by rw [e']; simpa using h1, h2⟩
theorem RfL.get : ∀ {ws : List T} {vs : List V} {i : Nat} {w : T}, RfL K s.fz s.H ws vs → ws[i]? = some w → ∃ v, vs[i]? = some v ∧ Rf K s.fz s.H w v
 | [], _, _, _, _, h => by simp at h
 | x :: xs, vs, 0, w, h, e => by
  simp only [RfL] at h
  obtain ⟨v, r, e', a, b⟩ := h
  simp at e
  subst e
  exact ⟨v, by rw [e']; rfl, a⟩
 | x :: xs, vs, i + 1, w, h, e => by
  simp only [RfL] at h
  obtain ⟨v, r, e', a, b⟩ := h
  obtain ⟨v', h1, h2⟩ := RfL.get (i := i) (w := w) b (by simpa using e)
  exact ⟨v', by rw [e']; simpa using h1, h2⟩
/-- trees among values -/
theorem RwL.of_trees : ∀ {ts : List T} {vs : List V}, RwL K s Yw vs ↔ RfL K s.fz s.H ts vs
 | [], vs => by simp [RwL, RfL]
 | x :: xs, vs => by
  simp only [List.map_cons, RwL, RfL, Rw]
  constructor
  ·rintro ⟨v, r, e, a, b⟩; exact ⟨v, r, e, a, RwL.of_trees.mp b⟩
  ·rintro ⟨v, r, e, a, b⟩; exact ⟨v, r, e, a, RwL.of_trees.mpr b⟩
theorem RwL.append : ∀ {ws ws' : List W} {vs vs' : List V}, RwL K s ws vs → RwL K s ws' vs' → RwL K s (ws ++ ws') (vs ++ vs')
 | [], _, _, _, h, h' => by rw [show _ = [] from h]; exact h'
 | x :: xs, _, vs, _, h, h' => by
  obtain ⟨v, r, e, a, b⟩ := h
  rw [e]
  exact ⟨v, _, rfl, a, RwL.append b h'⟩
theorem FTup.sq {fz : Addr → Prop} {H : Hp} {a : Addr} {xs : List V} (h : FTup K fz H a xs) : SqT K H a xs := by
 rcases h with ⟨_, o, h, _⟩ | ⟨o, its, n, h1, h2, _, h3⟩
 ·exact .inl (.inr ⟨o, h⟩)
 ·exact .inr ⟨o, its, n, h1, h2, h3⟩
theorem FPr.sq {K : PySem.W.Frag} {fz : Addr → Prop} {H : Hp} {a : Addr} {xs : List V} (h : FPr fz H a xs) : SqT K H a xs := .inl (.inl h.2)
theorem FLst.sq {K : PySem.W.Frag} {fz : Addr → Prop} {H : Hp} {a : Addr} {xs : List V} (h : FLst fz H a xs) : SqL K H a xs := .inl (.inl h.2)
theorem FScr.sq {K : PySem.W.Frag} {fz : Addr → Prop} {H : Hp} {a : Addr} {xs : List V} (h : FScr K fz H a xs) : SqL K H a xs := h.elim (fun h => let ⟨o, e⟩ := h.2; .inl (.inr ⟨o, e⟩)) .inr
end
def Sl (K : PySem.W.Frag) (s : S4) (eta : IS) (σ : St) : Prop :=
 eta.length = σ.length ∧ ∀ (i : Nat) (w : W), eta[i]? = some (some w) → ∃ v, σ[i]? = some (some v) ∧ Rw K s w v
theorem Sl.aft {K : PySem.W.Frag} {ω : World} {s s' : S4} {eta : IS} {σ : St} (h : Sl K s eta σ) (A : Aft s s') (R : Rel K ω s) : Sl K s' eta σ :=
 ⟨h.1, fun i w e => let ⟨v, a, b⟩ := h.2 i w e; ⟨v, a, b.aft A R⟩⟩
theorem Sl.set {K : PySem.W.Frag} {s : S4} {eta : IS} {σ : St} {w : W} {v : V} (h : Sl K s eta σ) (i : Nat) (r : Rw K s w v) : Sl K s Yjp (σ.set i (some v)) := by
 refine ⟨by simp [h.1], fun j u e => ?_⟩
 by_cases hj : i = j
 ·subst hj
  by_cases hl : i < eta.length
  ·rw [List.getElem?_set_self hl] at e
   cases e
   exact ⟨v, by rw [List.getElem?_set_self (by rw [← h.1]; exact hl)], r⟩
  ·rw [List.getElem?_eq_none Ygg] at e
   cases e
 ·rw [List.getElem?_set_ne hj] at e
  obtain ⟨x, a, b⟩ := h.2 j u e
  exact ⟨x, by rw [List.getElem?_set_ne hj]; exact a, b⟩
theorem Sl.wipe {K : PySem.W.Frag} {s : S4} {eta : IS} {σ : St} (h : Sl K s eta σ) : ∀ (vs : List Nat), Sl K s (vs.foldr (fun v e => e.set v none) eta) (wipe σ vs)
 | [] => h
 | v :: vs => by
  have ih := Sl.wipe h vs
  refine ⟨by simp only [List.foldr_cons, L2.wipe, List.length_set]; exact ih.1, fun j u e => ?_⟩
  simp only [List.foldr_cons] at e
  by_cases hj : v = j
  ·subst hj
   by_cases hl : v < (vs.foldr (fun v e => e.set v none) eta).length
   ·rw [List.getElem?_set_self hl] at e; cases e
   ·rw [List.getElem?_eq_none Ygg] at e; cases e
  ·rw [List.getElem?_set_ne hj] at e
   obtain ⟨x, a, b⟩ := ih.2 j u e
   exact ⟨x, by simp only [L2.wipe]; rw [List.getElem?_set_ne hj]; exact a, b⟩
/-- how a raised error lies: its class by name, its fields in its own dict -/
def ExR (K : PySem.W.Frag) (s : S4) (e : Ex) (cls : Value) (d : Option Addr) : Prop :=
 ∃ C, cls = .ref C ∧ CN K e.cls C ∧ ((e.fs = [] ∧ d = none) ∨ ∃ dd vs, d = some dd ∧ s.H dd = some (.xd vs) ∧ RwF K s e.fs vs)
abbrev WX := Value → Option Addr → St → Hp → Prop
def Go {A B : Type} (K : PySem.W.Frag) (ω : World) (Wx : WX) (Fam : S4 → A → B → Prop) (s : S4) (r : Res A) (Q : B → Hp → Prop) : Prop := match r with
 | .ok a hp' => ∀ (b : B) (s' : S4), s'.hp = hp' → Aft s s' → Rel K ω s' → Fam s' a b → Q b s'.H
 | .er e eta' hp' => ∀ (s' : S4) (σ' : St) (cls : Value) (d : Option Addr), s'.hp = hp' → Aft s s' → Rel K ω s' → Sl K s' eta' σ' → ExR K s' e cls d → Wx cls d σ' s'.H
 | .bad => False
section
variable {K : PySem.W.Frag} {ω : World} {Wx : WX} {s s' : S4} {A B C D : Type} {Fam : S4 → A → B → Prop} {Gam : S4 → C → D → Prop}
theorem Go.aft {r : Res A} {Q : B → Hp → Prop} (g : Go K ω Wx Fam s r Q) (a : Aft s s') : Go K ω Wx Fam s' r Q := by
 cases r with
 | ok x hp => exact fun b s2 h1 h2 h3 h4 => g b s2 h1 (a.trans h2) h3 h4
 | er e eta hp => exact fun s2 σ' cls d h1 h2 h3 h4 h5 => g s2 σ' cls d h1 (a.trans h2) h3 h4 h5
 | bad => exact g
theorem Go.mono {r : Res A} {Q Q' : B → Hp → Prop} (g : Go K ω Wx Fam s r Q) (h : ∀ b H, Q b H → Q' b H) : Go K ω Wx Fam s r Q' := by
 cases r with
 | ok x hp => exact fun b s2 h1 h2 h3 h4 => h _ _ (g b s2 h1 h2 h3 h4)
 | er e eta hp => exact g
 | bad => exact g
/-- a run, then more -/
theorem Go.bind {r : Res A} {k : A → IH → Res C} {Q : D → Hp → Prop} {R : B → Hp → Prop} (g : Go K ω Wx Gam s (r.bind k) Q)
  (h : ∀ a b s', Aft s s' → Rel K ω s' → Fam s' a b → r = .ok a s'.hp → Go K ω Wx Gam s' (k a s'.hp) Q → R b s'.H) : Go K ω Wx Fam s r R := by
 cases r with
 | ok x hp =>
  intro b s2 h1 h2 h3 h4
  subst h1
  exact h x b s2 h2 h3 h4 rfl (Go.aft (show Go K ω Wx Gam s (k x s2.hp) Q from g) h2)
 | er e eta hp => exact g
 | bad => exact g
theorem Go.ret {a : A} {b : B} {hp : IH} {Q : B → Hp → Prop} (g : Go K ω Wx Fam s (.ok a hp) Q) (s' : S4) (h1 : s'.hp = hp) (h2 : Aft s s') (h3 : Rel K ω s') (h4 : Fam s' a b) : Q b s'.H := g b s' h1 h2 h3 h4
end
/-- the reading made of a plain function -/
def tM {A B : Type} (K : PySem.W.Frag) (ω : World) (Wx : WX) (Fam : S4 → A → B → Prop) (F : M A) : St → Hp → (B → Hp → Prop) → Prop := fun σ H Q =>
 ∃ (s : S4) (eta : IS), s.H = H ∧ Rel K ω s ∧ Sl K s eta σ ∧ Go K ω Wx Fam s (F eta s.hp) Q
abbrev tE (K : PySem.W.Frag) (ω : World) (Wx : WX) (F : M W) : TE := tM K ω Wx (Rw K) F
abbrev tA (K : PySem.W.Frag) (ω : World) (Wx : WX) (F : M (List W)) : TA := tM K ω Wx (RwL K) F
abbrev tT (K : PySem.W.Frag) (ω : World) (Wx : WX) (F : M Bool) : TT := tM K ω Wx Yic F
/-- judgements -/
def IE (X : Cx) (Wx : WX) (e : Expr) (F : M W) : Prop := PE X e (tE X.K X.w Wx F)
def IA (X : Cx) (Wx : WX) (es : List Expr) (F : M (List W)) : Prop := PA X es (tA X.K X.w Wx F)
def IT (X : Cx) (Wx : WX) (e : Expr) (F : M Bool) : Prop := PT X e (tT X.K X.w Wx F)
theorem PE.imp {X : Cx} {e : Expr} {t t' : TE} (h : PE X e t) (i : ∀ σ H Q, t' σ H Q → t σ H Q) : PE X e t' := ⟨fun pins s σ H Q I hw => h.run pins s σ H Q I Yi5⟩
theorem PT.imp {X : Cx} {e : Expr} {t t' : TT} (h : PT X e t) (i : ∀ σ H Q, t' σ H Q → t σ H Q) : PT X e t' := ⟨fun pins s σ H Q I hw => h.run pins s σ H Q I Yi5⟩
theorem PW.imp {X : Cx} {e : Expr} {t t' : TT} (h : PW X e t) (i : ∀ σ H Q, t' σ H Q → t σ H Q) : PW X e t' := ⟨fun wh pins s σ H Q I hw => h.run wh pins s σ H Q I Yi5⟩
theorem PA.imp {X : Cx} {e : List Expr} {t t' : TA} (h : PA X e t) (i : ∀ σ H Q, t' σ H Q → t σ H Q) : PA X e t' := ⟨fun pos pins s σ H Q I hw => h.run pos pins s σ H Q I Yi5⟩
theorem PS.imp {X : Cx} {e : Stmt} {t t' : TS} (h : PS X e t) (i : ∀ D σ H, t' D σ H → t D σ H) : PS X e t' := ⟨fun pins s σ H D I hw => h.run pins s σ H D I Yi5⟩
theorem PSs.imp {X : Cx} {e : List Stmt} {t t' : TS} (h : PSs X e t) (i : ∀ D σ H, t' D σ H → t D σ H) : PSs X e t' := ⟨fun pins s σ H D I hw => h.run pins s σ H D I Yi5⟩
theorem PG.imp {X : Cx} {e : Expr} {t t' : TG} (h : PG X e t) (i : ∀ v σ H Q, t' v σ H Q → t v σ H Q) : PG X e t' := ⟨fun pins s σ H v u Q I r hw => h.run pins s σ H v u Q I r (i _ _ _ _ hw)⟩
theorem PI.imp {X : Cx} {tg e : Expr} {t t' : TI} (h : PI X tg e t) (i : ∀ σ H Q, t' σ H Q → t σ H Q) : PI X tg e t' := ⟨fun pins s σ H Q I hw => h.run pins s σ H Q I Yi5⟩
end Mir
namespace Mir
open PySem PySem.Spec L2
open PyProof.Rows hiding St
mutual
def dat : T → PyData
 | .non => .none | .bl b => .bool b | .int i => .int i | .str s => .str s
 | .tup xs => .tuple (datL xs) | .lst xs => .list (datL xs) | .scr _ => .none | .pr _ => .none
 | .ty _ => .none | .dic _ _ => .none | .ins _ _ _ => .none | .cls _ => .none | .dit _ _ => .none | .exc _ _ _ => .none
def datL : List T → List PyData
 | [] => [] | x :: xs => dat x :: datL xs
end
mutual
/-- no dict, no instance; nested at most n deep -/
def fit : T → Nat → Bool
 | .non, _ => true | .bl _, _ => true | .int _, _ => true | .str _, _ => true
 | .tup xs, n => match n with | 0 => false | n + 1 => fitL xs n
 | .lst xs, n => match n with | 0 => false | n + 1 => fitL xs n
 | .scr _, _ => false | .pr _, _ => false | .ty _, _ => false | .dic _ _, _ => false | .ins _ _ _, _ => false | .cls _, _ => false | .dit _ _, _ => false | .exc _ _ _, _ => false
def fitL : List T → Nat → Bool
 | [], _ => true | x :: xs, n => fit x n && fitL xs n
end
mutual
def eqT : T → T → Bool
 | .non, y => match y with | .non => true | _ => false
 | .bl a, y => match y with | .bl b => a == b | .int j => (if a then 1 else 0) == j | _ => false
 | .int i, y => match y with | .bl b => i == (if b then 1 else 0) | .int j => i == j | _ => false
 | .str x, y => match y with | .str z => x == z | _ => false
 | .tup xs, y => match y with | .tup ys => eqTL xs ys | _ => false
 | .lst xs, y => match y with | .lst ys => eqTL xs ys | _ => false
 | .scr _, _ => false | .pr _, _ => false | .ty _, _ => false | .dic _ _, _ => false | .ins _ _ _, _ => false | .cls _, _ => false | .dit _ _, _ => false | .exc _ _ _, _ => false
def eqTL : List T → List T → Bool
 | [], ys => match ys with | [] => true | _ :: _ => false
 | x :: xs, ys => match ys with | [] => false | y :: ys => eqT x y && eqTL xs ys
end
mutual
theorem zf3 : ∀ (x : T) (n : Nat), fit x n = true → (dat x).plain = true ∧ (dat x).depth ≤ n
 | .non, n, _ => by simp [dat, PyData.plain, PyData.depth]
 | .bl _, n, _ => by simp [dat, PyData.plain, PyData.depth]
 | .int _, n, _ => by simp [dat, PyData.plain, PyData.depth]
 | .str _, n, _ => by simp [dat, PyData.plain, PyData.depth]
 | .tup xs, 0, h => by simp [fit] at h
 | .tup xs, n + 1, h => by
  have := fit_plainL xs n (by simpa [fit] using h)
  simp only [dat, PyData.plain, PyData.depth]
  exact ⟨this.1, by omega⟩
 | .lst xs, 0, h => by simp [fit] at h
 | .lst xs, n + 1, h => by
  have := fit_plainL xs n (by simpa [fit] using h)
  simp only [dat, PyData.plain, PyData.depth]
  exact ⟨this.1, by omega⟩
 | .ty _, n, h => by simp [fit] at h
 | .scr _, n, h => by simp [fit] at h
 | .pr _, n, h => by simp [fit] at h
 | .dic _ _, n, h => by simp [fit] at h
 | .ins _ _ _, n, h => by simp [fit] at h
 | .cls _, n, h => by simp [fit] at h
 | .dit _ _, n, h => by simp [fit] at h
 | .exc _ _ _, n, h => by simp [fit] at h
theorem fit_plainL : ∀ (xs : List T) (n : Nat), fitL xs n = true → PyData.plainAll (datL xs) = true ∧ PyData.depthAll (datL xs) ≤ n
 | [], n, _ => by simp [datL, PyData.plainAll, PyData.depthAll]
 | x :: xs, n, h => by
  simp only [fitL, Bool.and_eq_true] at h
  have h1 := zf3 x n h.1
  have h2 := fit_plainL xs n h.2
  simp only [datL, PyData.plainAll, PyData.depthAll, h1.1, h2.1, Bool.and_self, true_and]
  omega
end
mutual
theorem eqT_dat : ∀ (x y : T) (n m : Nat), fit x n = true → fit y m = true → PyData.eqv (dat x) (dat y) = eqT x y
 | .non, y, n, m, _, hy => by cases y <;> simp_all [dat, PyData.eqv, eqT, fit]
 | .bl a, y, n, m, _, hy => by cases y <;> simp_all [dat, PyData.eqv, eqT, fit]
 | .int i, y, n, m, _, hy => by cases y <;> simp_all [dat, PyData.eqv, eqT, fit]
 | .str x, y, n, m, _, hy => by cases y <;> simp_all [dat, PyData.eqv, eqT, fit]
 | .tup xs, .tup ys, 0, _, h, _ => by simp [fit] at h
 | .tup xs, .tup ys, n + 1, 0, _, h => by simp [fit] at h
 | .tup xs, .tup ys, n + 1, m + 1, hx, hy => by
  simp only [dat, PyData.eqv, eqT]
  exact eqTL_dat xs ys n m (by simpa [fit] using hx) (by simpa [fit] using hy)
 | .lst xs, .lst ys, 0, _, h, _ => by simp [fit] at h
 | .lst xs, .lst ys, n + 1, 0, _, h => by simp [fit] at h
 | .lst xs, .lst ys, n + 1, m + 1, hx, hy => by
  simp only [dat, PyData.eqv, eqT]
  exact eqTL_dat xs ys n m (by simpa [fit] using hx) (by simpa [fit] using hy)
 | .tup xs, .non, _, _, _, _ => by simp [dat, PyData.eqv, eqT]
 | .tup xs, .bl _, _, _, _, _ => by simp [dat, PyData.eqv, eqT]
 | .tup xs, .int _, _, _, _, _ => by simp [dat, PyData.eqv, eqT]
 | .tup xs, .str _, _, _, _, _ => by simp [dat, PyData.eqv, eqT]
 | .tup xs, .lst _, _, _, _, _ => by simp [dat, PyData.eqv, eqT]
 | .tup xs, .ty _, _, _, _, h => by simp [fit] at h
 | .tup xs, .scr _, _, _, _, h => by simp [fit] at h
 | .tup xs, .pr _, _, _, _, h => by simp [fit] at h
 | .tup xs, .dic _ _, _, _, _, h => by simp [fit] at h
 | .tup xs, .ins _ _ _, _, _, _, h => by simp [fit] at h
 | .tup xs, .cls _, _, _, _, h => by simp [fit] at h
 | .tup xs, .dit _ _, _, _, _, h => by simp [fit] at h
 | .tup xs, .exc _ _ _, _, _, _, h => by simp [fit] at h
 | .lst xs, .non, _, _, _, _ => by simp [dat, PyData.eqv, eqT]
 | .lst xs, .bl _, _, _, _, _ => by simp [dat, PyData.eqv, eqT]
 | .lst xs, .int _, _, _, _, _ => by simp [dat, PyData.eqv, eqT]
 | .lst xs, .str _, _, _, _, _ => by simp [dat, PyData.eqv, eqT]
 | .lst xs, .tup _, _, _, _, _ => by simp [dat, PyData.eqv, eqT]
 | .lst xs, .ty _, _, _, _, h => by simp [fit] at h
 | .lst xs, .scr _, _, _, _, h => by simp [fit] at h
 | .lst xs, .pr _, _, _, _, h => by simp [fit] at h
 | .lst xs, .dic _ _, _, _, _, h => by simp [fit] at h
 | .lst xs, .ins _ _ _, _, _, _, h => by simp [fit] at h
 | .lst xs, .cls _, _, _, _, h => by simp [fit] at h
 | .lst xs, .dit _ _, _, _, _, h => by simp [fit] at h
 | .lst xs, .exc _ _ _, _, _, _, h => by simp [fit] at h
 | .ty _, _, _, _, h, _ => by simp [fit] at h
 | .scr _, _, _, _, h, _ => by simp [fit] at h
 | .pr _, _, _, _, h, _ => by simp [fit] at h
 | .dic _ _, _, _, _, h, _ => by simp [fit] at h
 | .ins _ _ _, _, _, _, h, _ => by simp [fit] at h
 | .cls _, _, _, _, h, _ => by simp [fit] at h
 | .dit _ _, _, _, _, h, _ => by simp [fit] at h
 | .exc _ _ _, _, _, _, h, _ => by simp [fit] at h
theorem eqTL_dat : ∀ (xs ys : List T) (n m : Nat), fitL xs n = true → fitL ys m = true → PyData.eqvAll (datL xs) (datL ys) = eqTL xs ys
 | [], [], _, _, _, _ => by simp [datL, PyData.eqvAll, eqTL]
 | [], _ :: _, _, _, _, _ => by simp [datL, PyData.eqvAll, eqTL]
 | _ :: _, [], _, _, _, _ => by simp [datL, PyData.eqvAll, eqTL]
 | x :: xs, y :: ys, n, m, hx, hy => by
  simp only [fitL, Bool.and_eq_true] at hx hy
  simp only [datL, PyData.eqvAll, eqTL, eqT_dat x y n m hx.1 hy.1, eqTL_dat xs ys n m hx.2 hy.2]
end
section
variable {K : PySem.W.Frag} {ω : World} {s : S4}
mutual
theorem Rf.dp : ∀ (x : T) (v : V) (n : Nat), fit x n = true → Rf K s.fz s.H x v → Dp K s.H v (dat x)
 | .non, v, _, _, h => by simp only [Rf] at h; subst h; exact .non
 | .bl b, v, _, _, h => by simp only [Rf] at h; subst h; exact .bl b
 | .int b, v, _, _, h => by simp only [Rf] at h; subst h; exact .int b
 | .str b, v, _, _, h => by simp only [Rf] at h; subst h; exact .str b
 | .tup xs, v, 0, f, _ => by simp [fit] at f
 | .tup xs, v, n + 1, f, h => by
  simp only [Rf] at h
  obtain ⟨a, vs, e, t, l⟩ := h
  subst e
  exact .tup t.sq (RfL.dp xs vs n (by simpa [fit] using f) l)
 | .lst xs, v, 0, f, _ => by simp [fit] at f
 | .lst xs, v, n + 1, f, h => by
  simp only [Rf] at h
  obtain ⟨a, vs, e, t, l⟩ := h
  subst e
  exact .lst t.sq (RfL.dp xs vs n (by simpa [fit] using f) l)
 | .ty _, _, _, f, _ => by simp [fit] at f
 | .scr _, _, _, f, _ => by simp [fit] at f
 | .pr _, _, _, f, _ => by simp [fit] at f
 | .dic _ _, _, _, f, _ => by simp [fit] at f
 | .ins _ _ _, _, _, f, _ => by simp [fit] at f
 | .cls _, _, _, f, _ => by simp [fit] at f
 | .dit _ _, _, _, f, _ => by simp [fit] at f
 | .exc _ _ _, _, _, f, _ => by simp [fit] at f
theorem RfL.dp : ∀ (xs : List T) (vs : List V) (n : Nat), fitL xs n = true → RfL K s.fz s.H xs vs → DpAll K s.H vs (datL xs)
 | [], vs, _, _, h => by simp only [RfL] at h; subst h; exact .nil
 | x :: xs, vs, n, f, h => by
  simp only [fitL, Bool.and_eq_true] at f
  simp only [RfL] at h
  obtain ⟨v, r, e, a, b⟩ := h
  subst e
  exact .cons (Rf.dp x v n f.1 a) (RfL.dp xs r n f.2 b)
end
end
def allT : List W → Option (List T)
 | [] => some []
 | .t x :: ws => (allT ws).map (x :: ·)
 | .r _ :: _ => none
theorem zcw : ∀ {ws : List W} {ts : List T}, allT ws = some ts → ws = ts.map W.t
 | [], ts, h => by simp [allT] at h; subst h; rfl
 | .t x :: ws, ts, h => by
  simp only [allT, Option.map_eq_some_iff] at h
  obtain ⟨r, h1, h2⟩ := h
  subst h2
  rw [zcw h1]
  rfl
 | .r _ :: _, _, h => by simp [allT] at h
/-- a live list's items -/
def getL (hp : IH) (i : Nat) : Option (List W) := match hp[i]? with
 | some (some (.lst ws)) => some ws
 | _ => none
theorem zc5 {hp : IH} {i : Nat} {ws : List W} (h : getL hp i = some ws) : hp[i]? = some (some Yhl) := by
 unfold getL at h
 split at h
 ·cases h; assumption
 ·cases h
/-- as a tree (a live list of trees too) -/
def asT (hp : IH) : W → Option T
 | .t x => some x
 | .r i => ((getL hp i).bind allT).map T.lst
section
variable {K : PySem.W.Frag} {ω : World} {s : S4}
/-- where a live list lies -/
theorem Rel.lst (R : Rel K ω s) {i : Nat} {v : V} {ws : List W} (g : getL s.hp i = some ws) (r : Rw K s (.r i) v) : ∃ a vs, v = .ref a ∧ s.rho[i]? = some a ∧ s.H a = some Yjw ∧ RwL K s ws vs ∧ ¬ s.fz a := by
 obtain ⟨a, e1, e2⟩ := r
 obtain ⟨vs, h1, h2⟩ := R.cell i _ a (zc5 g) e1
 exact ⟨a, vs, e2, e1, h1, h2, R.fz a ⟨i, _, ⟨zc5 g, True.intro⟩, e1⟩⟩
theorem asT_dp (R : Rel K ω s) {w : W} {x : T} {v : V} {n : Nat} (h : asT s.hp w = some x) (r : Rw K s w v) (f : fit x n = true) : Dp K s.H v (dat x) := by
 cases w with
 | t y => simp only [asT, Option.some.injEq] at h; subst h; exact Rf.dp _ v n f r
 | r i =>
  simp only [asT, Option.map_eq_some_iff, Option.bind_eq_some_iff] at h
  obtain ⟨ts, ⟨ws, g, h1⟩, h2⟩ := h
  subst h2
  obtain ⟨a, vs, e, _, e2, l, _⟩ := R.lst g r
  subst e
  cases n with
  | zero => simp [fit] at f
  | succ n =>
   rw [zcw h1] at l
   exact .lst (.inl (.inl e2)) (RfL.dp ts vs n (by simpa [fit] using f) Ygh)
end
section
variable {X : Cx}
def rEqP (K : PySem.W.Frag) : R2 := fun x y H Q => ∃ d e, Dp K H x d ∧ Dp K H y e ∧ d.plain = true ∧ e.plain = true ∧ d.depth ≤ 60 ∧ Q (.bl (PyData.eqv d e)) H
def rNeP (K : PySem.W.Frag) : R2 := fun x y H Q => ∃ d e, Dp K H x d ∧ Dp K H y e ∧ d.plain = true ∧ e.plain = true ∧ d.depth ≤ 60 ∧ Q (.bl (!PyData.eqv d e)) H
theorem op_eqP (hu : X.A.units + 64 < cLine) : OpR X (compareOp .Eq) (rEqP X.K) := by
 intro pins s σ H x y v u Q I rx ry h
 obtain ⟨d, e, hd, he, sd, se, dd, q⟩ := h
 obtain ⟨as, r1⟩ := Dp.reads I d x v hd rx
 obtain ⟨bs, r2⟩ := Dp.reads I e y u he ry
 exact SeqAt.eq_plain r1 r2 sd se (by have : min d.depth e.depth ≤ d.depth := Nat.min_le_left _ _; omega) ⟨.bl _, H, I, rfl, q⟩
theorem op_neP (hu : X.A.units + 64 < cLine) : OpR X (compareOp .NotEq) (rNeP X.K) := by
 intro pins s σ H x y v u Q I rx ry h
 obtain ⟨d, e, hd, he, sd, se, dd, q⟩ := h
 obtain ⟨as, r1⟩ := Dp.reads I d x v hd rx
 obtain ⟨bs, r2⟩ := Dp.reads I e y u he ry
 exact SeqAt.ne_plain r1 r2 sd se (by have : min d.depth e.depth ≤ d.depth := Nat.min_le_left _ _; omega) ⟨.bl _, H, I, rfl, q⟩
/-- x in c: c a list or a tuple of data -/
def rInP (K : PySem.W.Frag) (neg : Bool) : R2 := fun x y H Q => ∃ d e, Dp K H x d ∧ (Dp K H y (.list e) ∨ Dp K H y (.tuple e)) ∧ d.plain = true ∧ PyData.plainAll e = true ∧ d.depth ≤ 60 ∧
 Q (.bl (if neg then !(e.any fun z => PyData.eqv z d) else e.any fun z => PyData.eqv z d)) H
theorem op_inP (hu : X.A.units + 64 < cLine) : OpR X (compareOp .In) (rInP X.K false) := by
 intro pins s σ H x y v u Q I rx ry h
 obtain ⟨d, e, hd, he, sd, se, dd, q⟩ := h
 obtain ⟨as, r1⟩ := Dp.reads I d x v hd rx
 have hm : X.A.units + 1 + min (PyData.depthAll e) d.depth < cLine := by have : min (PyData.depthAll e) d.depth ≤ d.depth := Nat.min_le_right _ _; omega
 rcases he with he | he
 ·obtain ⟨bs, r2⟩ := Dp.reads I _ y u he ry
  exact SeqAt.in_list_data r2 r1 se sd hm ⟨.bl _, H, I, rfl, q⟩
 ·obtain ⟨bs, r2⟩ := Dp.reads I _ y u he ry
  exact SeqAt.in_tuple_data r2 r1 se sd hm ⟨.bl _, H, I, rfl, q⟩
theorem op_ninP (hu : X.A.units + 64 < cLine) : OpR X (compareOp .NotIn) (rInP X.K true) := by
 intro pins s σ H x y v u Q I rx ry h
 obtain ⟨d, e, hd, he, sd, se, dd, q⟩ := h
 obtain ⟨as, r1⟩ := Dp.reads I d x v hd rx
 have hm : X.A.units + 1 + min (PyData.depthAll e) d.depth < cLine := by have : min (PyData.depthAll e) d.depth ≤ d.depth := Nat.min_le_right _ _; omega
 rcases he with he | he
 ·obtain ⟨bs, r2⟩ := Dp.reads I _ y u he ry
  exact SeqAt.notIn_list_data r2 r1 se sd hm ⟨.bl _, H, I, rfl, q⟩
 ·obtain ⟨bs, r2⟩ := Dp.reads I _ y u he ry
  exact SeqAt.notIn_tuple_data r2 r1 se sd hm ⟨.bl _, H, I, rfl, q⟩
end
abbrev Op2 := W → W → IH → Res W
abbrev Op1 := W → IH → Res W
abbrev OpN := List W → IH → Res W
def zdv (K : PySem.W.Frag) (ω : World) (Wx : WX) (f : Op2) (r : R2) : Prop := ∀ (s : S4) (a b : W) (x y : V) (Q : VK), Rel K ω s → Rw K s a x → Rw K s b y → Go K ω Wx (Rw K) s (f a b s.hp) Q → r x y s.H Q
def Op1Ok (K : PySem.W.Frag) (ω : World) (Wx : WX) (f : Op1) (r : V → Hp → VK → Prop) : Prop := ∀ (s : S4) (a : W) (x : V) (Q : VK), Rel K ω s → Rw K s a x → Go K ω Wx (Rw K) s (f a s.hp) Q → r x s.H Q
def zgb (K : PySem.W.Frag) (ω : World) (Wx : WX) (f : OpN) (r : List V → Hp → VK → Prop) : Prop := ∀ (s : S4) (a : List W) (x : List V) (Q : VK), Rel K ω s → RwL K s a x → Go K ω Wx (Rw K) s (f a s.hp) Q → r x s.H Q
def mBin (f : Op2) (Fa Fb : M W) : M W := fun eta hp => (Fa eta hp).bind fun a h1 => (Fb eta h1).bind fun b h2 => f a b h2
def mUn (f : Op1) (Fa : M W) : M W := fun eta hp => (Fa eta hp).bind fun a h1 => f a h1
def mNil : M (List W) := fun _ hp => .ok [] hp
def zac (Fa : M W) (Fr : M (List W)) : M (List W) := fun eta hp => (Fa eta hp).bind fun a h1 => (Fr eta h1).bind fun r h2 => .ok (a :: r) h2
def mApp (f : OpN) (Fa : M (List W)) : M W := fun eta hp => (Fa eta hp).bind fun a h1 => f a h1
section
variable {X : Cx} {Wx : WX} {a b c e : Expr} {es : List Expr} {Fa Fb Fc F : M W} {Fs : M (List W)} {pos : Pos}
theorem tM.bind1 {A B C D : Type} {K : PySem.W.Frag} {ω : World} {Fam : S4 → A → B → Prop} {Gam : S4 → C → D → Prop} {Fa : M A} {k : A → IS → IH → Res C} {σ : St} {H : Hp} {Q : D → Hp → Prop} {R : B → Hp → Prop}
  (h : tM K ω Wx Gam (fun eta hp => (Fa eta hp).bind fun a h1 => k a eta h1) σ H Q)
  (n : ∀ (s : S4) (eta : IS) (a : A) (b : B), Rel K ω s → Sl K s eta σ → Fam s a b → Go K ω Wx Gam s (k a eta s.hp) Q → R b s.H) : tM K ω Wx Fam Fa σ H R := by
 obtain ⟨s, eta, e1, R1, S1, g⟩ := h
 refine ⟨s, eta, e1, R1, S1, Go.bind g fun a b s' A' R' f _ g' => n s' eta a b R' (S1.aft A' R1) f g'⟩
theorem tM.bind2 {A B C D A' B' : Type} {K : PySem.W.Frag} {ω : World} {Fam : S4 → A → B → Prop} {Fam' : S4 → A' → B' → Prop} {Gam : S4 → C → D → Prop} {Fa : M A} {Fb : M A'} {k : A → A' → IS → IH → Res C} {σ : St} {H : Hp} {Q : D → Hp → Prop} {R : B → B' → Hp → Prop}
  (keep : ∀ s s' a b, Fam s a b → Aft s s' → Rel K ω s → Fam s' a b)
  (h : tM K ω Wx Gam (fun eta hp => (Fa eta hp).bind fun a h1 => (Fb eta h1).bind fun b h2 => k a b eta h2) σ H Q)
  (n : ∀ (s : S4) (eta : IS) (a : A) (b : B) (a' : A') (b' : B'), Rel K ω s → Sl K s eta σ → Fam s a b → Fam' s a' b' → Go K ω Wx Gam s (k a a' eta s.hp) Q → R b b' s.H) : tM K ω Wx Fam Fa σ H fun b H1 => tM K ω Wx Fam' Fb σ H1 fun b' H2 => R b b' H2 := by
 refine tM.bind1 (k := fun a eta h1 => (Fb eta h1).bind fun b h2 => k a b eta h2) h fun s eta a b R1 S1 f g => ?_
 refine ⟨s, eta, rfl, R1, S1, Go.bind g fun a' b' s' A' R' f' _ g' => n s' eta a b a' b' R' (S1.aft A' R1) (keep _ _ _ _ f A' R1) f' g'⟩
theorem Rw.keep {K : PySem.W.Frag} {ω : World} : ∀ (s s' : S4) (a : W) (b : V), Rw K s a b → Aft s s' → Rel K ω s → Rw K s' a b := fun _ _ _ _ h A R => h.aft A R
theorem RwL.keep {K : PySem.W.Frag} {ω : World} : ∀ (s s' : S4) (a : List W) (b : List V), RwL K s a b → Aft s s' → Rel K ω s → RwL K s' a b := fun _ _ _ _ h A R => RwL.aft A R _ _ h
theorem t_bin {f : Op2} {r : R2} (hf : zdv X.K X.w Wx f r) : ∀ σ H Q, tE X.K X.w Wx (mBin f Fa Fb) σ H Q → tOp r (tE X.K X.w Wx Fa) (tE X.K X.w Wx Fb) σ H Q := by
 intro σ H Q h
 exact tM.bind2 (R := fun x y H2 => r x y H2 Q) (k := fun a b _ hp => f a b hp) Rw.keep h fun s eta a b a' b' R1 S1 f1 f2 g => hf s a a' b b' Q R1 f1 f2 g
theorem ie_bin {op : Operator} {f : Op2} {r : R2} (ho : OpR X (binaryOp op) r) (hf : zdv X.K X.w Wx f r) (ha : IE X Wx a Fa) (hb : IE X Wx b Fb) : IE X Wx (.BinOp a op b pos) (mBin f Fa Fb) :=
 PE.imp (pe_op ho ha hb) (t_bin hf)
theorem ie_cmp {op : CmpOp} {f : Op2} {r : R2} (ho : OpR X (compareOp op) r) (hf : zdv X.K X.w Wx f r) (ha : IE X Wx a Fa) (hb : IE X Wx b Fb) (hm : behindInMarks op b = false) : IE X Wx (.Compare a [op] [b] pos) (mBin f Fa Fb) :=
 PE.imp (pe_cmpR ho ha hb hm) (t_bin hf)
theorem ie_un {op : UnaryOp} {f : Op1} {r : V → Hp → VK → Prop} (ho : UnR X (unaryOp op) r) (hf : Op1Ok X.K X.w Wx f r) (ha : IE X Wx a Fa) : IE X Wx (.UnaryOp op a pos) (mUn f Fa) :=
 PE.imp (pe_un ho ha) fun σ H Q h => tM.bind1 (R := fun x H1 => r x H1 Q) (k := fun a _ hp => f a hp) h fun s eta a b R1 _ f1 g => hf s a b Q R1 f1 g
theorem ie_ix {f : Op2} {r : R2} (hr : IxR X r) (hf : zdv X.K X.w Wx f r) (ha : IE X Wx a Fa) (hb : IE X Wx b Fb) (hs : PlainIx b) : IE X Wx (.Subscript a b pos) (mBin f Fa Fb) :=
 PE.imp (pe_ix hr ha hb hs) (t_bin hf)
theorem zad : IA X Wx [] mNil := PA.imp pa_nil fun σ H Q h => by
 obtain ⟨s, eta, e1, R1, S1, g⟩ := h
 subst e1
 exact g [] s rfl Yl R1 rfl
theorem zaa (ha : IE X Wx e Fa) (hr : IA X Wx es Fs) (hs : starEach Yam X.env = (false, eval e X.env) :: starEach es X.env := by rfl) : IA X Wx Yam (zac Fa Fs) :=
 PA.imp (pa_cons ha hr hs) fun σ H Q h => tM.bind2 (R := fun x xs H2 => Q (x :: xs) H2) (k := fun a r _ hp => .ok (a :: r) hp) Rw.keep h fun s eta a b a' b' R1 S1 f1 f2 g => g (b :: b') s rfl Yl R1 ⟨b, b', rfl, f1, f2⟩
/-- *e: a tuple or a list -/
def items (hp : IH) : W → Option (List W)
 | .t (.tup xs) => some (xs.map W.t)
 | .t (.lst xs) => some (xs.map W.t)
 | .t (.scr xs) => some (xs.map W.t)
 | .t _ => none
 | .r i => getL hp i
theorem items_sq {K : PySem.W.Frag} {ω : World} {s : S4} (R : Rel K ω s) {w : W} {v : V} {ws : List W} (h : items s.hp w = some ws) (r : Rw K s w v) : ∃ p xs, v = .ref p ∧ (SqT K s.H p xs ∨ SqL K s.H p xs) ∧ RwL K s ws xs := by
 cases w with
 | t x =>
  cases x with
  | tup xs =>
   simp only [items, Option.some.injEq] at h
   subst h
   obtain ⟨a, vs, e, t, l⟩ : ∃ a vs, v = .ref a ∧ FTup K s.fz s.H a vs ∧ RfL K s.fz s.H xs vs := by simpa only [Rw, Rf] using r
   exact ⟨a, vs, e, .inl t.sq, RwL.of_trees.mpr l⟩
  | lst xs =>
   simp only [items, Option.some.injEq] at h
   subst h
   obtain ⟨a, vs, e, t, l⟩ : ∃ a vs, v = .ref a ∧ FLst s.fz s.H a vs ∧ RfL K s.fz s.H xs vs := by simpa only [Rw, Rf] using r
   exact ⟨a, vs, e, .inr t.sq, RwL.of_trees.mpr l⟩
  | scr xs =>
   simp only [items, Option.some.injEq] at h
   subst h
   obtain ⟨a, vs, e, t, l⟩ : ∃ a vs, v = .ref a ∧ FScr K s.fz s.H a vs ∧ RfL K s.fz s.H xs vs := by simpa only [Rw, Rf] using r
   exact ⟨a, vs, e, .inr t.sq, RwL.of_trees.mpr l⟩
  | _ => simp [items] at h
 | r i =>
  obtain ⟨a, vs, e, _, e2, l, _⟩ := R.lst (show getL s.hp i = some ws from h) r
  exact ⟨a, vs, e, .inr (.inl (.inl e2)), l⟩
def mStar (Fa : M W) (Fr : M (List W)) : M (List W) := fun eta hp => (Fa eta hp).bind fun a h1 => match items h1 a with
 | some ws => (Fr eta h1).bind fun r h2 => .ok (ws ++ r) h2
 | none => .bad
theorem ia_star {p : Pos} (ha : IE X Wx e Fa) (hr : IA X Wx es Fs) (hs : starEach (.Starred e p :: es) X.env = (true, eval e X.env) :: starEach es X.env := by rfl) : IA X Wx (.Starred e p :: es) (mStar Fa Fs) := by
 refine PA.imp (StX.pa_star ha hr hs) fun σ H Q h => ?_
 refine tM.bind1 (R := fun x H1 => ∃ p xs, x = V.ref p ∧ (SqT X.K H1 p xs ∨ SqL X.K H1 p xs) ∧ tA X.K X.w Wx Fs σ H1 fun ys H2 => Q (xs ++ ys) H2)
  (k := fun a eta hp => match items hp a with | some ws => (Fs eta hp).bind fun r h2 => .ok (ws ++ r) h2 | none => .bad) h fun s eta a b R1 S1 f1 g => ?_
 cases hi : items s.hp a with
 | none => simp only [hi] at g; exact g.elim
 | some ws =>
  simp only [hi] at g
  obtain ⟨p, xs, ev, hq, l⟩ := items_sq R1 hi f1
  refine ⟨p, xs, ev, hq, s, eta, rfl, R1, S1, ?_⟩
  refine Go.bind g fun r ys s' A' R' f' _ g' => ?_
  exact g' (xs ++ ys) s' rfl (Aft.refl s') R' ((RwL.aft A' R1 _ _ l).append f')
end
section
variable {X : Cx} {Wx : WX} {pos : Pos}
def mVar (i : Nat) : M W := fun eta hp => match eta[i]? with
 | some (some w) => .ok w hp
 | _ => .bad
def mC (x : T) : M W := fun _ hp => .ok (.t x) hp
theorem zab (i : Nat) {x : Str} (hN : X.N[i]? = some x := by rfl) (hv : Vis X.env.scope x := by first | exact Or.inl rfl | exact Or.inr (Or.inl rfl) | exact Or.inr (Or.inr rfl)) (hd : (x == ("__debug__" : Str)) = false := by decide)
  (hcd : (x == ("__classdict__" : Str)) = false := by decide) : IE X Wx Ykw (mVar i) := PE.imp (pe_var hN hv hd hcd) fun σ H Q h => by
 obtain ⟨s, eta, e1, R1, S1, g⟩ := h
 subst e1
 unfold mVar at g
 split at g
 ·rename_i w hw
  obtain ⟨v, h1, h2⟩ := S1.2 i w hw
  exact ⟨v, h1, g v s rfl Yl R1 h2⟩
 ·exact g.elim
theorem t_const {v : V} {x : T} (hx : ∀ s, Rw X.K s (.t x) v) : ∀ σ H Q, tE X.K X.w Wx (mC x) σ H Q → tC v σ H Q := fun σ H Q h => by
 obtain ⟨s, eta, e1, R1, S1, g⟩ := h
 subst e1
 exact g v s rfl Yl R1 (hx s)
theorem zaj {i j} : IE X Wx (.Constant (.int i) j pos) (mC (.int i)) := PE.imp pe_int Ygi
theorem zbw {b j} : IE X Wx (.Constant (.bool b) j pos) (mC (.bl b)) := PE.imp pe_bl Ygi
theorem za6 {j} : IE X Wx (.Constant .none j pos) Yar := PE.imp pe_non Ygi
theorem zam {x j} : IE X Wx (.Constant (.str x) j pos) (mC (.str x)) := PE.imp pe_str Ygi
/-- a module's constant: what stands in the written part -/
def KT (K : PySem.W.Frag) (x : T) (v : V) : Prop := ∀ s, Rw K s (.t x) v
theorem ie_glob {x : Str} {v : V} {u : Value} {t : T} (hg : Gl X x) (hm : X.mg x = some u) (r : RelV v u) (k : KT X.K t v) (hd : (x == ("__debug__" : Str)) = false := by decide) : IE X Wx Ykw (mC t) :=
 PE.imp (pe_glob hg hm r hd) (t_const k)
end
end Mir
namespace Mir
open PySem PySem.Spec L2
open PyProof.Rows hiding St
section
variable {K : PySem.W.Frag} {ω : World} {s : S4}
theorem Rel.fresh (R : Rel K ω s) {p : Addr} (h : s.H p = none) : p ∉ s.rho ∧ ¬ s.fz p := ⟨fun m => R.trk p m h, fun f => R.ftrk p f h⟩
theorem Rel.notlive (R : Rel K ω s) {p : Addr} (h : s.H p = none) : ¬ Live s p := fun ⟨i, c, _, e⟩ => (R.fresh h).1 (List.mem_of_getElem? e)
theorem Rel.liveH (R : Rel K ω s) {i : Nat} {c : Cell} {a : Addr} (h : s.hp[i]? = some (some c)) (e : s.rho[i]? = some a) : s.H a ≠ none := R.trk a (List.mem_of_getElem? e)
/-- a new frozen object -/
def S4.addF (s : S4) (p : Addr) (o : HO) : S4 := ⟨s.rho, fun a => s.fz a ∨ a = p, s.hp, upd s.H p o⟩
theorem zbe (R : Rel K ω s) {p : Addr} {o : HO} (h : s.H p = none) : Aft s (s.addF p o) := by
 refine ⟨⟨[], by simp [S4.addF], by simp⟩, fun a f => .inl f, fun a u e _ => ?_, fun a f => ?_, fun a l => .inl l, fun a e => ?_⟩
 ·show upd s.H p o a = some u
  rw [upd_ne (ne_of_none e h)]; exact e
 ·rcases f with f | f
  ·exact .inl f
  ·exact .inr (.inl (by rw [f]; exact h))
 ·show upd s.H p o a ≠ none
  by_cases q : a = p
  ·rw [q, upd_same]; intro z; cases z
  ·rw [upd_ne q]; exact e
theorem zbl (R : Rel K ω s) {p : Addr} {o : HO} (h : s.H p = none) : Rel K ω (s.addF p o) := by
 have A := zbe (o := o) R h
 refine ⟨R.len, R.nd, fun a m => A.trk a (R.trk a m), fun a f => ?_, fun a l f => ?_, fun i c a e1 e2 => ?_⟩
 ·rcases f with f | f
  ·exact A.trk a (R.ftrk a f)
  ·show upd s.H p o a ≠ none
   rw [f, upd_same]; intro z; cases z
 ·rcases f with f | f
  ·exact R.fz a l f
  ·rw [f] at l; exact R.notlive h l
 ·have q := R.cell i c a e1 e2
  have ne : a ≠ p := fun z => R.liveH e1 e2 (by rw [z]; exact h)
  show CellOk K ω (s.addF p o) a c (upd s.H p o a)
  rw [upd_ne ne]
  exact q.aft A R
theorem addF_tup (R : Rel K ω s) {p : Addr} {o : Obj} {ts : List T} {vs : List V} (h : s.H p = none) (d : o.dict = none) (l : RfL K s.fz s.H ts vs) : Rw K (s.addF p Ykx) Yaq (.ref p) := by
 have A := zbe (o := .frz o (.tup vs)) R h
 simp only [Rw, Rf]
 exact ⟨p, vs, rfl, .inl ⟨.inr rfl, o, upd_same, d⟩, RfL.aft A R _ _ l⟩
theorem addF_pr (R : Rel K ω s) {p : Addr} {ts : List T} {vs : List V} (h : s.H p = none) (l : RfL K s.fz s.H ts vs) : Rw K (s.addF p (.tup vs)) (.t (.pr ts)) (.ref p) := by
 have A := zbe (o := .tup vs) R h
 simp only [Rw, Rf]
 exact ⟨p, vs, rfl, ⟨.inr rfl, upd_same⟩, RfL.aft A R _ _ l⟩
theorem zb7 (R : Rel K ω s) {p : Addr} {ts : List T} {vs : List V} (h : s.H p = none) (l : RfL K s.fz s.H ts vs) : Rw K (s.addF p Yjw) Yas (.ref p) := by
 have A := zbe (o := .lst vs) R h
 simp only [Rw, Rf]
 exact ⟨p, vs, rfl, ⟨.inr rfl, upd_same⟩, RfL.aft A R _ _ l⟩
/-- a new live cell -/
def S4.addL (s : S4) (p : Addr) (c : Cell) (o : HO) : S4 := ⟨s.rho ++ [p], s.fz, s.hp ++ [some c], upd s.H p o⟩
theorem live_addL (R : Rel K ω s) {p a : Addr} {c : Cell} {o : HO} (l : Live (s.addL p c o) a) : Live s a ∨ a = p := by
 obtain ⟨i, d, ⟨e1, al⟩, e2⟩ := l
 have e1 : (s.hp ++ [some c])[i]? = some (some d) := e1
 have e2 : (s.rho ++ [p])[i]? = some a := e2
 by_cases hi : i < s.hp.length
 ·rw [List.getElem?_append_left hi] at e1
  rw [List.getElem?_append_left (by rw [R.len]; exact hi)] at e2
  exact .inl ⟨i, d, ⟨e1, al⟩, e2⟩
 ·rw [List.getElem?_append_right (by rw [R.len]; omega)] at e2
  have : i - s.rho.length = 0 := by
   have := (List.getElem?_eq_some_iff.mp e2).1
   simp at this
   omega
  rw [this] at e2
  simp at e2
  exact .inr e2.symm
theorem zen (R : Rel K ω s) {p : Addr} {c : Cell} {o : HO} (h : s.H p = none) : Aft s (s.addL p c o) := by
 refine ⟨⟨[p], rfl, by simp [h]⟩, fun a f => f, fun a u e _ => ?_, fun a f => .inl f, fun a l => ?_, fun a e => ?_⟩
 ·show upd s.H p o a = some u
  rw [upd_ne (ne_of_none e h)]; exact e
 ·rcases live_addL R l with l | l
  ·exact .inl l
  ·exact .inr (by rw [l]; exact h)
 ·show upd s.H p o a ≠ none
  by_cases q : a = p
  ·rw [q, upd_same]; intro z; cases z
  ·rw [upd_ne q]; exact e
theorem zff (R : Rel K ω s) {p : Addr} {c : Cell} {o : HO} (h : s.H p = none) (ok : CellOk K ω s p c (some o)) : Rel K ω (s.addL p c o) := by
 have A := zen (c := c) (o := o) R h
 have hp := R.fresh h
 refine ⟨by simp [S4.addL, R.len], ?_, fun a m => ?_, fun a f => A.trk a (R.ftrk a f), fun a l f => ?_, fun i d a e1 e2 => ?_⟩
 ·show (s.rho ++ [p]).Nodup
  refine List.nodup_append.mpr ⟨R.nd, by simp, fun a m b hb => ?_⟩
  simp at hb
  rintro rfl
  exact hp.1 (hb ▸ m)
 ·have m : a ∈ s.rho ++ [p] := m
  rcases List.mem_append.mp m with m | m
  ·exact A.trk a (R.trk a m)
  ·simp at m
   show upd s.H p o a ≠ none
   rw [m, upd_same]; intro z; cases z
 ·rcases live_addL R l with l | l
  ·exact R.fz a l f
  ·exact hp.2 (l ▸ f)
 ·have e1 : (s.hp ++ [some c])[i]? = some (some d) := e1
  have e2 : (s.rho ++ [p])[i]? = some a := e2
  show CellOk K ω (s.addL p c o) a d (upd s.H p o a)
  by_cases hi : i < s.hp.length
  ·rw [List.getElem?_append_left hi] at e1
   rw [List.getElem?_append_left (by rw [R.len]; exact hi)] at e2
   have ne : a ≠ p := fun z => R.liveH e1 e2 (by rw [z]; exact h)
   rw [upd_ne ne]
   exact (R.cell i d a e1 e2).aft A R
  ·have h0 : i = s.hp.length := by
    have := (List.getElem?_eq_some_iff.mp e1).1
    simp at this
    omega
   subst h0
   simp at e1
   rw [List.getElem?_append_right Ygc, R.len] at e2
   simp at e2
   subst e1 e2
   rw [upd_same]
   exact ok.aft A R
theorem addL_r (R : Rel K ω s) {p : Addr} {c : Cell} {o : HO} : Rw K (s.addL p c o) (.r s.hp.length) (.ref p) :=
 ⟨p, by show (s.rho ++ [p])[s.hp.length]? = some p; rw [List.getElem?_append_right Ygc, R.len]; simp, rfl⟩
/-- a live cell is changed -/
def S4.setL (s : S4) (i : Nat) (a : Addr) (c : Cell) (o : HO) : S4 := ⟨s.rho, s.fz, s.hp.set i (some c), upd s.H a o⟩
theorem live_setL {i : Nat} {a b : Addr} {c c0 : Cell} {o : HO} (h0 : s.hp[i]? = some (some c0)) (l : Live (s.setL i a c o) b) (hv : c0.alive := by exact True.intro) : Live s b := by
 obtain ⟨j, d, ⟨e1, al⟩, e2⟩ := l
 have e1 : (s.hp.set i (some c))[j]? = some (some d) := e1
 by_cases hj : i = j
 ·subst hj
  exact ⟨i, c0, ⟨h0, hv⟩, e2⟩
 ·rw [List.getElem?_set_ne hj] at e1
  exact ⟨j, d, ⟨e1, al⟩, e2⟩
theorem zgc (R : Rel K ω s) {i : Nat} {a : Addr} {c c0 : Cell} {o : HO} (h0 : s.hp[i]? = some (some c0)) (ha : s.rho[i]? = some a) (hv : c0.alive := by exact True.intro) : Aft s (s.setL i a c o) := by
 refine ⟨⟨[], by simp [S4.setL], by simp⟩, fun _ f => f, fun b u e nl => ?_, fun _ f => .inl f, fun b l => .inl (live_setL h0 l hv), fun b e => ?_⟩
 ·show upd s.H a o b = some u
  rw [upd_ne Ylf]; exact e
 ·show upd s.H a o b ≠ none
  by_cases q : b = a
  ·rw [q, upd_same]; intro z; cases z
  ·rw [upd_ne q]; exact e
theorem rel_setL (R : Rel K ω s) {i : Nat} {a : Addr} {c c0 : Cell} {o : HO} (h0 : s.hp[i]? = some (some c0)) (ha : s.rho[i]? = some a) (ok : CellOk K ω s a c (some o)) (hv : c0.alive := by exact True.intro) : Rel K ω (s.setL i a c o) := by
 have A := zgc (c := c) (o := o) R h0 ha hv
 refine ⟨by simp [S4.setL, R.len], R.nd, fun b m => A.trk b (R.trk b m), fun b f => A.trk b (R.ftrk b f), fun b l f => R.fz b (live_setL h0 l hv) f, fun j d b e1 e2 => ?_⟩
 have e1 : (s.hp.set i (some c))[j]? = some (some d) := e1
 show CellOk K ω (s.setL i a c o) b d (upd s.H a o b)
 by_cases hj : i = j
 ·subst hj
  have e2 : s.rho[i]? = some b := e2
  rw [ha] at e2; cases e2
  rw [List.getElem?_set_self (List.getElem?_eq_some_iff.mp h0).1] at e1
  cases e1
  rw [upd_same]
  exact ok.aft A R
 ·rw [List.getElem?_set_ne hj] at e1
  have e2 : s.rho[j]? = some b := e2
  have ne : b ≠ a := fun z => by
   subst z
   exact hj ((List.getElem?_inj (List.getElem?_eq_some_iff.mp ha).1 R.nd).mp (ha.trans e2.symm))
  rw [upd_ne ne]
  exact (R.cell j d b e1 e2).aft A R
/-- a live cell is frozen -/
def S4.frz (s : S4) (i : Nat) (a : Addr) : S4 := ⟨s.rho, fun b => s.fz b ∨ b = a, s.hp.set i none, s.H⟩
theorem live_frz (R : Rel K ω s) {i : Nat} {a b : Addr} (ha : s.rho[i]? = some a) (l : Live (s.frz i a) b) : Live s b ∧ b ≠ a := by
 obtain ⟨j, d, ⟨e1, al⟩, e2⟩ := l
 have e1 : (s.hp.set i none)[j]? = some (some d) := e1
 have e2 : s.rho[j]? = some b := e2
 by_cases hj : i = j
 ·subst hj
  by_cases hl : i < s.hp.length
  ·rw [List.getElem?_set_self hl] at e1; cases e1
  ·rw [List.getElem?_eq_none Ygg] at e1; cases e1
 ·rw [List.getElem?_set_ne hj] at e1
  refine ⟨⟨j, d, ⟨e1, al⟩, e2⟩, fun z => ?_⟩
  subst z
  exact hj ((List.getElem?_inj (List.getElem?_eq_some_iff.mp ha).1 R.nd).mp (ha.trans e2.symm))
theorem aft_frz (R : Rel K ω s) {i : Nat} {a : Addr} {c0 : Cell} (h0 : s.hp[i]? = some (some c0)) (ha : s.rho[i]? = some a) (hv : c0.alive := by exact True.intro) : Aft s (s.frz i a) := by
 refine ⟨⟨[], by simp [S4.frz], by simp⟩, fun _ f => .inl f, fun b u e nl => e, fun b f => ?_, fun b l => .inl (live_frz R ha l).1, fun b e => e⟩
 rcases f with f | f
 ·exact .inl f
 ·exact .inr (.inr (by rw [f]; exact ⟨i, c0, ⟨h0, hv⟩, ha⟩))
theorem rel_frz (R : Rel K ω s) {i : Nat} {a : Addr} {c0 : Cell} (h0 : s.hp[i]? = some (some c0)) (ha : s.rho[i]? = some a) (hv : c0.alive := by exact True.intro) : Rel K ω (s.frz i a) := by
 have A := aft_frz R h0 ha hv
 refine ⟨by simp [S4.frz, R.len], R.nd, R.trk, fun b f => ?_, fun b l f => ?_, fun j d b e1 e2 => ?_⟩
 ·rcases f with f | f
  ·exact R.ftrk b f
  ·rw [f]; exact R.liveH h0 ha
 ·obtain ⟨l1, ne⟩ := live_frz R ha l
  rcases f with f | f
  ·exact R.fz b l1 f
  ·exact ne f
 ·have e1 : (s.hp.set i none)[j]? = some (some d) := e1
  by_cases hj : i = j
  ·subst hj
   rw [List.getElem?_set_self (List.getElem?_eq_some_iff.mp h0).1] at e1; cases e1
  ·rw [List.getElem?_set_ne hj] at e1
   exact (R.cell j d b e1 e2).aft A R
end
/-- a live list of trees becomes a tree -/
def zdi (w : W) (hp : IH) : Res W := match w with
 | .t x => .ok (.t x) hp
 | .r i => match (getL hp i).bind allT with
  | some ts => .ok Yas (hp.set i none)
  | none => .bad
def mFrz (F : M W) : M W := fun eta hp => (F eta hp).bind fun a h1 => zdi a h1
section
variable {X : Cx} {Wx : WX} {e : Expr} {es : List Expr} {F : M W} {Fs : M (List W)} {pos : Pos}
theorem go_freeze {K : PySem.W.Frag} {ω : World} {s : S4} {w : W} {v : V} {Q : VK} (R : Rel K ω s) (r : Rw K s w v) (g : Go K ω Wx (Rw K) s (zdi w s.hp) Q) : Q v s.H := by
 cases w with
 | t x => exact g v s rfl Yl R r
 | r i =>
  simp only [zdi] at g
  cases hq : (getL s.hp i).bind allT with
  | none => simp only [hq] at g; exact g.elim
  | some ts =>
   simp only [hq] at g
   rw [Option.bind_eq_some_iff] at hq
   obtain ⟨ws, h1, h2⟩ := hq
   obtain ⟨a, vs, e, e1, e2, l, nf⟩ := R.lst h1 r
   subst e
   have A := aft_frz R (zc5 h1) e1
   refine g (.ref a) (s.frz i a) rfl A (rel_frz R (zc5 h1) e1) ?_
   rw [zcw h2] at l
   simp only [Rw, Rf]
   exact ⟨a, vs, rfl, ⟨.inr rfl, e2⟩, RfL.aft A R _ _ Ygh⟩
theorem ie_frz (he : IE X Wx e F) : IE X Wx e (mFrz F) := PE.imp he fun σ H Q h => by
 obtain ⟨s, eta, e1, R1, S1, g⟩ := h
 exact ⟨s, eta, e1, R1, S1, Go.bind g fun a b s' A' R' f' _ g' => go_freeze R' f' g'⟩
def zaw (ws : List W) (hp : IH) : Res W := match allT ws with
 | some ts => if ts.length ≤ 16777216 then .ok Yaq hp else .bad
 | none => .bad
def zay (ws : List W) (hp : IH) : Res W := match allT ws with
 | some ts => if ts.length ≤ 16777216 then .ok Yas hp else .bad
 | none => .bad
def newL (ws : List W) (hp : IH) : Res W := if ws.length ≤ 16777216 then .ok Ydp (hp ++ [some Yhl]) else .bad
section
variable {K : PySem.W.Frag} {ω : World} {s : S4} {ws : List W} {vs : List V} {Q : VK}
theorem go_tup (R : Rel K ω s) (r : RwL K s ws vs) (g : Go K ω Wx (Rw K) s (zaw ws s.hp) Q) : vs.length ≤ sizeLine ∧ ∀ (p : Addr) (o : Obj), s.H p = none → o.dict = none → Q (.ref p) (upd s.H p Ykx) := by
 unfold zaw at g
 split at g
 ·rename_i ts ht
  split at g
  ·rename_i hz
   rw [zcw ht] at r
   refine ⟨by rw [← RwL.length r, List.length_map, sizeLine_eq]; exact hz, fun p o hp d => g (.ref p) (s.addF p Ykx) rfl (zbe R hp) (zbl R hp) (addF_tup R hp d (RwL.of_trees.mp r))⟩
  ·exact g.elim
 ·exact g.elim
theorem go_lst (R : Rel K ω s) (r : RwL K s ws vs) (g : Go K ω Wx (Rw K) s (zay ws s.hp) Q) : vs.length ≤ sizeLine ∧ ∀ p, s.H p = none → Q (.ref p) (upd s.H p Yjw) := by
 unfold zay at g
 split at g
 ·rename_i ts ht
  split at g
  ·rename_i hz
   rw [zcw ht] at r
   refine ⟨by rw [← RwL.length r, List.length_map, sizeLine_eq]; exact hz, fun p hp => g (.ref p) (s.addF p Yjw) rfl (zbe R hp) (zbl R hp) (zb7 R hp (RwL.of_trees.mp r))⟩
  ·exact g.elim
 ·exact g.elim
theorem go_newL (R : Rel K ω s) (r : RwL K s ws vs) (g : Go K ω Wx (Rw K) s (newL ws s.hp) Q) : vs.length ≤ sizeLine ∧ ∀ p, s.H p = none → Q (.ref p) (upd s.H p Yjw) := by
 unfold newL at g
 split at g
 ·rename_i hz
  refine ⟨by rw [← RwL.length r, sizeLine_eq]; exact hz, fun p hp => g (.ref p) (s.addL p Yhl Yjw) rfl (zen R hp) (zff R hp ⟨vs, rfl, r⟩) (addL_r R)⟩
 ·exact g.elim
end
/-- a tuple laid, its object known to have no dict -/
def tTupS (t : TA) : TE := fun σ H Q => t σ H fun xs H1 => xs.length ≤ sizeLine ∧ ∀ (p : Addr) (o : Obj), H1 p = none → o.dict = none → Q (.ref p) (upd H1 p Ykv)
theorem laid_tup {pins : List Ya9} {σ : St} {H : Hp} {s : Shared} {xs : List V} {us : List Value} {t' : Nat} {Q : VK} (I : Inv X pins σ H s) (r : Vals xs us) (z : xs.length ≤ sizeLine)
  (q : ∀ (p : Addr) (o : Obj), H p = none → o.dict = none → Q (.ref p) (upd H p Ykv)) : EP X pins σ Q Ycf { s with heap := s.heap.push { cls := .type "tuple", data := .seq us.toArray }, toks := t' } := by
 refine ⟨.ref s.heap.objs.size, _, I.laid (t' := t') (o := .frz { cls := .type "tuple", data := .seq us.toArray } (.tup xs)) (fun b u e => Heap.get?_push_of_some _ e) Ye7 ?_, rfl, q _ _ I.fresh rfl⟩
 exact ⟨Heap.get?_push_size _ rfl, z, us, r, ⟨_, Heap.get?_push_size _ rfl, rfl, _, rfl⟩⟩
theorem pe_tupS {x1} {t : TA} (h : PA X es t) : PE X (.Tuple es x1 pos) (tTupS t) := by
 refine ⟨fun pn s0 σ H Q J hq => ?_⟩
 refine wpAny_Tuple_spliced (thn (h.run pos pn s0 σ H _ J hq) fun us s1 w => ?_)
 obtain ⟨xs, H1, J1, r, z, q⟩ := w
 exact ⟨by rw [← r.length]; exact z, laid_tup (t' := s1.toks) J1 r z q⟩
theorem zat {x1} (h : IA X Wx es Fs) : IE X Wx (.Tuple es x1 pos) (mApp zaw Fs) := PE.imp (pe_tupS h) fun σ H Q h =>
 tM.bind1 (R := fun (xs : List V) (H1 : Hp) => xs.length ≤ sizeLine ∧ ∀ (p : Addr) (o : Obj), H1 p = none → o.dict = none → Q (.ref p) (upd H1 p Ykv)) (k := fun (a : List W) _ hp => zaw a hp) h fun s eta a b R1 _ f1 g => go_tup R1 f1 g
theorem ie_lstF (h : IA X Wx es Fs) : IE X Wx (.List es pos) (mApp zay Fs) := PE.imp (pe_lst h) fun σ H Q h =>
 tM.bind1 (R := fun (xs : List V) (H1 : Hp) => xs.length ≤ sizeLine ∧ ∀ p, H1 p = none → Q (.ref p) (upd H1 p Yib)) (k := fun (a : List W) _ hp => zay a hp) h fun s eta a b R1 _ f1 g => go_lst R1 f1 g
theorem ie_lstL (h : IA X Wx es Fs) : IE X Wx (.List es pos) (mApp newL Fs) := PE.imp (pe_lst h) fun σ H Q h =>
 tM.bind1 (R := fun (xs : List V) (H1 : Hp) => xs.length ≤ sizeLine ∧ ∀ p, H1 p = none → Q (.ref p) (upd H1 p Yib)) (k := fun (a : List W) _ hp => newL a hp) h fun s eta a b R1 _ f1 g => go_newL R1 f1 g
end
def asB (w : W) (hp : IH) : Res Bool := match w with
 | .t (.bl b) => .ok b hp
 | _ => .bad
/-- a value's truth -/
def truW (w : W) (hp : IH) : Res Bool := match w with
 | .t .non => .ok false hp
 | .t (.bl b) => .ok b hp
 | .t (.int i) => .ok (i != 0) hp
 | .t (.str s) => if s.length ≤ 16777216 then .ok ((s.length : Int) != 0) hp else .bad
 | w => match items hp w with
  | some ws => .ok (!ws.isEmpty) hp
  | none => .bad
def zah (f : W → IH → Res Bool) (F : M W) : M Bool := fun eta hp => (F eta hp).bind fun a h1 => f a h1
def mAnd (A B : M Bool) : M Bool := fun eta hp => (A eta hp).bind fun a h1 => if a then B eta h1 else .ok false h1
def mOr (A B : M Bool) : M Bool := fun eta hp => (A eta hp).bind fun a h1 => if a then .ok true h1 else B eta h1
def mNot (A : M Bool) : M Bool := fun eta hp => (A eta hp).bind fun a h1 => .ok (!a) h1
def mIf {A : Type} (T : M Bool) (F G : M A) : M A := fun eta hp => (T eta hp).bind fun b h1 => if b then F eta h1 else G eta h1
section
variable {X : Cx} {Wx : WX} {a b c e : Expr} {rest : List Expr} {Fa Fb Fc F : M W} {A B : M Bool} {pos : Pos}
theorem go_asB {K : PySem.W.Frag} {ω : World} {s : S4} {w : W} {v : V} {Q : Bool → Hp → Prop} (R : Rel K ω s) (r : Rw K s w v) (g : Go K ω Wx Yic s (asB w s.hp) Q) : ∃ k, v = .bl k ∧ Q k s.H := by
 unfold asB at g
 split at g
 ·rename_i k
  simp only [Rw, Rf] at r
  exact ⟨k, r, g k s rfl Yl R rfl⟩
 ·exact g.elim
theorem it_cmp {op : CmpOp} {f : Op2} {r : R2} (ho : OpR X (compareOp op) r) (hf : zdv X.K X.w Wx f r) (ha : IE X Wx a Fa) (hb : IE X Wx b Fb) (hm : behindInMarks op b = false) : IT X Wx (.Compare a [op] [b] pos) (zah asB (mBin f Fa Fb)) :=
 PT.imp (pt_cmpR ho ha hb hm) fun σ H Q h => by
  have h' : tE X.K X.w Wx (mBin f Fa Fb) σ H Yin := tM.bind1 (R := fun (x : V) (H1 : Hp) => ∃ k, x = .bl k ∧ Q k H1) (k := fun (a : W) _ hp => asB a hp) h fun s eta a b R1 _ f1 g => go_asB R1 f1 g
  exact t_bin hf σ H _ h'
theorem items_at {K : PySem.W.Frag} {ω : World} {s : S4} (R : Rel K ω s) {w : W} {v : V} {ws : List W} (h : items s.hp w = some ws) (r : Rw K s w v) : ∃ p xs, v = .ref p ∧ ((SqL K s.H p xs) ∨ SqT K s.H p xs) ∧ RwL K s ws xs := by
 obtain ⟨p, xs, e, q, l⟩ := items_sq R h r
 exact ⟨p, xs, e, q.symm, l⟩
theorem go_tru {K : PySem.W.Frag} {ω : World} {s : S4} {w : W} {v : V} {Q : Bool → Hp → Prop} (R : Rel K ω s) (r : Rw K s w v) (g : Go K ω Wx Yic s (truW w s.hp) Q) : ∃ k, TruV K v s.H k ∧ Q k s.H := by
 have fin : ∀ {k : Bool}, Go K ω Wx Yic s (.ok k s.hp) Q → Q k s.H := fun g => g _ s rfl Yl R rfl
 have seq : (match items s.hp w with | some ws => Res.ok (!ws.isEmpty) s.hp | none => .bad : Res Bool) = truW w s.hp → ∃ k, TruV K v s.H k ∧ Q k s.H := fun e => by
  rw [← e] at g
  cases hi : items s.hp w with
  | none => simp only [hi] at g; exact g.elim
  | some ws =>
   simp only [hi] at g
   obtain ⟨p, xs, ev, q, l⟩ := items_at R hi r
   subst ev
   have em : ws.isEmpty = xs.isEmpty := by
    have := RwL.length l
    cases ws <;> cases xs <;> simp_all
   refine ⟨!ws.isEmpty, ?_, fin g⟩
   rcases q with q | q
   ·exact .inl ⟨xs, q, by rw [em]⟩
   ·exact .inr (.inl ⟨xs, q, by rw [em]⟩)
 cases w with
 | r i => exact seq rfl
 | t x =>
  cases x with
  | non => simp only [Rw, Rf] at r; subst r; exact ⟨false, rfl, fin g⟩
  | bl b => simp only [Rw, Rf] at r; subst r; exact ⟨b, rfl, fin g⟩
  | int i => simp only [Rw, Rf] at r; subst r; exact ⟨_, rfl, fin g⟩
  | str z =>
   simp only [Rw, Rf] at r; subst r
   simp only [truW] at g
   split at g
   ·rename_i hz
    exact ⟨_, ⟨by rw [sizeLine_eq]; exact hz, rfl⟩, fin g⟩
   ·exact g.elim
  | _ => exact seq rfl
theorem zbc (h : IE X Wx e F) (he : ∀ whole, isTrue e X.env whole = (do let v ← whole; standAt e.pos; holding [v] (truthy v)) := by intro _; rfl) : IT X Wx e (zah truW F) := by
 refine PT.imp (pt_truth h he) fun σ H Q h => ?_
 exact tM.bind1 (R := fun (x : V) (H1 : Hp) => ∃ k, TruV X.K x H1 k ∧ Q k H1) (k := fun (a : W) _ hp => truW a hp) h fun s eta a b R1 _ f1 g => go_tru R1 f1 g
def IW (X : Cx) (Wx : WX) (e : Expr) (F : M Bool) : Prop := PW X e (tT X.K X.w Wx F)
theorem IW.it (h : IW X Wx e A) : IT X Wx e A := PW.pt h
theorem zc4 (ha : IT X Wx a A) : IW X Wx (.BoolOp .And [a] pos) A := pw_and1 ha
theorem zbt (ha : IT X Wx a A) : IW X Wx (.BoolOp .Or [a] pos) A := pw_or1 ha
theorem t_cond {R : Bool → Hp → Prop} {C D : Type} {K : PySem.W.Frag} {ω : World} {Gam : S4 → C → D → Prop} {k : Bool → IS → IH → Res C} {σ : St} {H : Hp} {Q : D → Hp → Prop}
  (h : tM K ω Wx Gam (fun eta hp => (A eta hp).bind fun b h1 => k b eta h1) σ H Q) (n : ∀ (s : S4) (eta : IS) (b : Bool), Rel K ω s → Sl K s eta σ → Go K ω Wx Gam s (k b eta s.hp) Q → R b s.H) : tT K ω Wx A σ H R :=
 tM.bind1 (R := R) h fun s eta a b R1 S1 f1 g => by subst f1; exact n s eta a R1 S1 g
theorem zdx (ha : IT X Wx a A) (hb : IW X Wx (.BoolOp .And (b :: rest) pos) B) : IW X Wx (.BoolOp .And (a :: b :: rest) pos) (mAnd A B) :=
 PW.imp (pw_and ha hb) fun σ H Q h => t_cond (R := fun c H1 => if c = true then tT X.K X.w Wx B σ H1 Q else Q false H1) (k := fun a eta h1 => if a then B eta h1 else .ok false h1) h fun s eta b R1 S1 g => by
  cases b with
  | true => exact ⟨s, eta, rfl, R1, S1, g⟩
  | false => exact g false s rfl Yl R1 rfl
theorem zcf (ha : IT X Wx a A) (hb : IW X Wx (.BoolOp .Or (b :: rest) pos) B) : IW X Wx (.BoolOp .Or (a :: b :: rest) pos) (mOr A B) :=
 PW.imp (pw_or ha hb) fun σ H Q h => t_cond (R := fun c H1 => if c = true then Q true H1 else tT X.K X.w Wx B σ H1 Q) (k := fun a eta h1 => if a then .ok true h1 else B eta h1) h fun s eta b R1 S1 g => by
  cases b with
  | true => exact g true s rfl Yl R1 rfl
  | false => exact ⟨s, eta, rfl, R1, S1, g⟩
theorem zbi (ha : IT X Wx a A) : IT X Wx (.UnaryOp .Not a pos) (mNot A) :=
 PT.imp (pt_not ha) fun σ H Q h => t_cond (R := fun c H1 => Q (!c) H1) (k := fun a eta h1 => .ok (!a) h1) h fun s eta b R1 S1 g => g (!b) s rfl Yl R1 rfl
theorem ze6 (hc : IT X Wx c A) (ha : IE X Wx a Fa) (hb : IE X Wx b Fb) : IE X Wx (.IfExp c a b pos) (mIf A Fa Fb) :=
 PE.imp (pe_ifExp hc ha hb) fun σ H Q h => t_cond (R := fun c H1 => if c = true then tE X.K X.w Wx Fa σ H1 Q else tE X.K X.w Wx Fb σ H1 Q) (k := fun b eta h1 => if b then Fa eta h1 else Fb eta h1) h fun s eta b R1 S1 g => by
  cases b with
  | true => exact ⟨s, eta, rfl, R1, S1, g⟩
  | false => exact ⟨s, eta, rfl, R1, S1, g⟩
/-- bools as values: and, or, not (all but the last a bool) -/
def mAndV (Fa Fb : M W) : M W := fun eta hp => (Fa eta hp).bind fun a h1 => match a with | .t (.bl true) => Fb eta h1 | .t (.bl false) => .ok (.t Yo) h1 | _ => .bad
def mOrV (Fa Fb : M W) : M W := fun eta hp => (Fa eta hp).bind fun a h1 => match a with | .t (.bl true) => .ok (.t Yae) h1 | .t (.bl false) => Fb eta h1 | _ => .bad
def mNotV (Fa : M W) : M W := fun eta hp => (Fa eta hp).bind fun a h1 => match a with | .t (.bl b) => .ok (.t (.bl (!b))) h1 | _ => .bad
theorem ie_one {op} (h : IE X Wx a F) : IE X Wx (.BoolOp op [a] pos) F := pe_one h
theorem ie_and (ha : IE X Wx a Fa) (hb : IE X Wx (.BoolOp .And (b :: rest) pos) Fb) : IE X Wx (.BoolOp .And (a :: b :: rest) pos) (mAndV Fa Fb) :=
 PE.imp (pe_and ha hb) fun σ H Q h => tM.bind1 (R := fun (x : V) (H1 : Hp) => ∃ c, x = .bl c ∧ if c = true then tE X.K X.w Wx Fb σ H1 Q else Q Yo H1)
  (k := fun (a : W) eta h1 => match a with | .t (.bl true) => Fb eta h1 | .t (.bl false) => .ok (.t Yo) h1 | _ => .bad) h fun s eta a b R1 S1 f1 g => by
  split at g
  ·simp only [Rw, Rf] at f1; exact ⟨true, f1, by rw [if_pos rfl]; exact ⟨s, eta, rfl, R1, S1, g⟩⟩
  ·simp only [Rw, Rf] at f1; exact ⟨false, f1, by rw [if_neg Bool.false_ne_true]; exact g Yo s rfl Yl R1 Yk⟩
  ·exact g.elim
theorem ie_or (ha : IE X Wx a Fa) (hb : IE X Wx (.BoolOp .Or (b :: rest) pos) Fb) : IE X Wx (.BoolOp .Or (a :: b :: rest) pos) (mOrV Fa Fb) :=
 PE.imp (pe_or ha hb) fun σ H Q h => tM.bind1 (R := fun (x : V) (H1 : Hp) => ∃ c, x = .bl c ∧ if c = true then Q Yae H1 else tE X.K X.w Wx Fb σ H1 Q)
  (k := fun (a : W) eta h1 => match a with | .t (.bl true) => .ok (.t Yae) h1 | .t (.bl false) => Fb eta h1 | _ => .bad) h fun s eta a b R1 S1 f1 g => by
  split at g
  ·simp only [Rw, Rf] at f1; exact ⟨true, f1, by rw [if_pos rfl]; exact g Yae s rfl Yl R1 Yk⟩
  ·simp only [Rw, Rf] at f1; exact ⟨false, f1, by rw [if_neg Bool.false_ne_true]; exact ⟨s, eta, rfl, R1, S1, g⟩⟩
  ·exact g.elim
theorem ie_not (ha : IE X Wx a Fa) : IE X Wx (.UnaryOp .Not a pos) (mNotV Fa) :=
 PE.imp (pe_not ha) fun σ H Q h => tM.bind1 (R := fun (x : V) (H1 : Hp) => ∃ c, x = .bl c ∧ Q (.bl (!c)) H1)
  (k := fun (a : W) _ h1 => (match a with | .t (.bl b) => .ok (W.t (.bl (!b))) h1 | _ => .bad : Res W)) h fun s eta a b R1 S1 f1 g => by
  split at g
  ·rename_i c
   simp only [Rw, Rf] at f1; exact ⟨c, f1, g (.bl (!c)) s rfl Yl R1 Yk⟩
  ·exact g.elim
/-- a < b <= c -/
def mChain (f f' : Op2) (Fa Fb Fc : M W) : M W := fun eta hp => (Fa eta hp).bind fun a h1 => (Fb eta h1).bind fun b h2 => (f a b h2).bind fun z h3 => match z with
 | .t (.bl true) => (Fc eta h3).bind fun c h4 => f' b c h4
 | .t (.bl false) => .ok (.t Yo) h3
 | _ => .bad
end
end Mir
namespace Mir
open PySem PySem.Spec L2
open PyProof.Rows hiding St
inductive Kd where | l | t
def Sq (K : PySem.W.Frag) (H : Hp) : Kd → Addr → List V → Prop
 | .l => SqL K H
 | .t => SqT K H
def IterH (h : Heap) : Kd → Addr → Addr → Nat → Prop
 | .l => h.IsListIter
 | .t => h.IsTupleIter
def SeqH (h : Heap) : Kd → Addr → Array Value → Prop
 | .l => h.IsList
 | .t => h.IsTuple
def iterO (kd : Kd) (a : Addr) : Obj := match kd with
 | .l => { cls := .type "list_iterator", data := .fields #[.ref a, .int 0 0] }
 | .t => { cls := .type "tuple_iterator", data := .fields #[.ref a, .int 0 0] }
section
variable {X : Cx} {pins : List Ya9} {σ : L2.St} {H : Hp} {s : Shared}
theorem Inv_sq (I : Inv X pins σ H s) {kd : Kd} {a : Addr} {xs : List V} (h : Sq X.K H kd a xs) : ∃ its : List Value, Vals xs its ∧ SeqH s.heap kd a its.toArray := by
 cases kd with
 | l => obtain ⟨its, r, p, _⟩ := I.list h; exact ⟨its, r, p.isList⟩
 | t => obtain ⟨its, r, p, _⟩ := I.tuple h; exact ⟨its, r, p⟩
theorem Inv_sq_inj (I : Inv X pins σ H s) {kd : Kd} {a : Addr} {xs ys : List V} (h : Sq X.K H kd a xs) (h' : Sq X.K H kd a ys) : xs = ys := by
 cases kd with
 | l => exact I.list_inj h h'
 | t => exact I.tuple_inj h h'
end
theorem SeqH.lt {h : Heap} {kd : Kd} {a : Addr} {its : Array Value} (x : SeqH h kd a its) : a < h.objs.size := by
 cases kd with
 | l => obtain ⟨o, e, _⟩ := x; exact Heap.lt_size e
 | t => obtain ⟨o, e, _⟩ := x; exact Heap.lt_size e
theorem IterH.lt {h : Heap} {kd : Kd} {it a : Addr} {i : Nat} (x : IterH h kd it a i) : it < h.objs.size := by
 cases kd with
 | l => obtain ⟨o, e, _⟩ := x; exact Heap.lt_size e
 | t => obtain ⟨o, e, _⟩ := x; exact Heap.lt_size e
theorem IterH.ob {h : Heap} {kd : Kd} {it a : Addr} {i : Nat} (x : IterH h kd it a i) : ∃ o, h.get? it = some o ∧ ∀ v, o.data ≠ .cell v := by
 cases kd with
 | l => obtain ⟨o, e, _, d⟩ := x; exact ⟨o, e, fun v z => by rw [d] at z; cases z⟩
 | t => obtain ⟨o, e, _, d⟩ := x; exact ⟨o, e, fun v z => by rw [d] at z; cases z⟩
theorem IterH.at_ {h h' : Heap} {kd : Kd} {it a : Addr} {i : Nat} (x : IterH h kd it a i) (k : ∀ o, h.get? it = some o → h'.get? it = some o) : IterH h' kd it a i := by
 cases kd with
 | l => exact Heap.IsListIter.at x k
 | t => exact Heap.IsTupleIter.at x k
theorem IterH.new {h : Heap} {kd : Kd} {it a : Addr} (e : h.get? it = some (iterO kd a)) : IterH h kd it a 0 := by
 cases kd with
 | l => exact ⟨_, e, rfl, rfl⟩
 | t => exact ⟨_, e, rfl, rfl⟩
theorem zfu (kd : Kd) (a : Addr) (its : Array Value) : Begins (.ref a) (iterO kd a) fun h => SeqH h kd a its := by
 cases kd with
 | l => exact begins_list a its
 | t => exact begins_tuple a its
theorem zfe {prog : Program} {w : World} {A : Around} (hh : A.handled = none) (kd : Kd) (it a : Addr) (hne : a ≠ it) (its : Array Value) :
  Draws prog w A it [it, a] its.size (fun i v => its[i]? = some v) (fun i h => IterH h kd it a i ∧ SeqH h kd a its) := by
 cases kd with
 | l => exact Draws.list hh it a hne its
 | t => exact Draws.tuple hh it a hne its
def ItQ (K : PySem.W.Frag) (kd : Kd) (a : Addr) : It := match kd with | .l => Itl K a | .t => Itt K a
def iSq (K : PySem.W.Frag) (te : TE) : TI := fun σ H R => te σ H fun x H1 => ∃ kd a xs, x = .ref a ∧ Sq K H1 kd a xs ∧ R (ItQ K kd a) H1
theorem pi_sq {X : Cx} {tg e : Expr} {te : TE} (he : PE X e te) : PI X tg e (iSq X.K te) := ⟨fun pins s σ H R I h => by
 refine thn Yeo ?_
 rintro v s1 ⟨x, H1, I1, r1, kd, a, xs, ex, hq, q⟩
 subst ex
 obtain rfl : v = Value.ref a := r1
 obtain ⟨its, rv, p⟩ := Inv_sq I1 hq
 have I2 : Inv X pins σ H1 { s1 with heap := s1.heap.push (iterO kd a) } := I1.kept (t' := s1.toks) fun b o e => Heap.get?_push_of_some _ e
 have fp : ∀ b ∈ [s1.heap.objs.size], FpOk X pins H1 b := fun b hb => by
  obtain rfl : b = s1.heap.objs.size := by simpa using hb
  exact I1.fpOk Ye7 (I1.hok.fresh Ye7)
 have hn : IterH (s1.heap.push (iterO kd a)) kd s1.heap.objs.size a 0 := IterH.new (Heap.get?_push_size _ (by cases kd <;> rfl))
 refine (zfu kd a its.toArray).iter _ _ _ _ _ _ p ?_
 cases kd with
 | l => exact ⟨s1.heap.objs.size, [s1.heap.objs.size], _, _, H1, rfl, I2, turn_list a _, hn, fp, q⟩
 | t => exact ⟨s1.heap.objs.size, [s1.heap.objs.size], _, _, H1, rfl, I2, turn_tuple a _, hn, fp, q⟩⟩
def ItEn (K : PySem.W.Frag) (kd : Kd) (a : Addr) : It :=
 ⟨fun i H => ∃ (xs : List V) (x : V), Sq K H kd a xs ∧ xs[i]? = some x,
  fun i H v H' => ∃ (T : Addr) (x : V), v = .ref T ∧ H T = none ∧ H' = upd H T Yjm ∧ ∀ xs, Sq K H kd a xs → xs[i]? = some x,
  fun i H => ∃ xs : List V, Sq K H kd a xs ∧ xs.length = i⟩
def TnEn (kd : Kd) (a e it : Addr) (i : Nat) (h : Heap) : Prop := (∃ old, IsEnum h e it (0 + (i : Int)) old) ∧ IterH h kd it a i ∧ e ≠ it ∧ a ≠ it ∧ a ≠ e
theorem turn_en {P : Program} {w : World} {K : PySem.W.Frag} {elts : List Expr} {kk : Nat} {tpos : Pos} (kd : Kd) (a e it : Addr) : Turn P w K Yg4 (ItEn K kd a) [e, it] e (TnEn kd a e it) where
 mem := by simp
 obj := fun i h st b hb => by
  obtain ⟨⟨old, he⟩, hi, _⟩ := st
  have e' : b = e ∨ b = it := by simpa using hb
  rcases e' with z | z
  ·rw [z]; exact ⟨_, he, fun v q => nomatch q⟩
  ·rw [z]; exact hi.ob
 keep := fun i h h' st k => by
  obtain ⟨⟨old, he⟩, hi, ne⟩ := st
  exact ⟨⟨old, k e Yaw _ he⟩, hi.at_ fun o q => k it Yaw o q, ne⟩
 item := by
  intro X hP hw hK hc i pins s σ H E I hf st hg
  subst hP hw hK
  obtain ⟨⟨old, he⟩, hit, hne, hae⟩ := st
  obtain ⟨xs, x, hq, hx⟩ := hg
  obtain ⟨its, rv, p⟩ := Inv_sq I hq
  obtain ⟨u, hu, ru⟩ := rv.get hx
  have hd : X.A.in1.handled = none := I.ok.hd hc
  have D := zfe (prog := X.prog) (w := X.w) hd kd it a hae.1 its.toArray
  have Wk := WalksT.enumFrom 0 D e hne (by simp [hne, Ne.symm hae.2]) Yaw
  have hlt : i < its.toArray.size := by
   have := (List.getElem?_eq_some_iff.mp hu).1
   simpa using this
  refine Wk.item i s _ _ hlt ⟨⟨old, he⟩, hit, p⟩ fun T vals h1 tk hv hT hTup hm hk => ⟨_, rfl, ?_⟩
  refine Wk.go elts kk tpos i T { s with heap := h1, toks := tk } _ _ hm fun h2 st2 hk2 => ?_
  obtain ⟨t, y, hy, ev⟩ := hv
  subst ev
  have ey : y = u := by
   have hy' : its[i]? = some y := by simpa using hy
   exact Option.some.inj (hy'.symm.trans hu)
  subst ey
  have hTw : T ∉ [e, it] := Wk.apart i T h1 hm
  have hT2 : h2.IsTuple T #[.int (0 + (i : Int)) t, y] := hTup.at fun o q => hk2 T o hTw q
  have new : ObjOk X.prog X.w (upd H T Yjm) h2 T Yjm :=
   ⟨by show 2 ≤ sizeLine; decide, [.int (0 + (i : Int)) t, y], .cons ⟨t, by rw [Int.zero_add]⟩ (.cons ru .nil), hT2⟩
  have I1 : Inv X pins σ (upd H T Yjm) { s with heap := h2, toks := tk } :=
   I.turnedNew (ch := [e, it]) (fun b ob hb q => hk2 b ob hb (hk b ob hb q)) hf hT new
  refine ⟨.ref T, _, I1, rfl, ⟨T, x, rfl, I.hok.fresh hT, rfl, fun ys hy => by rw [Inv_sq_inj I hy hq]; exact hx⟩, ?_, fun b hb => ?_⟩
  ·exact ⟨by have := st2.1; simpa using this, st2.2.1, hne, hae⟩
  ·have nb : b ≠ T := fun z => hTw (z ▸ hb)
   rw [upd_ne nb]
   exact (hf b hb).1
 done := by
  intro X hP hw hK hc i pins s σ H E I hf st hg
  subst hP hw hK
  obtain ⟨⟨old, he⟩, hit, hne, hae⟩ := st
  obtain ⟨xs, hq, hl⟩ := hg
  obtain ⟨its, rv, p⟩ := Inv_sq I hq
  have D := zfe (prog := X.prog) (w := X.w) (A := X.A.in1) (I.ok.hd hc) kd it a hae.1 its.toArray
  have Wk := WalksT.enumFrom 0 D e hne (by simp [hne, Ne.symm hae.2]) Yaw
  have hn : its.toArray.size = i := by have := rv.length; simp; omega
  have := Wk.done s (fun r s1 => r = none ∧ Inv X pins σ H s1) E (by rw [hn]; exact ⟨⟨old, he⟩, hit, p⟩) fun h1 tk hk => ⟨rfl, I.turnedL (ch := [e, it]) hk hf⟩
  exact this
 self := fun A i s Q E st h => by
  obtain ⟨⟨old, he⟩, _⟩ := st
  exact wpAny_pyIter_enum he h
section
variable {prog : Program} {w : World} {A : Around} {E : Value → Shared → Prop} {s : Shared}
theorem meets_en1 {v : Value} {o : Obj} {Hv : Heap → Prop} (B : Begins v o Hv) :
  Meets (Builtin.«enumerate.__new__» ⟨[.type "enumerate", v], []⟩) (fun _ R s => Hv s.heap ∧
   R (.ok (.ret (.ref (s.heap.push o).objs.size))) { s with heap := (s.heap.push o).push { cls := .type "enumerate", data := .fields #[.none, .bool false, .ref s.heap.objs.size, rawInt 0, .none, .none] } }) :=
 .of_wp fun prog w A R s hs => by
  obtain ⟨hp, g, d, tk, os⟩ := s
  obtain ⟨hv, hr⟩ := hs
  have hsub := sub_enumerate
  have q1 : ∀ {A2 : Around} {E2 : Value → Shared → Prop} {Q2 : Value → Shared → Prop}, Q2 (.ref hp.objs.size) ⟨hp.push o, g, d, tk, os⟩ → wpAny Yal A2 (pyIter v) Q2 E2 ⟨hp, g, d, tk, os⟩ :=
   fun q => B.iter prog w _ _ ⟨hp, g, d, tk, os⟩ _ hv q
  wp_walk using q1
  refine wpAny_stack_any fun st => ?_
  refine wpAny_pure ?_
  have fin : ∀ b : Bool, b = true ∨ b = false := fun b => by cases b <;> simp
  split
  ·rename_i c _ _ _ _ _
   rcases fin (c == Value.type "enumerate") with q | q <;> rw [q] <;> (wp_walk using q1; exact ⟨_, rfl, hr⟩)
  ·(wp_walk using q1; exact ⟨_, rfl, hr⟩)
theorem en1_begins {v : Value} {o : Obj} {Hv : Heap → Prop} {Q : Value → Shared → Prop} (B : Begins v o Hv) (h1 : Hv s.heap)
  (h : ∀ h', IsEnum h' Ybh s.heap.objs.size 0 .none → h'.get? s.heap.objs.size = some o → (∀ b ob, s.heap.get? b = some ob → h'.get? b = some ob) → Q (.ref Ybh) { s with heap := h' }) :
  wpAny Yal A (call (.type "enumerate") [v]) Q E s := by
 refine callType_new F.called_enumerate Yct (F.typeCall_enumerate_1 _) (F.newCall_enumerate_1 _) (fun obj => F.args_object_init_2 obj _) F.entry_enumerate_new (meets_en1 B) ⟨h1, ?_⟩
 have hz : (s.heap.push o).objs.size = s.heap.objs.size + 1 := Heap.size_push ..
 show _ ∧ _
 rw [hz]
 have he := Heap.get?_push_size (s.heap.push o) (o := { cls := .type "enumerate", data := .fields #[.none, .bool false, .ref s.heap.objs.size, rawInt 0, .none, .none] }) rfl
 rw [hz] at he
 exact ⟨⟨_, he, rfl⟩, h _ he (Heap.get?_push_of_some _ (Heap.get?_push_size _ B.free)) fun b ob x => Heap.get?_push_of_some _ (Heap.get?_push_of_some _ x)⟩
end
def iEn (K : PySem.W.Frag) (ta : TA) : TI := fun σ H R => ta σ H fun vs H1 => ∃ kd a xs, vs = [.ref a] ∧ Sq K H1 kd a xs ∧ R (ItEn K kd a) H1
theorem pi_en {X : Cx} {e : Expr} {ta : TA} {p pos tpos : Pos} {elts : List Expr} {kk : Nat} (hg : Gl X "enumerate") (hm : X.mg "enumerate" = none) (ha : PA X [e] ta) (hs : starEach [e] X.env = [Yi6] := by rfl) :
  PI X Yg4 (.Call (.Name "enumerate" p) [e] [] pos) (iEn X.K ta) := ⟨fun pins s σ H R I h => by
 refine Call_ (ld_blt I hg hm boot_enumerate (PyProof.Rows.callWith_type1 (thn Yh1 ?_) hs rfl))
 rintro us s1 ⟨vs, H1, I1, r1, kd, a, xs, ex, hq, q⟩
 subst ex
 obtain rfl := Vals.ref1 r1
 obtain ⟨its, rv, p'⟩ := Inv_sq I1 hq
 refine en1_begins (zfu kd a its.toArray) p' fun h' he hit hk => wpAny_pyIter_enum he ?_
 have I2 : Inv X pins σ H1 { s1 with heap := h' } := I1.kept (t' := s1.toks) hk
 refine ⟨s1.heap.objs.size + 1, [s1.heap.objs.size + 1, s1.heap.objs.size], _, _, H1, rfl, I2, turn_en kd a (s1.heap.objs.size + 1) s1.heap.objs.size, ⟨⟨.none, by simpa using he⟩, IterH.new hit, Nat.succ_ne_self _, Nat.ne_of_lt p'.lt, Nat.ne_of_lt (Nat.lt_succ_of_lt p'.lt)⟩, fun b hb => ?_, q⟩
 have e' : b = s1.heap.objs.size + 1 ∨ b = s1.heap.objs.size := by simpa using hb
 have hle : s1.heap.objs.size ≤ b := by rcases e' with z | z <;> (rw [z]; first | exact Nat.le_refl _ | exact Nat.le_add_right _ _)
 exact I1.fpOk hle (I1.hok.fresh hle)⟩
def ItZp (K : PySem.W.Frag) (k1 k2 : Kd) (a b : Addr) : It :=
 ⟨fun i H => ∃ (xs ys : List V) (x y : V), Sq K H k1 a xs ∧ Sq K H k2 b ys ∧ xs[i]? = some x ∧ ys[i]? = some y,
  fun i H v H' => ∃ (T : Addr) (x y : V), v = .ref T ∧ H T = none ∧ H' = upd H T (.tup [x, y]) ∧ (∀ xs, Sq K H k1 a xs → xs[i]? = some x) ∧ ∀ ys, Sq K H k2 b ys → ys[i]? = some y,
  fun i H => ∃ xs ys : List V, Sq K H k1 a xs ∧ Sq K H k2 b ys ∧ min xs.length ys.length = i⟩
def TnZp (k1 k2 : Kd) (a b z TI TO i1 i2 : Addr) (i : Nat) (h : Heap) : Prop :=
 (IsZip h z TI TO .none ∧ IsTupOf2 h TI (.ref i1) (.ref i2) ∧ (∃ p q, IsTupOf2 h TO p q) ∧ IterH h k1 i1 a i ∧ IterH h k2 i2 b i) ∧ ZipSep2 z TI TO i1 i2 [i1, a] [i2, b] ∧ a ≠ i1 ∧ b ≠ i2
theorem turn_zp {P : Program} {w : World} {K : PySem.W.Frag} {elts : List Expr} {kk : Nat} {tpos : Pos} (k1 k2 : Kd) (a b z TI TO i1 i2 : Addr) :
  Turn P w K Yg4 (ItZp K k1 k2 a b) [z, TI, TO, i1, i2] z (TnZp k1 k2 a b z TI TO i1 i2) where
 mem := by simp
 obj := fun i h st c hc => by
  obtain ⟨⟨hz, hTI, ⟨p, q, hTO⟩, h1, h2⟩, _⟩ := st
  have e' : c = z ∨ c = TI ∨ c = TO ∨ c = i1 ∨ c = i2 := by simpa using hc
  rcases e' with q | q | q | q | q <;> rw [q]
  ·exact ⟨_, hz, fun v q => nomatch q⟩
  ·exact ⟨_, hTI, fun v q => nomatch q⟩
  ·exact ⟨_, hTO, fun v q => nomatch q⟩
  ·exact h1.ob
  ·exact h2.ob
 keep := fun i h h' st k => by
  obtain ⟨⟨hz, hTI, ⟨p, q, hTO⟩, h1, h2⟩, r⟩ := st
  exact ⟨⟨k z Yaw _ hz, k TI Yaw _ hTI, ⟨p, q, k TO Yaw _ hTO⟩, h1.at_ fun o e => k i1 Yaw o e, h2.at_ fun o e => k i2 Yaw o e⟩, r⟩
 item := by
  intro X hP hw hK hc i pins s σ H E I hf st hg
  subst hP hw hK
  obtain ⟨⟨hz, hTI, hTO, h1, h2⟩, S, n1, n2⟩ := st
  obtain ⟨xs, ys, x, y, hqx, hqy, hx, hy⟩ := hg
  obtain ⟨its, rv, p⟩ := Inv_sq I hqx
  obtain ⟨its2, rv2, p2⟩ := Inv_sq I hqy
  obtain ⟨u, hu, ru⟩ := rv.get hx
  obtain ⟨u2, hu2, ru2⟩ := rv2.get hy
  have hd : X.A.in1.handled = none := I.ok.hd hc
  have Wk := WalksT.zipD2 S (zfe (prog := X.prog) (w := X.w) hd k1 i1 a n1 its.toArray) Ylj
  have l1 := (List.getElem?_eq_some_iff.mp hu).1
  have l2 := (List.getElem?_eq_some_iff.mp hu2).1
  refine Wk.item i s _ _ Yac ⟨hz, hTI, hTO, ⟨h1, p⟩, ⟨h2, p2⟩⟩ fun T vals g1 tk hv hT hTup hm hk => ⟨_, rfl, ?_⟩
  refine Wk.go elts kk tpos i T { s with heap := g1, toks := tk } _ _ hm fun g2 st2 hk2 => ?_
  obtain ⟨w1, w2, hw1, hw2, ev⟩ := hv
  subst ev
  have e1 : w1 = u := by
   have hw1' : its[i]? = some w1 := by simpa using hw1
   exact Option.some.inj (hw1'.symm.trans hu)
  have e2 : w2 = u2 := by
   have hw2' : its2[i]? = some w2 := by simpa using hw2
   exact Option.some.inj (hw2'.symm.trans hu2)
  subst e1 e2
  have hTw : T ∉ [z, TO, i1, i2] := Wk.apart i T g1 hm
  have hT2 : g2.IsTuple T #[w1, w2] := hTup.at fun o q => hk2 T o hTw q
  have new : ObjOk X.prog X.w (upd H T (.tup [x, y])) g2 T (.tup [x, y]) := ⟨by show 2 ≤ sizeLine; decide, [w1, w2], .cons ru (.cons ru2 .nil), hT2⟩
  have fp4 : ∀ c ∈ [z, TO, i1, i2], FpOk X pins H c := fun c hc => hf c (by
   have e' : c = z ∨ c = TO ∨ c = i1 ∨ c = i2 := by simpa using hc
   rcases e' with q | q | q | q <;> simp [q])
  have I1 : Inv X pins σ (upd H T (.tup [x, y])) { s with heap := g2, toks := tk } :=
   I.turnedNew (ch := [z, TO, i1, i2]) (fun c ob hc q => hk2 c ob hc (hk c ob hc q)) fp4 hT new
  refine ⟨.ref T, _, I1, rfl, ⟨T, x, y, rfl, I.hok.fresh hT, rfl, fun l hl => by rw [Inv_sq_inj I hl hqx]; exact hx, fun l hl => by rw [Inv_sq_inj I hl hqy]; exact hy⟩,
   ⟨⟨st2.1, st2.2.1, st2.2.2.1, st2.2.2.2.1.1, st2.2.2.2.2.1⟩, S, n1, n2⟩, fun c hc => ?_⟩
  have nc : c ≠ T := fun q => by
   have hTI2 : c = TI → False := fun e => by
    have hlt : TI < s.heap.objs.size := Heap.lt_size hTI
    have : T < s.heap.objs.size := by rw [← q, e]; exact hlt
    exact absurd hT (Nat.not_le_of_gt this)
   have e' : c = z ∨ c = TI ∨ c = TO ∨ c = i1 ∨ c = i2 := by simpa using hc
   rcases e' with e | e | e | e | e
   ·exact hTw (by simp [← q, e])
   ·exact hTI2 e
   ·exact hTw (by simp [← q, e])
   ·exact hTw (by simp [← q, e])
   ·exact hTw (by simp [← q, e])
  rw [upd_ne nc]
  exact (hf c hc).1
 done := by
  intro X hP hw hK hc i pins s σ H E I hf st hg
  subst hP hw hK
  obtain ⟨⟨hz, hTI, hTO, h1, h2⟩, S, n1, n2⟩ := st
  obtain ⟨xs, ys, hqx, hqy, hend⟩ := hg
  obtain ⟨its, rv, p⟩ := Inv_sq I hqx
  obtain ⟨its2, rv2, p2⟩ := Inv_sq I hqy
  have hd : X.A.in1.handled = none := I.ok.hd hc
  have Wk := WalksT.zipD2 S (zfe (prog := X.prog) (w := X.w) hd k1 i1 a n1 its.toArray) Ylj
  have hn : min its.toArray.size its2.toArray.size = i := by
   have l1 := rv.length
   have l2 := rv2.length
   simp; omega
  have fp4 : ∀ c ∈ [z, TO, i1, i2], FpOk X pins H c := fun c hc => hf c (by
   have e' : c = z ∨ c = TO ∨ c = i1 ∨ c = i2 := by simpa using hc
   rcases e' with q | q | q | q <;> simp [q])
  exact Wk.done s (fun r s1 => r = none ∧ Inv X pins σ H s1) E (by rw [hn]; exact ⟨hz, hTI, hTO, ⟨h1, p⟩, ⟨h2, p2⟩⟩) fun g1 tk hk => ⟨rfl, I.turnedL (ch := [z, TO, i1, i2]) hk fp4⟩
 self := fun A i s Q E st h => wpAny_pyIter_zip st.1.1 h
def iZp (K : PySem.W.Frag) (ta : TA) : TI := fun σ H R => ta σ H fun vs H1 => ∃ k1 k2 a b xs ys, vs = [.ref a, .ref b] ∧ Sq K H1 k1 a xs ∧ Sq K H1 k2 b ys ∧ R (ItZp K k1 k2 a b) H1
theorem pi_zp {X : Cx} {e e2 : Expr} {ta : TA} {p pos tpos : Pos} {elts : List Expr} {kk : Nat} (hg : Gl X "zip") (hm : X.mg "zip" = none) (ha : PA X [e, e2] ta)
  (hs : starEach [e, e2] X.env = (false, eval e X.env) :: starEach [e2] X.env := by rfl) (hpl : (backTo pos (starEach [e2] X.env)).any (·.1) = false := by rfl) :
  PI X Yg4 (.Call (.Name "zip" p) [e, e2] [] pos) (iZp X.K ta) := ⟨fun pins s σ H R I h => by
 refine Call_ (ld_blt I hg hm boot_zip (PyProof.Rows.callWith_type1 (thn Yh1 ?_) hs hpl))
 rintro us s1 ⟨vs, H1, I1, r1, k1, k2, a, b, xs, ys, ex, hqx, hqy, q⟩
 subst ex
 obtain ⟨w1, w2, rfl, rfl, rfl⟩ := r1.two
 obtain ⟨its, rv, p1⟩ := Inv_sq I1 hqx
 obtain ⟨its2, rv2, p2⟩ := Inv_sq I1 hqy
 refine zip_begins2 (zfu k1 a its.toArray) (zfu k2 b its2.toArray) p1 p2 fun h' hz hTI hTO h1 h2 hsz hk => wpAny_pyIter_zip hz ?_
 have I2 : Inv X pins σ H1 { s1 with heap := h' } := I1.kept (t' := s1.toks) hk
 have la := p1.lt
 have lb := p2.lt
 refine ⟨s1.heap.objs.size + 4, [s1.heap.objs.size + 4, s1.heap.objs.size + 2, s1.heap.objs.size + 3, s1.heap.objs.size, s1.heap.objs.size + 1], _, _, H1, rfl, I2,
  turn_zp k1 k2 a b (s1.heap.objs.size + 4) (s1.heap.objs.size + 2) (s1.heap.objs.size + 3) s1.heap.objs.size (s1.heap.objs.size + 1),
  ⟨⟨hz, hTI, ⟨_, _, hTO⟩, IterH.new h1, IterH.new h2⟩, zip_sep2 (fp1 := [a]) (fp2 := [b]) (by simpa using la) (by simpa using lb), Nat.ne_of_lt la, Nat.ne_of_lt (Nat.lt_succ_of_lt lb)⟩, fun c hc => ?_, q⟩
 have e' : c = s1.heap.objs.size + 4 ∨ c = s1.heap.objs.size + 2 ∨ c = s1.heap.objs.size + 3 ∨ c = s1.heap.objs.size ∨ c = s1.heap.objs.size + 1 := by simpa using hc
 have hle : s1.heap.objs.size ≤ c := by rcases e' with z | z | z | z | z <;> (rw [z]; first | exact Nat.le_refl _ | exact Nat.le_add_right _ _)
 exact I1.fpOk hle (I1.hok.fresh hle)⟩
end Mir
namespace Mir
open PySem PySem.Spec L2
open PyProof.Rows hiding St
inductive Fl where
 | nx (eta : IS) | rt (w : W) | bk (eta : IS) | ct (eta : IS)
inductive FlV where
 | nx (o : St) | rt (v : V) | bk (o : St) | ct (o : St)
def RFl (K : PySem.W.Frag) (s : S4) : Fl → FlV → Prop
 | .nx eta, .nx o => Sl K s eta o
 | .rt w, .rt v => Rw K s w v
 | .bk eta, .bk o => Sl K s eta o
 | .ct eta, .ct o => Sl K s eta o
 | _, _ => False
def endQ (D : Ends) : FlV → Hp → Prop
 | .nx o, H => D.nx o H
 | .rt v, H => D.rt v H
 | .bk o, H => D.bk o H
 | .ct o, H => D.ct o H
abbrev tS (K : PySem.W.Frag) (ω : World) (Wx : WX) (F : M Fl) : TS := fun D σ H => tM K ω Wx (RFl K) F σ H (endQ D)
def ISt (X : Cx) (Wx : WX) (st : Stmt) (F : M Fl) : Prop := PS X st (tS X.K X.w Wx F)
def ISs (X : Cx) (Wx : WX) (st : List Stmt) (F : M Fl) : Prop := PSs X st (tS X.K X.w Wx F)
theorem Res.bind_assoc {A B C : Type} (r : Res A) (k : A → IH → Res B) (k' : B → IH → Res C) : (r.bind k).bind k' = r.bind fun a h => (k a h).bind k' := by cases r <;> rfl
def za8 : M Fl := fun eta hp => .ok Yhm hp
def thenF (B : M Fl) (f : Fl) (hp : IH) : Res Fl := match f with
 | .nx eta => B eta hp
 | f => .ok f hp
def mSeq (A B : M Fl) : M Fl := fun eta hp => (A eta hp).bind (thenF B)
def mRet (F : M W) : M Fl := fun eta hp => (F eta hp).bind fun a h1 => .ok (.rt a) h1
def mRetN : M Fl := fun _ hp => .ok (.rt Ya0) hp
def mDrop (F : M W) : M Fl := fun eta hp => (F eta hp).bind fun _ h1 => .ok Yhm h1
def mBrk : M Fl := fun eta hp => .ok (.bk eta) hp
def mCnt : M Fl := fun eta hp => .ok (.ct eta) hp
section
variable {K : PySem.W.Frag} {ω : World} {Wx : WX} {s : S4} {D : Ends}
theorem Go.nx {eta : IS} {σ : St} (R : Rel K ω s) (S : Sl K s eta σ) (g : Go K ω Wx (RFl K) s (.ok Yhm s.hp) (endQ D)) : D.nx σ s.H := g (.nx σ) s rfl Yl R S
theorem Go.ct {eta : IS} {σ : St} (R : Rel K ω s) (S : Sl K s eta σ) (g : Go K ω Wx (RFl K) s (.ok (.ct eta) s.hp) (endQ D)) : D.ct σ s.H := g (.ct σ) s rfl Yl R S
theorem Go.bk {eta : IS} {σ : St} (R : Rel K ω s) (S : Sl K s eta σ) (g : Go K ω Wx (RFl K) s (.ok (.bk eta) s.hp) (endQ D)) : D.bk σ s.H := g (.bk σ) s rfl Yl R S
theorem Go.rt {w : W} {v : V} (R : Rel K ω s) (S : Rw K s w v) (g : Go K ω Wx (RFl K) s (.ok (.rt w) s.hp) (endQ D)) : D.rt v s.H := g (.rt v) s rfl Yl R S
end
section
variable {X : Cx} {Wx : WX} {st : Stmt} {rest sts sts' : List Stmt} {A B : M Fl} {e : Expr} {F : M W} {T : M Bool} {c : Expr} {pos : Pos}
theorem zau : ISs X Wx [] za8 := PSs.imp pss_nil fun D σ H h => by
 obtain ⟨s, eta, e1, R1, S1, g⟩ := h
 subst e1
 exact Go.nx R1 S1 g
theorem zaf (h1 : ISt X Wx st A) (h2 : ISs X Wx rest B) : ISs X Wx (st :: rest) (mSeq A B) := PSs.imp (pss_cons h1 h2) fun D σ H h => by
 obtain ⟨s, eta, e1, R1, S1, g⟩ := h
 refine ⟨s, eta, e1, R1, S1, Go.bind g fun f fv s' A' R' f' _ g' => ?_⟩
 cases f <;> cases fv <;> first | exact f'.elim | skip
 ·exact ⟨s', _, rfl, R', f', g'⟩
 ·exact Go.rt (D := D) R' f' g'
 ·exact Go.bk (D := D) R' f' g'
 ·exact Go.ct (D := D) R' f' g'
theorem zai (h1 : ISt X Wx st A) : ISs X Wx [st] A := pss_one h1
theorem zan (he : IE X Wx e F) : ISt X Wx (.Return (some e) pos) (mRet F) := PS.imp (ps_ret he) fun D σ H h =>
 tM.bind1 (R := fun (x : V) (H1 : Hp) => D.rt x H1) (k := fun (a : W) _ hp => .ok (Fl.rt a) hp) h fun s eta a b R1 _ f1 g => Go.rt R1 f1 g
theorem st_expr (he : IE X Wx e F) (hs : swapsWith e none pos.line X.env = pure false := by rfl) : ISt X Wx (.Expr e pos) (mDrop F) := PS.imp (ps_expr he hs) fun D σ H h =>
 tM.bind1 (R := fun (x : V) (H1 : Hp) => D.nx σ H1) (k := fun (a : W) eta hp => .ok (Fl.nx eta) hp) h fun s eta a b R1 S1 f1 g => Go.nx R1 S1 g
theorem zbf (hc : IT X Wx c T) (ha : ISs X Wx sts A) (hb : ISs X Wx sts' B) : ISt X Wx (.If c sts sts' pos) (mIf T A B) := PS.imp (ps_if hc ha hb) fun D σ H h =>
 t_cond (R := fun (b : Bool) (H1 : Hp) => if b = true then tS X.K X.w Wx A D σ H1 else tS X.K X.w Wx B D σ H1) (k := fun b eta h1 => if b then A eta h1 else B eta h1) h fun s eta b R1 S1 g => by
  cases b with
  | true => exact ⟨s, eta, rfl, R1, S1, g⟩
  | false => exact ⟨s, eta, rfl, R1, S1, g⟩
end
structure TgOk (K : PySem.W.Frag) (ω : World) (g : TG) (G : W → IS → Option IS) (vs : List Nat) : Prop where
 run : ∀ (s : S4) (w : W) (v : V) (eta : IS) (σ : St) (eta' : IS), Rel K ω s → Rw K s w v → Sl K s eta σ → G w eta = some eta' →
  ∃ σ', Sl K s eta' σ' ∧ (∀ us : List Nat, (∀ i ∈ vs, i ∈ us) → wipe σ' us = wipe σ us) ∧ ∀ Q : St → Hp → Prop, Q σ' s.H → g v σ s.H Q
structure TgsOk (K : PySem.W.Frag) (ω : World) (g : TGs) (G : List W → IS → Option IS) (vs : List Nat) : Prop where
 run : ∀ (s : S4) (ws : List W) (xs : List V) (eta : IS) (σ : St) (eta' : IS), Rel K ω s → RwL K s ws xs → Sl K s eta σ → G ws eta = some eta' →
  ∃ σ', Sl K s eta' σ' ∧ (∀ us : List Nat, (∀ i ∈ vs, i ∈ us) → wipe σ' us = wipe σ us) ∧ ∀ Q : St → Hp → Prop, Q σ' s.H → g xs σ s.H Q
def gN (i : Nat) : W → IS → Option IS := fun w eta => some Yjp
theorem wipe_get {σ : St} {j : Nat} : ∀ {us : List Nat}, j ∉ us → (wipe σ us)[j]? = σ[j]?
 | [], _ => rfl
 | u :: us, h => by
  simp only [List.mem_cons, not_or] at h
  unfold wipe
  rw [List.getElem?_set_ne (Ne.symm h.1)]
  exact wipe_get h.2
theorem zgl {σ : St} {j : Nat} : ∀ {us : List Nat}, j ∈ us → j < σ.length → (wipe σ us)[j]? = some none
 | u :: us, h, hl => by
  unfold wipe
  by_cases e : u = j
  ·subst e
   rw [List.getElem?_set_self Yhn]
  ·rw [List.getElem?_set_ne e]
   rcases List.mem_cons.mp h with h | h
   ·exact absurd h.symm e
   ·exact zgl h hl
theorem wipe_set {σ : St} {i : Nat} {x : Option V} {us : List Nat} (h : i ∈ us) : wipe (σ.set i x) us = wipe σ us := by
 apply List.ext_getElem?
 intro j
 by_cases hj : j ∈ us
 ·by_cases hl : j < σ.length
  ·rw [zgl hj Ygg, zgl hj hl]
  ·rw [List.getElem?_eq_none Ydu, List.getElem?_eq_none Ydu]
 ·rw [wipe_get hj, wipe_get hj, List.getElem?_set_ne (fun e => hj (by rw [← e]; exact h))]
theorem zae {K : PySem.W.Frag} {ω : World} (i : Nat) : TgOk K ω (gName i) (gN i) [i] := ⟨fun s w v eta σ eta' R1 r S1 e => by
 simp only [gN, Option.some.injEq] at e
 subst e
 exact ⟨σ.set i (some v), S1.set i r, fun us h => wipe_set (h i Yaw), fun Q q => q⟩⟩
def gsN : List W → IS → Option IS := fun ws eta => match ws with | [] => some eta | _ :: _ => none
def gsC (G : W → IS → Option IS) (Gs : List W → IS → Option IS) : List W → IS → Option IS := fun ws eta => match ws with
 | [] => none
 | w :: ws => (G w eta).bind fun eta' => Gs ws eta'
def gT (n : Nat) (Gs : List W → IS → Option IS) : W → IS → Option IS := fun w eta => match w with
 | .t (.tup ts) => if ts.length = n then Gs Yw eta else none
 | .t (.pr ts) => if ts.length = n then Gs Yw eta else none
 | _ => none
theorem za7 {K : PySem.W.Frag} {ω : World} : TgsOk K ω gNil gsN [] := ⟨fun s ws xs eta σ eta' R1 r S1 e => by
 cases ws with
 | nil =>
  simp only [gsN, Option.some.injEq] at e
  subst e
  exact ⟨σ, S1, fun _ _ => rfl, fun Q q => ⟨r, q⟩⟩
 | cons _ _ => simp [gsN] at e⟩
theorem zag {K : PySem.W.Frag} {ω : World} {g : TG} {gs : TGs} {G : W → IS → Option IS} {Gs : List W → IS → Option IS} {vs us : List Nat} (h1 : TgOk K ω g G vs) (h2 : TgsOk K ω gs Gs us) : TgsOk K ω (gCons g gs) (gsC G Gs) (vs ++ us) := ⟨fun s ws xs eta σ eta' R1 r S1 e => by
 cases ws with
 | nil => simp [gsC] at e
 | cons w ws =>
  simp only [gsC, Option.bind_eq_some_iff] at e
  obtain ⟨eta1, e1, e2⟩ := e
  obtain ⟨v, xr, ex, rv, rr⟩ := r
  obtain ⟨σ1, S2, w1, q1⟩ := h1.run s w v eta σ eta1 R1 rv S1 e1
  obtain ⟨σ2, S3, w2, q2⟩ := h2.run s ws xr eta1 σ1 eta' R1 rr S2 e2
  refine ⟨σ2, S3, fun u hu => ?_, fun Q q => ⟨v, xr, ex, q1 _ (q2 Q q)⟩⟩
  rw [w2 u fun i hi => hu i (List.mem_append_right _ hi), w1 u fun i hi => hu i (List.mem_append_left _ hi)]⟩
theorem zc3 {K : PySem.W.Frag} {ω : World} {n : Nat} {gs : TGs} {Gs : List W → IS → Option IS} {vs : List Nat} (h : TgsOk K ω gs Gs vs) : TgOk K ω (gTup K n gs) (gT n Gs) vs := ⟨fun s w v eta σ eta' R1 r S1 e => by
 unfold gT at e
 split at e
 ·rename_i ts
  split at e
  ·rename_i hn
   obtain ⟨a, xs, ev, t, l⟩ : ∃ a vs, v = .ref a ∧ FTup K s.fz s.H a vs ∧ RfL K s.fz s.H ts vs := by simpa only [Rw, Rf] using r
   obtain ⟨σ', S2, w2, q2⟩ := h.run s Yw xs eta σ eta' R1 Yjq S1 e
   exact ⟨σ', S2, w2, fun Q q => ⟨a, xs, ev, t.sq, by rw [← RfL.length l]; exact hn, q2 Q q⟩⟩
  ·cases e
 ·rename_i ts
  split at e
  ·rename_i hn
   obtain ⟨a, xs, ev, t, l⟩ : ∃ a vs, v = .ref a ∧ FPr s.fz s.H a vs ∧ RfL K s.fz s.H ts vs := by simpa only [Rw, Rf] using r
   obtain ⟨σ', S2, w2, q2⟩ := h.run s Yw xs eta σ eta' R1 Yjq S1 e
   exact ⟨σ', S2, w2, fun Q q => ⟨a, xs, ev, t.sq, by rw [← RfL.length l]; exact hn, q2 Q q⟩⟩
  ·cases e
 ·cases e⟩
def mAsg (F : M W) (G : W → IS → Option IS) : M Fl := fun eta hp => (F eta hp).bind fun a h1 => match G a eta with | some e => .ok (.nx e) h1 | none => .bad
def mSet (i : Nat) (F : M W) : M Fl := fun eta hp => (F eta hp).bind fun a h1 => .ok (.nx Yf2) h1
section
variable {X : Cx} {Wx : WX} {e tg : Expr} {F : M W} {pos : Pos} {g : TG} {G : W → IS → Option IS} {vs : List Nat}
theorem zfc (he : IE X Wx e F) (hg : PG X tg g) (ok : TgOk X.K X.w g G vs) (hs : swapsWithSole [tg] e pos.line X.env = pure false := by rfl) (hw : swappedStores [tg] e X.env = pure none := by rfl)
  (h1 : (assignEach [tg] X.env).map (·.2) = [assign tg X.env] := by rfl) : ISt X Wx (.Assign [tg] e pos) (mAsg F G) := PS.imp (ps_asg he hg hs hw h1) fun D σ H h =>
 tM.bind1 (R := fun (x : V) (H1 : Hp) => g x σ H1 D.nx) (k := fun (a : W) eta hp => match G a eta with | some e => .ok (Fl.nx e) hp | none => .bad) h fun s eta a b R1 S1 f1 g1 => by
  cases hG : G a eta with
  | none => simp only [hG] at g1; exact g1.elim
  | some e1 =>
   simp only [hG] at g1
   obtain ⟨σ', S2, _, q⟩ := ok.run s a b eta σ e1 R1 f1 S1 hG
   exact q _ (Go.nx R1 S2 g1)
theorem zaz (i : Nat) {x : Str} {pos' : Pos} (hN : X.N.Nodup) (he : IE X Wx e F) (hi : X.N[i]? = some x := by rfl) (hx : Loc X.env.scope x := by first | exact Or.inl rfl | exact Or.inr rfl) (hs : swapsWith e (some (.Name x pos')) pos.line X.env = pure false := by rfl) (hf : X.fn x = true ∨ X.env.scope.names.lookup x = some .local := by first | exact .inl rfl | exact .inr rfl | assumption) :
  ISt X Wx (.Assign [.Name x pos'] e pos) (mSet i F) := PS.imp (ps_set hN hi hx he hs hf) fun D σ H h =>
 tM.bind1 (R := fun (y : V) (H1 : Hp) => D.nx (σ.set i (some y)) H1) (k := fun (a : W) eta hp => .ok (Fl.nx Yf2) hp) h fun s eta a b R1 S1 f1 g1 => Go.nx R1 (S1.set i f1) g1
end
/-- a, b = x, y: all sides first -/
def mPar (is : List Nat) (F : M (List W)) : M Fl := fun eta hp => (F eta hp).bind fun ws h1 => if ws.length = is.length then .ok Yky h1 else .bad
/-- x op= e -/
def mAug (i : Nat) (f : Op2) (F : M W) : M Fl := fun eta hp => match eta[i]? with
 | some (some x) => (F eta hp).bind fun y h1 => (f x y h1).bind fun z h2 => .ok (.nx (eta.set i (some z))) h2
 | _ => .bad
section
variable {X : Cx} {Wx : WX} {F : M W} {pos : Pos}
theorem st_aug (i : Nat) {x : Str} {e : Expr} {op : Operator} {r : R2} {f : Op2} {pos' : Pos} (hN : X.N.Nodup) (he : IE X Wx e F) (ho : OpR X (inplaceOp op) r) (hf2 : zdv X.K X.w Wx f r) (hi : X.N[i]? = some x := by rfl) (hx : Loc X.env.scope x := by first | exact Or.inl rfl | exact Or.inr rfl)
  (hf : X.fn x = true ∨ X.env.scope.names.lookup x = some .local := by first | exact .inl rfl | exact .inr rfl | assumption) : ISt X Wx (.AugAssign (.Name x pos') op e pos) (mAug i f F) := PS.imp (ps_aug hN hi hx he (ti := r) ho hf) fun D σ H h => by
 obtain ⟨s, eta, e1, R1, S1, g⟩ := h
 subst e1
 unfold mAug at g
 split at g
 ·rename_i w hw
  obtain ⟨v, h1, h2⟩ := S1.2 i w hw
  refine ⟨v, h1, s, eta, rfl, R1, S1, Go.bind g fun y yv s' A' R' f' _ g' => ?_⟩
  refine hf2 s' w y v yv _ R' (h2.aft A' R1) f' ?_
  exact Go.bind g' fun z zv s2 A2 R2 f2 _ g2 => Go.nx R2 (((S1.aft A' R1).aft A2 R').set i f2) g2
 ·exact g.elim
end
def SrcF (K : PySem.W.Frag) (ω : World) (s : S4) (ws : List W) (J : It) : Prop := ∀ s', Aft s s' → Rel K ω s' → ∀ i : Nat,
 (∀ w, ws[i]? = some w → J.go i s'.H ∧ ∀ x H', J.yld i s'.H x H' → ∃ s2 : S4, s2.H = H' ∧ s2.hp = s'.hp ∧ Aft s' s2 ∧ Rel K ω s2 ∧ Rw K s2 w x) ∧ (i = ws.length → J.stop i s'.H)
def II (X : Cx) (Wx : WX) (tg e : Expr) (F : M (List W)) : Prop := PI X tg e (tM X.K X.w Wx (SrcF X.K X.w) F)
def forL (G : W → IS → Option IS) (B : M Fl) : List W → IS → IH → Res Fl
 | [], eta, hp => .ok Yhm hp
 | w :: ws, eta, hp => match G w eta with
  | none => .bad
  | some eta1 => (B eta1 hp).bind fun f h2 => match f with
   | .nx e => forL G B ws e h2
   | .ct e => forL G B ws e h2
   | .bk e => .ok (.nx e) h2
   | .rt w => .ok (.rt w) h2
def mFor (Fi : M (List W)) (G : W → IS → Option IS) (B : M Fl) : M Fl := fun eta hp => (Fi eta hp).bind fun ws h1 => forL G B ws eta h1
section
variable {X : Cx} {Wx : WX} {tg iter : Expr} {Fi : M (List W)} {pos : Pos} {g : TG} {G : W → IS → Option IS} {vs : List Nat} {body : List Stmt} {B : M Fl}
theorem st_for (hp : PassesOwn Ym X.A X.env X.xe) (hc : X.calm = true) (hi : II X Wx tg iter Fi) (hg : PG X tg g) (ok : TgOk X.K X.w g G vs) (hb : ISs X Wx body B)
  (hs : ∀ x, foldedSetIterable iter X.env x = pure x := by intro _; rfl) : ISt X Wx (.For tg iter body [] pos) (mFor Fi G B) := PS.imp (ps_for hp hc hi hg hb hs) fun D σ H h =>
 tM.bind1 (R := fun (J : It) (H1 : Hp) => ∃ Wv : Nat → Nat → St → Hp → Prop, (∃ m, Wv 0 m σ H1) ∧ ∀ i m σ H, Wv i m σ H →
   (J.stop i H ∧ D.nx σ H) ∨ (J.go i H ∧ ∃ N : St → Hp → Prop, (∀ σ' H', N σ' H' → ∃ m', m' < m ∧ Wv (i + 1) m' σ' H') ∧ ∀ x H', J.yld i H x H' → g x σ H' fun σ2 H2 => tS X.K X.w Wx B { D with nx := N, ct := N, bk := D.nx } σ2 H2))
  (k := fun (ws : List W) eta hp => forL G B ws eta hp) h fun s eta ws J R1 S1 src g1 => by
  refine ⟨fun i m σ H => m = ws.length - i ∧ i ≤ ws.length ∧ ∃ s' eta', s'.H = H ∧ Aft s s' ∧ Rel X.K X.w s' ∧ Sl X.K s' eta' σ ∧ Go X.K X.w Wx (RFl X.K) s' (forL G B (ws.drop i) eta' s'.hp) (endQ D), ⟨ws.length, by simp, Nat.zero_le _, s, eta, rfl, Aft.refl s, R1, S1, by simpa using g1⟩, ?_⟩
  rintro i m σ H ⟨rfl, hi, s', eta', rfl, A1, R2, S2, g2⟩
  obtain ⟨q1, q2⟩ := src s' A1 R2 i
  by_cases hlt : i < ws.length
  ·obtain ⟨go, yl⟩ := q1 ws[i] (List.getElem?_eq_getElem hlt)
   refine .inr ⟨go, fun σ' H' => i + 1 ≤ ws.length ∧ ∃ s2 eta2, s2.H = H' ∧ Aft s s2 ∧ Rel X.K X.w s2 ∧ Sl X.K s2 eta2 σ' ∧ Go X.K X.w Wx (RFl X.K) s2 (forL G B Yeu eta2 s2.hp) (endQ D), fun σ' H' n => ⟨ws.length - (i + 1), by omega, rfl, n⟩, fun x H' y => ?_⟩
   obtain ⟨s3, e3, hp3, A3, R3, rw3⟩ := yl x H' y
   subst e3
   rw [List.drop_eq_getElem_cons hlt] at g2
   simp only [forL] at g2
   cases hG : G ws[i] eta' with
   | none => simp only [hG] at g2; exact g2.elim
   | some eta1 =>
    simp only [hG] at g2
    obtain ⟨σ4, S4', _, q4⟩ := ok.run s3 ws[i] x eta' σ eta1 R3 rw3 (S2.aft A3 R2) hG
    refine q4 _ ⟨s3, eta1, rfl, R3, S4', ?_⟩
    have g3 := Go.aft g2 A3
    rw [← hp3] at g3
    refine Go.bind g3 fun f fv s5 A5 R5 f5 _ g5 => ?_
    cases f <;> cases fv <;> first | exact f5.elim | skip
    ·exact ⟨hlt, s5, _, rfl, (A1.trans A3).trans A5, R5, f5, g5⟩
    ·exact Go.rt (D := D) R5 f5 g5
    ·exact Go.nx (D := D) R5 f5 g5
    ·exact ⟨hlt, s5, _, rfl, (A1.trans A3).trans A5, R5, f5, g5⟩
  ·have e : i = ws.length := by omega
   subst e
   refine .inl ⟨q2 rfl, ?_⟩
   rw [List.drop_length] at g2
   exact Go.nx R2 S2 g2
end
def whileL (T : M Bool) (B : M Fl) : Nat → IS → IH → Res Fl
 | 0, _, _ => .bad
 | n + 1, eta, hp => (T eta hp).bind fun b h1 => if b then (B eta h1).bind fun f h2 => match f with
   | .nx e => whileL T B n e h2
   | .ct e => whileL T B n e h2
   | .bk e => .ok (.nx e) h2
   | .rt w => .ok (.rt w) h2
  else .ok Yhm h1
def mWhile (n : Nat) (T : M Bool) (B : M Fl) : M Fl := fun eta hp => whileL T B n eta hp
section
variable {X : Cx} {Wx : WX} {c : Expr} {T : M Bool} {pos : Pos} {body : List Stmt} {B : M Fl}
theorem st_while (n : Nat) (hp : PassesOwn Ym X.A X.env X.xe) (hc : IT X Wx c T) (hb : ISs X Wx body B) : ISt X Wx (.While c body [] pos) (mWhile n T B) := PS.imp (ps_while hp hc hb) fun D σ H h => by
 obtain ⟨s, eta, e1, R1, S1, g⟩ := h
 refine ⟨fun m σ H => ∃ s' eta', s'.H = H ∧ Rel X.K X.w s' ∧ Sl X.K s' eta' σ ∧ Go X.K X.w Wx (RFl X.K) s' (whileL T B m eta' s'.hp) (endQ D), ⟨n, s, eta, e1, R1, S1, g⟩, ?_⟩
 rintro m σ H ⟨s', eta', rfl, R2, S2, g2⟩
 cases m with
 | zero => exact g2.elim
 | succ m =>
  simp only [whileL] at g2
  refine ⟨s', eta', rfl, R2, S2, Go.bind g2 fun b bv s3 A3 R3 f3 _ g3 => ?_⟩
  subst f3
  cases b with
  | false => exact Go.nx R3 (S2.aft A3 R2) g3
  | true =>
   simp only [if_true] at g3
   refine ⟨fun σ' H' => ∃ s' eta', s'.H = H' ∧ Rel X.K X.w s' ∧ Sl X.K s' eta' σ' ∧ Go X.K X.w Wx (RFl X.K) s' (whileL T B m eta' s'.hp) (endQ D), fun σ' H' n => ⟨m, Nat.lt_succ_self m, n⟩, ?_⟩
   refine ⟨s3, eta', rfl, R3, S2.aft A3 R2, Go.bind g3 fun f fv s5 A5 R5 f5 _ g5 => ?_⟩
   cases f <;> cases fv <;> first | exact f5.elim | skip
   ·exact ⟨s5, _, rfl, R5, f5, g5⟩
   ·exact Go.rt (D := D) R5 f5 g5
   ·exact Go.nx (D := D) R5 f5 g5
   ·exact ⟨s5, _, rfl, R5, f5, g5⟩
end
def W0 : WX := fun _ _ _ _ => False
def noEr {A : Type} (r : Res A) : Res A := match r with
 | .er _ _ _ => .bad
 | r => r
theorem zd2 {A B : Type} (r : Res A) (k : A → IH → Res B) : noEr (r.bind k) = (noEr r).bind fun a h => noEr (k a h) := by cases r <;> rfl
theorem Go.noEr {A B : Type} {K : PySem.W.Frag} {ω : World} {Wx Wx' : WX} {Fam : S4 → A → B → Prop} {s : S4} {r : Res A} {Q : B → Hp → Prop} (g : Go K ω Wx Fam s (noEr r) Q) : Go K ω Wx' Fam s r Q := by
 cases r with
 | ok a h => exact g
 | er e eta h => exact g.elim
 | bad => exact g
def turnL (G : W → IS → Option IS) (T : M Bool) (E : M W) (eta : IS) (w : W) (hp : IH) : Res (Option W) := match G w eta with
 | none => .bad
 | some eta1 => (T eta1 hp).bind fun b h1 => if b then (E eta1 h1).bind fun y h2 => .ok (some y) h2 else .ok none h1
def zb3 (G : W → IS → Option IS) (T : M Bool) (E : M W) (eta : IS) : List W → IH → Res (List W)
 | [], hp => .ok [] hp
 | w :: ws, hp => (noEr (turnL G T E eta w hp)).bind fun o h1 => (zb3 G T E eta ws h1).bind fun r h2 => .ok (match o with | some y => y :: r | none => r) h2
def zbp (eta : IS) (vs : List Nat) : IS := vs.foldr (fun v e => e.set v none) eta
/-- fin: zay (a tree), newL (a live list) -/
def zba (fin : OpN) (Fi : M (List W)) (G : W → IS → Option IS) (T : M Bool) (E : M W) (vs : List Nat) : M W := fun eta hp => (Fi eta hp).bind fun ws h1 => if ws.length ≤ 16777216 then (zb3 G T E (zbp eta vs) ws h1).bind fun r h2 => fin r h2 else .bad
/-- an untracked-by-us object is changed (a comprehension's list while it is made) -/
def S4.setD (s : S4) (D : Addr) (o : HO) : S4 := ⟨s.rho, s.fz, s.hp, upd s.H D o⟩
section
variable {K : PySem.W.Frag} {ω : World}
mutual
theorem Rf.congr {fz fz' : Addr → Prop} {H H' : Hp} (hf : ∀ a, fz a → fz' a) (k : ∀ a, fz a → H' a = H a) : ∀ (x : T) (v : V), Rf K fz H x v → Rf K fz' H' x v
 | .non, _, h => by simpa [Rf] using h
 | .bl _, _, h => by simpa [Rf] using h
 | .int _, _, h => by simpa [Rf] using h
 | .str _, _, h => by simpa [Rf] using h
 | .ty _, _, h => by simpa [Rf] using h
 | .cls _, _, h => by simpa [Rf] using h
 | .exc _ _ _, _, h => by simp [Rf] at h
 | .tup xs, v, h => by
  simp only [Rf] at h ⊢
  obtain ⟨a, vs, e, t, l⟩ := h
  refine ⟨a, vs, e, ?_, RfL.congr hf k xs vs l⟩
  rcases t with ⟨f, o, t, d⟩ | t
  ·exact .inl ⟨hf a f, o, (k a f).trans t, d⟩
  ·exact .inr t
 | .pr xs, v, h => by
  simp only [Rf] at h ⊢
  obtain ⟨a, vs, e, t, l⟩ := h
  exact ⟨a, vs, e, ⟨hf a t.1, (k a t.1).trans t.2⟩, RfL.congr hf k xs vs l⟩
 | .dit ks xs, v, h => by
  simp only [Rf] at h ⊢
  obtain ⟨a, vs, e, t, n, l⟩ := h
  exact ⟨a, vs, e, ⟨hf a t.1, (k a t.1).trans t.2⟩, n, RfL.congr hf k xs vs l⟩
 | .lst xs, v, h => by
  simp only [Rf] at h ⊢
  obtain ⟨a, vs, e, t, l⟩ := h
  exact ⟨a, vs, e, ⟨hf a t.1, (k a t.1).trans t.2⟩, RfL.congr hf k xs vs l⟩
 | .scr xs, v, h => by
  simp only [Rf] at h ⊢
  obtain ⟨a, vs, e, t, l⟩ := h
  exact ⟨a, vs, e, t.imp (fun t => ⟨hf a t.1, let ⟨o, u⟩ := t.2; ⟨o, (k a t.1).trans u⟩⟩) id, RfL.congr hf k xs vs l⟩
 | .dic ks xs, v, h => by
  simp only [Rf] at h ⊢
  obtain ⟨a, vs, e, t, n, l⟩ := h
  exact ⟨a, vs, e, ⟨hf a t.1, let ⟨o, u⟩ := t.2; ⟨o, (k a t.1).trans u⟩⟩, n, RfL.congr hf k xs vs l⟩
 | .ins c ns xs, v, h => by
  simp only [Rf] at h ⊢
  obtain ⟨a, C, vs, e, cn, t, n, l⟩ := h
  exact ⟨a, C, vs, e, cn, ⟨hf a t.1, let ⟨o, u⟩ := t.2; ⟨o, (k a t.1).trans u⟩⟩, n, RfL.congr hf k xs vs l⟩
theorem RfL.congr {fz fz' : Addr → Prop} {H H' : Hp} (hf : ∀ a, fz a → fz' a) (k : ∀ a, fz a → H' a = H a) : ∀ (xs : List T) (vs : List V), RfL K fz H xs vs → RfL K fz' H' xs vs
 | [], _, h => by simpa [RfL] using h
 | x :: xs, vs, h => by
  simp only [RfL] at h ⊢
  obtain ⟨v, r, e, a, b⟩ := h
  exact ⟨v, r, e, Rf.congr hf k x v a, RfL.congr hf k xs r b⟩
end
theorem Rw.congr {s s' : S4} (hr : s'.rho = s.rho) (hf : ∀ a, s.fz a → s'.fz a) (k : ∀ a, s.fz a → s'.H a = s.H a) {w : W} {v : V} (h : Rw K s w v) : Rw K s' w v := by
 cases w with
 | t x => exact Rf.congr hf k x v h
 | r i => obtain ⟨a, e1, e2⟩ := h; exact ⟨a, by rw [hr]; exact e1, e2⟩
theorem RwL.congr {s s' : S4} (hr : s'.rho = s.rho) (hf : ∀ a, s.fz a → s'.fz a) (k : ∀ a, s.fz a → s'.H a = s.H a) : ∀ {ws : List W} {vs : List V}, RwL K s ws vs → RwL K s' ws vs
 | [], _, h => h
 | x :: xs, vs, h => by
  obtain ⟨v, r, e, a, b⟩ := h
  exact ⟨v, r, e, a.congr hr hf k, RwL.congr hr hf k b⟩
theorem RwK.congr {s s' : S4} (hr : s'.rho = s.rho) (hf : ∀ a, s.fz a → s'.fz a) (k : ∀ a, s.fz a → s'.H a = s.H a) : ∀ {ws : List (Key × W)} {vs : List (Key × V)}, RwK K s ws vs → RwK K s' ws vs
 | [], _, h => h
 | x :: xs, vs, h => by
  obtain ⟨v, r, e, a, b⟩ := h
  exact ⟨v, r, e, a.congr hr hf k, RwK.congr hr hf k b⟩
theorem RwF.congr {s s' : S4} (hr : s'.rho = s.rho) (hf : ∀ a, s.fz a → s'.fz a) (k : ∀ a, s.fz a → s'.H a = s.H a) : ∀ {ws : List (Str × W)} {vs : List (Str × V)}, RwF K s ws vs → RwF K s' ws vs
 | [], _, h => h
 | x :: xs, vs, h => by
  obtain ⟨v, r, e, a, b⟩ := h
  exact ⟨v, r, e, a.congr hr hf k, RwF.congr hr hf k b⟩
theorem RwD.congr {s s' : S4} (hr : s'.rho = s.rho) (hf : ∀ a, s.fz a → s'.fz a) (k : ∀ a, s.fz a → s'.H a = s.H a) : ∀ {ws : List (T × W)} {vs : List (NestedKey × Addr × V)}, RwD K s ws vs → RwD K s' ws vs
 | [], _, h => h
 | x :: xs, vs, h => by
  obtain ⟨q, b, v, r, e, h1, h2, h3, h4, h5⟩ := h
  exact ⟨q, b, v, r, e, h1, h2, Rf.congr hf k _ _ h3, h4.congr hr hf k, RwD.congr hr hf k h5⟩
theorem CellOk.congr {s s' : S4} (hr : s'.rho = s.rho) (hf : ∀ a, s.fz a → s'.fz a) (k : ∀ a, s.fz a → s'.H a = s.H a) {a : Addr} {c : Cell} {o : Option HO} (h : CellOk K ω s a c o) : CellOk K ω s' a c o := by
 cases c with
 | lst ws => obtain ⟨vs, e, l⟩ := h; exact ⟨vs, e, l.congr hr hf k⟩
 | dic kvs => obtain ⟨vs, e, l⟩ := h; exact ⟨vs, e, l.congr hr hf k⟩
 | ins c fs => obtain ⟨C, dx, vs, e, cn, l⟩ := h; exact ⟨C, dx, vs, e, cn, l.congr hr hf k⟩
 | dit kvs => obtain ⟨vs, e, l⟩ := h; exact ⟨vs, e, l.congr hr hf k⟩
 | tpl ws => obtain ⟨ob, vs, e, d, l⟩ := h; exact ⟨ob, vs, e, d, l.congr hr hf k⟩
 | dil kvs => obtain ⟨ob, vs, e, l⟩ := h; exact ⟨ob, vs, e, l.congr hr hf k⟩
variable {s s' : S4} {D : Addr} {o : HO}
theorem setD_k (nf : ¬ s.fz D) : ∀ a, s.fz a → (s.setD D o).H a = s.H a := fun a f => upd_ne fun z => nf (z ▸ f)
theorem zfh (R : Rel K ω s) (nr : D ∉ s.rho) (nf : ¬ s.fz D) : Rel K ω (s.setD D o) := by
 have tr : ∀ a, s.H a ≠ none → (s.setD D o).H a ≠ none := fun a h => by
  show upd s.H D o a ≠ none
  by_cases q : a = D
  ·rw [q, upd_same]; intro z; cases z
  ·rw [upd_ne q]; exact h
 refine ⟨R.len, R.nd, fun a m => tr a (R.trk a m), fun a f => tr a (R.ftrk a f), R.fz, fun i c a e1 e2 => ?_⟩
 have ne : a ≠ D := fun z => nr (z ▸ List.mem_of_getElem? e2)
 show CellOk K ω (s.setD D o) a c (upd s.H D o a)
 rw [upd_ne ne]
 exact CellOk.congr (s := s) (s' := s.setD D o) rfl Yjx (setD_k nf) (R.cell i c a e1 e2)
/-- what is known of D stays behind a run -/
theorem Aft.away (A : Aft s s') (h : s.H D = some o) (nr : D ∉ s.rho) (nf : ¬ s.fz D) : s'.H D = some o ∧ D ∉ s'.rho ∧ ¬ s'.fz D := by
 have nl : ¬ Live s D := fun ⟨i, c, _, e⟩ => nr (List.mem_of_getElem? e)
 refine ⟨A.keep D o h nl, fun m => ?_, fun f => ?_⟩
 ·obtain ⟨ex, e, n⟩ := A.pre
  rw [e] at m
  rcases List.mem_append.mp m with m | m
  ·exact nr m
  ·rw [n D m] at h; cases h
 ·rcases A.fnew D f with f | f | f
  ·exact nf f
  ·rw [f] at h; cases h
  ·exact nl f
theorem Aft.setD {s0 : S4} (A : Aft s0 s) (h0 : s0.H D = none) {o' : HO} : Aft s0 (s.setD D o') := by
 refine ⟨A.pre, A.fz, fun a u e nl => ?_, A.fnew, A.live, fun a h => ?_⟩
 ·show upd s.H D o' a = some u
  rw [upd_ne (ne_of_none e h0)]; exact A.keep a u e nl
 ·show upd s.H D o' a ≠ none
  by_cases q : a = D
  ·rw [q, upd_same]; intro z; cases z
  ·rw [upd_ne q]; exact A.trk a h
theorem Go.bind0 {Wx : WX} {A B C E : Type} {Fam : S4 → A → B → Prop} {Gam : S4 → C → E → Prop} {s0 s : S4} {r : Res A} {k : A → IH → Res C} {Q : E → Hp → Prop} {R : B → Hp → Prop} (g : Go K ω Wx Gam s0 (r.bind k) Q) (A0 : Aft s0 s)
  (h : ∀ a b s', Aft s s' → Rel K ω s' → Fam s' a b → Go K ω Wx Gam s0 (k a s'.hp) Q → R b s'.H) : Go K ω Wx Fam s r R := by
 cases r with
 | ok x hp =>
  intro b s2 h1 h2 h3 h4
  subst h1
  exact h x b s2 h2 h3 h4 g
 | er e eta hp => exact Go.aft (Fam := Fam) (r := .er e eta hp) (Q := R) (show Go K ω Wx Fam s0 (.er e eta hp) R from g) A0
 | bad => exact g
end
/-- what the end of a comprehension asks: the list at D is handed on -/
def FinOk (K : PySem.W.Frag) (ω : World) (Wx : WX) (fin : OpN) : Prop := ∀ (s0 s : S4) (ws : List W) (vs : List V) (D : Addr) (Q : VK), Aft s0 s → Rel K ω s → s0.H D = none → D ∉ s.rho → ¬ s.fz D → s.H D = some Yjw → RwL K s ws vs → Go K ω Wx (Rw K) s0 (fin ws s.hp) Q →
 Q (.ref D) s.H
theorem zas {K : PySem.W.Frag} {ω : World} {Wx : WX} : FinOk K ω Wx zay := by
 intro s0 s ws vs D Q A R h0 nr nf hD l g
 unfold zay at g
 split at g
 ·rename_i ts ht
  split at g
  ·rename_i hz
   rw [zcw ht] at l
   have R2 : Rel K ω ⟨s.rho, fun a => s.fz a ∨ a = D, s.hp, s.H⟩ := by
    refine ⟨R.len, R.nd, R.trk, fun a f => ?_, fun a l f => ?_, fun i c a e1 e2 => CellOk.congr (s := s) (s' := ⟨s.rho, fun a => s.fz a ∨ a = D, s.hp, s.H⟩) rfl (fun _ f => Or.inl f) Yau (R.cell i c a e1 e2)⟩
    ·rcases f with f | f
     ·exact R.ftrk a f
     ·rw [f, hD]; intro z; cases z
    ·rcases f with f | f
     ·exact R.fz a l f
     ·obtain ⟨i, c, _, e⟩ := l
      exact nr (f ▸ List.mem_of_getElem? e)
   refine g (.ref D) ⟨s.rho, fun a => s.fz a ∨ a = D, s.hp, s.H⟩ rfl ⟨A.pre, fun a f => .inl (A.fz a f), A.keep, fun a f => ?_, A.live, A.trk⟩ R2 ?_
   ·rcases f with f | f
    ·exact A.fnew a f
    ·exact .inr (.inl (by rw [f]; exact h0))
   ·simp only [Rw, Rf]
    exact ⟨D, vs, rfl, ⟨.inr rfl, hD⟩, RfL.congr (fun _ f => .inl f) Yau _ _ Ygh⟩
  ·exact g.elim
 ·exact g.elim
theorem fin_live {K : PySem.W.Frag} {ω : World} {Wx : WX} : FinOk K ω Wx newL := by
 intro s0 s ws vs D Q A R h0 nr nf hD l g
 unfold newL at g
 split at g
 ·rename_i hz
  have lv : ∀ {a : Addr}, Live ⟨s.rho ++ [D], s.fz, s.hp ++ [some Yhl], s.H⟩ a → Live s a ∨ a = D := fun {a} l => by
   have l' : Live (s.addL D Yhl Yjw) a := l
   exact live_addL R l'
  have cg : ∀ {a : Addr} {c : Cell} {o : Option HO}, CellOk K ω s a c o → CellOk K ω ⟨s.rho ++ [D], s.fz, s.hp ++ [some Yhl], s.H⟩ a c o := fun {a c o} h => by
   have rwl : ∀ {w : W} {v : V}, Rw K s w v → Rw K ⟨s.rho ++ [D], s.fz, s.hp ++ [some Yhl], s.H⟩ w v := fun {w v} h => by
    cases w with
    | t x => exact h
    | r i => obtain ⟨a, e1, e2⟩ := h; exact ⟨a, by show (s.rho ++ [D])[i]? = some a; rw [List.getElem?_append_left (List.getElem?_eq_some_iff.mp e1).1]; exact e1, e2⟩
   have rl : ∀ {ws' : List W} {vs' : List V}, RwL K s ws' vs' → RwL K ⟨s.rho ++ [D], s.fz, s.hp ++ [some Yhl], s.H⟩ ws' vs' := by
    intro ws'
    induction ws' with
    | nil => intro vs' h; exact h
    | cons x xs ih => intro vs' h; obtain ⟨v, r, e, a, b⟩ := h; exact ⟨v, r, e, rwl a, ih b⟩
   have rk : ∀ {ws' : List (Key × W)} {vs' : List (Key × V)}, RwK K s ws' vs' → RwK K ⟨s.rho ++ [D], s.fz, s.hp ++ [some Yhl], s.H⟩ ws' vs' := by
    intro ws'
    induction ws' with
    | nil => intro vs' h; exact h
    | cons x xs ih => intro vs' h; obtain ⟨v, r, e, a, b⟩ := h; exact ⟨v, r, e, rwl a, ih b⟩
   have rf : ∀ {ws' : List (Str × W)} {vs' : List (Str × V)}, RwF K s ws' vs' → RwF K ⟨s.rho ++ [D], s.fz, s.hp ++ [some Yhl], s.H⟩ ws' vs' := by
    intro ws'
    induction ws' with
    | nil => intro vs' h; exact h
    | cons x xs ih => intro vs' h; obtain ⟨v, r, e, a, b⟩ := h; exact ⟨v, r, e, rwl a, ih b⟩
   have rd : ∀ {ws' : List (T × W)} {vs' : List (NestedKey × Addr × V)}, RwD K s ws' vs' → RwD K ⟨s.rho ++ [D], s.fz, s.hp ++ [some Yhl], s.H⟩ ws' vs' := by
    intro ws'
    induction ws' with
    | nil => intro vs' h; exact h
    | cons x xs ih => intro vs' h; obtain ⟨q, b, v, r, e, h1, h2, h3, h4, h5⟩ := h; exact ⟨q, b, v, r, e, h1, h2, h3, rwl h4, ih h5⟩
   cases c with
   | lst ws => obtain ⟨vs, e, l⟩ := h; exact ⟨vs, e, rl l⟩
   | dic kvs => obtain ⟨vs, e, l⟩ := h; exact ⟨vs, e, rk l⟩
   | ins c fs => obtain ⟨C, dx, vs, e, cn, l⟩ := h; exact ⟨C, dx, vs, e, cn, rf l⟩
   | dit kvs => obtain ⟨vs, e, l⟩ := h; exact ⟨vs, e, rd l⟩
   | tpl ws => obtain ⟨ob, vs, e, d, l⟩ := h; exact ⟨ob, vs, e, d, rl l⟩
   | dil kvs => obtain ⟨ob, vs, e, l⟩ := h; exact ⟨ob, vs, e, rd l⟩
  have ok := cg (a := D) (c := .lst ws) (o := some Yjw) ⟨vs, rfl, l⟩
  refine g (.ref D) ⟨s.rho ++ [D], s.fz, s.hp ++ [some Yhl], s.H⟩ rfl ⟨?_, A.fz, A.keep, A.fnew, fun a l => ?_, A.trk⟩ ⟨by simp [R.len], ?_, fun a m => ?_, R.ftrk, fun a l f => ?_, fun i c a e1 e2 => ?_⟩ ?_
  ·obtain ⟨ex, e, n⟩ := A.pre
   refine ⟨ex ++ [D], by rw [e, List.append_assoc], fun a m => ?_⟩
   rcases List.mem_append.mp m with m | m
   ·exact n a m
   ·simp at m; rw [m]; exact h0
  ·rcases lv l with l | l
   ·exact A.live a l
   ·exact .inr (by rw [l]; exact h0)
  ·refine List.nodup_append.mpr ⟨R.nd, by simp, fun a m b hb => ?_⟩
   simp at hb
   rintro rfl
   exact nr (hb ▸ m)
  ·rcases List.mem_append.mp m with m | m
   ·exact R.trk a m
   ·simp at m; rw [m, hD]; intro z; cases z
  ·rcases lv l with l | l
   ·exact R.fz a l f
   ·exact nf (l ▸ f)
  ·by_cases hi : i < s.hp.length
   ·rw [List.getElem?_append_left hi] at e1
    rw [List.getElem?_append_left (by rw [R.len]; exact hi)] at e2
    exact cg (R.cell i c a e1 e2)
   ·have h0 : i = s.hp.length := by
     have := (List.getElem?_eq_some_iff.mp e1).1
     simp at this
     omega
    subst h0
    simp at e1
    rw [List.getElem?_append_right Ygc, R.len] at e2
    simp at e2
    subst e1 e2
    show CellOk K ω _ _ _ (s.H D)
    rw [hD]
    exact ok
  ·exact ⟨D, by show (s.rho ++ [D])[s.hp.length]? = some D; rw [List.getElem?_append_right Ygc, R.len]; simp, rfl⟩
 ·exact g.elim
section
variable {X : Cx} {Wx : WX} {elt tg iter : Expr} {Fi : M (List W)} {pos : Pos} {g : TG} {G : W → IS → Option IS} {vs : List Nat} {T : M Bool} {E : M W} {fin : OpN} {own : List Yh2}
theorem t_comp (us : List Nat) (ok : TgOk X.K X.w g G vs) (hv : ∀ i ∈ vs, i ∈ us) (hf : FinOk X.K X.w Wx fin) : ∀ σ H Q, tE X.K X.w Wx (zba fin Fi G T E us) σ H Q →
  tLc Yg5 g (tT X.K X.w W0 T) (tE X.K X.w W0 E) us σ H Q := fun σ H Q h =>
 tM.bind1 (R := fun (J : It) (H1 : Hp) => ∀ D, H1 D = none → ∃ Wv : Nat → Nat → Hp → Prop, (∃ m, Wv 0 m (upd H1 D Yho)) ∧ ∀ i m H, Wv i m H →
   (J.stop i H ∧ Q (.ref D) H) ∨ (J.go i H ∧ ∃ Nx : Hp → Prop, (∀ H', Nx H' → ∃ m', m' < m ∧ Wv (i + 1) m' H') ∧ ∀ x H', J.yld i H x H' → g x Ye8 H' fun σ2 H2 => wipe σ2 us = wipe σ us ∧ tT X.K X.w W0 T σ2 H2 fun b H3 =>
    if b = true then tE X.K X.w W0 E σ2 H3 fun y H4 => ∃ acc, H4 D = some (.lst acc) ∧ acc.length < sizeLine ∧ Nx (upd H4 D (.lst (acc ++ [y]))) else Nx H3))
  (k := fun (ws : List W) eta hp => if ws.length ≤ 16777216 then (zb3 G T E Ya6 ws hp).bind fun r h2 => fin r h2 else .bad) h fun s0 eta ws J R0 S0 src g0 D hD => by
  split at g0
  ·rename_i hz
   have hz' : ws.length ≤ sizeLine := by rw [sizeLine_eq]; exact hz
   have hw : Sl X.K s0 Ya6 Ye8 := S0.wipe us
   refine ⟨fun i m H => m = ws.length - i ∧ i ≤ ws.length ∧ ∃ (s : S4) (acc : List W) (xs : List V), s.H = H ∧ Aft s0 s ∧ Rel X.K X.w s ∧ D ∉ s.rho ∧ ¬ s.fz D ∧ s.H D = some Yib ∧ RwL X.K s acc xs ∧ acc.length ≤ i ∧
     Go X.K X.w Wx (Rw X.K) s0 ((zb3 G T E Ya6 (ws.drop i) s.hp).bind fun r h => fin (acc ++ r) h) Q, ⟨ws.length, by simp, Nat.zero_le _, s0.setD D Yho, [], [], rfl, (Aft.refl s0).setD hD, zfh R0 (R0.fresh hD).1 (R0.fresh hD).2, (R0.fresh hD).1, (R0.fresh hD).2, upd_same, rfl, Nat.le_refl _, g0⟩, ?_⟩
   rintro i m H ⟨rfl, hi, s, acc, xs, rfl, A1, R1, nr, nf, hDx, l1, hl1, g1⟩
   obtain ⟨q1, q2⟩ := src s A1 R1 i
   by_cases hlt : i < ws.length
   ·obtain ⟨go, yl⟩ := q1 ws[i] (List.getElem?_eq_getElem hlt)
    refine .inr ⟨go, fun H' => i + 1 ≤ ws.length ∧ ∃ (s : S4) (acc : List W) (xs : List V), s.H = H' ∧ Aft s0 s ∧ Rel X.K X.w s ∧ D ∉ s.rho ∧ ¬ s.fz D ∧ s.H D = some Yib ∧ RwL X.K s acc xs ∧ acc.length ≤ i + 1 ∧
     Go X.K X.w Wx (Rw X.K) s0 ((zb3 G T E Ya6 Yeu s.hp).bind fun r h => fin (acc ++ r) h) Q, fun H' n => ⟨ws.length - (i + 1), by omega, rfl, n⟩, fun x H' y => ?_⟩
    obtain ⟨s3, e3, hp3, A3, R3, rw3⟩ := yl x H' y
    subst e3
    obtain ⟨hD3, nr3, nf3⟩ := A3.away hDx nr nf
    have l3 := RwL.aft A3 R1 _ _ l1
    have A03 := A1.trans A3
    rw [List.drop_eq_getElem_cons hlt] at g1
    rw [← hp3] at g1
    simp only [zb3, Res.bind_assoc, turnL] at g1
    cases hG : G ws[i] (zbp eta us) with
    | none => simp only [hG, noEr] at g1; exact g1.elim
    | some eta1 =>
     simp only [hG, zd2, Res.bind_assoc] at g1
     obtain ⟨σ2, S2, w2, q4⟩ := ok.run s3 ws[i] x Ya6 Ye8 eta1 R3 rw3 ((hw.aft A03 R0)) hG
     have wi : wipe Ye8 us = wipe σ us := by
      apply List.ext_getElem?
      intro j
      by_cases hj : j ∈ us
      ·by_cases hl : j < σ.length
       ·rw [zgl hj Yhn, zgl hj hl]
       ·rw [List.getElem?_eq_none Ygr, List.getElem?_eq_none Ydu]
      ·rw [wipe_get hj]
     refine q4 _ ⟨(w2 us hv).trans wi, s3, eta1, rfl, R3, S2, Go.noEr (Go.bind0 g1 A03 fun b bv s4 A4 R4 f4 g4 => ?_)⟩
     subst f4
     obtain ⟨hD4, nr4, nf4⟩ := A4.away hD3 nr3 nf3
     have l4 := RwL.aft A4 R3 _ _ l3
     have A04 := A03.trans A4
     cases b with
     | false =>
      simp only [Bool.false_eq_true, if_false, noEr, Res.bind] at g4
      rw [if_neg Bool.false_ne_true]
      exact ⟨hlt, s4, acc, xs, rfl, A04, R4, nr4, nf4, hD4, l4, by omega, g4⟩
     | true =>
      simp only [if_true, zd2, Res.bind_assoc] at g4
      rw [if_pos rfl]
      refine ⟨s4, eta1, rfl, R4, S2.aft A4 R3, Go.noEr (Go.bind0 g4 A04 fun yw yv s5 A5 R5 f5 g5 => ?_)⟩
      obtain ⟨hD5, nr5, nf5⟩ := A5.away hD4 nr4 nf4
      have l5 := RwL.aft A5 R4 _ _ l4
      have A05 := A04.trans A5
      refine ⟨xs, hD5, by rw [← RwL.length l5]; omega, hlt, s5.setD D (.lst (xs ++ [yv])), acc ++ [yw], xs ++ [yv], rfl, A05.setD hD, zfh R5 nr5 nf5, nr5, nf5, upd_same, ?_, by simp; omega, ?_⟩
      ·exact RwL.append (RwL.congr (s := s5) (s' := s5.setD D _) rfl Yjx (setD_k nf5) l5) ⟨yv, [], rfl, Rw.congr (s := s5) (s' := s5.setD D _) rfl Yjx (setD_k nf5) f5, rfl⟩
      ·simp only [noEr, Res.bind] at g5
       have e : ∀ (r : Res (List W)), (r.bind fun r h2 => (Res.ok (yw :: r) h2).bind fun r h => fin (acc ++ r) h) = (r.bind fun r h => fin ((acc ++ [yw]) ++ r) h) := fun r => by cases r <;> simp [Res.bind]
       have e2 := e (zb3 G T E Ya6 Yeu s5.hp)
       exact e2 ▸ g5
   ·have e : i = ws.length := by omega
    subst e
    refine .inl ⟨q2 rfl, ?_⟩
    rw [List.drop_length] at g1
    simp only [zb3, Res.bind, List.append_nil] at g1
    exact hf s0 s acc xs D Q A1 R1 hD nr nf hDx l1 g1
  ·exact g0.elim
end
end Mir
namespace Mir
open PySem PySem.Spec L2
open PyProof.Rows hiding St
structure FnG (P : Program) (w : World) (K : PySem.W.Frag) (mg : Str → Option Value) (base : Heap) (CX : CXT) (k : Nat) (f : Addr) (fd : FuncData) (ps : List Str) (sp : Sp) : Prop where
 len : ∀ vs H Q E, sp vs H Q E → vs.length = ps.length
 run : ∀ (A : Around) (outer : List Env) (s : Shared) (H : Hp) (args : Args) (us : List Value) (vs : List V) (Q : VK) (E : XK), Room k A → A.guards = some [] → Env0 P w K mg base A outer s H → BindsTo s fd args (ps.zip us) → Vals vs us →
  sp vs H Q E → codeAny Yd9 A (.call (.ref f) args) (CR CX outer P w H s Q E) s
section
variable {P : Program} {w : World} {K : PySem.W.Frag} {mg : Str → Option Value} {base : Heap} {CX : CXT} {f : Addr} {fd : FuncData} {ps : List Str} {sp : Sp}
theorem FnG.mono {j k : Nat} (F : FnG P w K mg base CX j f fd ps sp) (h : j ≤ k) : FnG P w K mg base CX k f fd ps sp :=
 ⟨F.len, fun A outer s H args us vs Q E hr hg => F.run A outer s H args us vs Q E (hr.mono h) hg⟩
/-- a def by its body -/
theorem Fun.okG {k : Nat} {x qual : Str} {st : Stmt} {N : List Str} {dvs : List V} {kws : List Ygz} (F : FunD K x qual (defArgs st) Ykk Ycg dvs kws f fd) (S : FnScope N ps Ycg) (len : ∀ vs H Q E, sp vs H Q E → vs.length = ps.length)
  (hb : ∀ (cdv : Value) (A : Around) (outer : List Env) (s : Shared) (H : Hp) (vs : List V) (Q : VK) (E : XK), Room k Ybz → A.guards = some [] → sp vs H Q E →
   ∃ t, PSs Yf3 Ykk t ∧ t { nx := fun _ H' => Q .non H', rt := Q } (L2.start N vs) H) : FnG P w K mg base CX (k + 1) f fd ps sp := by
 obtain ⟨oc, od, dV, kV, doc, pm, an, cdv, ct, osl, rfl, lk, hcd, _, _⟩ := F.ex
 refine ⟨len, fun A outer s H args us vs Q E hr hgd e0 hbd r hsp => ?_⟩
 have hl := len _ _ _ _ hsp
 have keep : ∀ b o, base.get? b = some o → s.heap.get? b = some o := fun b o e => (e0.bs b o e).1
 have KX : K.In s.heap := e0.mod.kin.keeps keep
 have bound : ∀ y ∈ ps.zip us, (defScope st).names.lookup y.1 = some .local ∨ ((defScope st).names.lookup y.1 = some .cell ∧ ((cellsFrom Ybh (defScope st).names []).lookup y.1).isSome = true) := by
  rintro ⟨n, v⟩ hy
  refine (S.par n (List.of_mem_zip hy).1).imp id fun q => ⟨q, ?_⟩
  exact PySem.W.cellsFrom_some _ _ _ (.inl q)
 refine codeAny_call_function hr.depth (KX _ _ lk) rfl S.co S.gen rfl (PySem.W.codeRec_of KX hcd) (hbd _ _ _ _ ?_)
 refine wpAny_newFunctionEnv_cells S.kind bound ?_
 rintro env rfl s1 x
 refine ⟨(e0.mod.nolimit.keeps keep).keeps x.toInCall.keep, codeAny_func ?_⟩
 obtain ⟨t, ht, hq⟩ := hb cdv A outer s H vs Q E (hr.deeper _) hgd hsp
 have I := inv_start (CX := CX) (N := N) (E := E) S hr.hd e0 hl r x
 refine wpAny_mono (ht.run [] s1 (L2.start N vs) H _ I hq) ?_ fun e s' hs => hs
 have fin : ∀ {s' : Shared} {σ' : L2.St} {H' : Hp} {v : V} {u : Value}, Inv Yf3 [] σ' H' s' → RelV v u → Q v H' → CE outer P w H s Q u s' :=
  fun {s' σ' H' v u} J rv q => ⟨v, H', J.os, J.bare, J.base, J.hok, rv, q⟩
 intro fl s' hs
 cases fl with
 | ret u => obtain ⟨v, σ', H', J, rv, q⟩ := hs; exact fin J rv q
 | next => obtain ⟨σ', H', J, q⟩ := hs; exact fin (v := V.non) (u := Value.none) J rfl q
 | brk => obtain ⟨_, _, _, q⟩ := hs; exact q.elim
 | cont => obtain ⟨_, _, _, q⟩ := hs; exact q.elim
end
section
variable {X : Cx} {CX : CXT} {k : Nat} {f C : Addr} {fd : FuncData} {ps : List Str} {sp : Sp} {dvs : List V} {ds : List Value} {E : XK} {x m : Str} {p pos apos : Pos} {e o : Expr} {es : List Expr} {ta : TE} {t : TA}
theorem runG {pins : List Ya9} {σ : L2.St} {H : Hp} {s : Shared} {Q : VK} {us : List Value} {vs : List V} (F : FnG X.prog X.w X.K X.mg X.base CX k f fd ps sp) (hr : Room k X.A) (hgd : X.A.guards = some []) (hb : Binds X.K fd ps ds) (hd : Vals dvs ds) (hx : Passes CX X E)
  (I : Inv X pins σ H s) (r : Vals vs us) (h : sp (vs ++ dvs) H Q E) : wpAny Ym X.A (call (.ref f) us) (EP X pins σ Q) X.xe s := by
 have r2 := r.append hd
 have hl : (us ++ ds).length = ps.length := r2.length.symm.trans (F.len _ _ _ _ h)
 refine wpAny_call (codeAny_mono (F.run X.A X.stack s H ⟨us, []⟩ (us ++ ds) (vs ++ dvs) Q E hr hgd I.env0 (hb s us I.kIn hl) r2 h) ?_)
 rintro (e | fl) s' hq
 ·exact hx pins σ H s e s' I hq
 ·cases fl <;> first | exact I.after hq | exact (show False from hq).elim
theorem pe_callG (F : FnG X.prog X.w X.K X.mg X.base CX k f fd ps sp) (hr : Room k X.A) (hgd : X.A.guards = some []) (hg : Gl X x) (hm : X.mg x = some (.ref f)) (hk : PySem.W.keepIn X.K (.ref f) = true) (hb : Binds X.K fd ps ds) (hd : Vals dvs ds) (hx : Passes CX X E)
  (ha : PA X Yam t) (hdb : (x == ("__debug__" : Str)) = false := by decide) (he : starEach Yam X.env = (false, eval e X.env) :: starEach es X.env := by rfl) (hpl : (backTo pos Ybi).any (·.1) = false := by rfl) :
  PE X Yc2 (tCall sp dvs E t) := ⟨fun pins s σ H Q I h => by
 refine wpAny_Call_Name_kw (ld_glob I hg hm ?_ hdb)
 refine PySem.W.callWith_K (h₀ := X.base) I.ok.mod.kin hk (thn Yh1 ?_) he hpl
 rintro us s1 ⟨vs, H1, I1, r, q⟩
 exact ⟨I1.kIn, runG F hr hgd hb hd hx I1 r q⟩⟩
end
theorem law_callG {P : Program} {w : World} {K : PySem.W.Frag} {mg mb : Str → Option Value} {CX : CXT} {k : Nat} {fa a : Addr} {fd : FuncData} {x : Str} {sp : Sp} {s1 : Shared} {us : List Value} {ns : List Int}
  (KX : K.In s1.heap) (hns : s1.heap.Ns mainGlobals mg) (hb : s1.heap.Ns builtinsNs mb) (hbb : ∀ y : Str, y ≠ "__name__" → mb y = bootBuiltins y) (hlim : s1.heap.NoLimit) (hg : s1.gens = #[])
  (ha : s1.heap.get? a = some { cls := .type "list", data := .seq us.toArray }) (hi : IntsAre us ns) (hl : ns.length ≤ sizeLine) (hr : Room k callerA)
  (F : ∀ base : Heap, K.In base → base.Ns mainGlobals mg → FnG P w K mg base CX k fa fd [x] sp) (hbind : ∀ (s : Shared) (u : Value), BindsTo s fd ⟨[u], []⟩ [(x, u)])
  (hsp : ∀ H : Hp, ((∃ o, H a = some Ykg) ∨ (∃ (o : Obj) (its : Array Value) (n : Nat), K.lookup a = some o ∧ o.cls = .type "list" ∧ o.dict = none ∧ o.data = .seq its n ∧ its.size ≤ sizeLine ∧ Vals Ye1 its.toList)) → sp [.ref a] H (fun v _ => v = .bl true) fun _ _ _ => False)
  (hCX : ∀ H e s', CX [] H s1 Yhj e s' → False) :
  codeAny Yd9 callerA (.call (.ref fa) ⟨[.ref a], []⟩) Yf5 s1 := by
 have rv := vals_ints hi
 have lenV := hi.length
 have main : ∀ H : Hp, Only H → ((∃ o, H a = some Ykg) ∨ (∃ (o : Obj) (its : Array Value) (n : Nat), K.lookup a = some o ∧ o.cls = .type "list" ∧ o.dict = none ∧ o.data = .seq its n ∧ its.size ≤ sizeLine ∧ Vals Ye1 its.toList)) → HOk P w H s1.heap →
   (∀ b, H b ≠ none → b = a) → (H a ≠ none → K.lookup a = none) →
   codeAny Yd9 callerA (.call (.ref fa) ⟨[.ref a], []⟩) Yf5 s1 := by
  intro H hO hS hok hA hK
  have isA : ∀ {b : Addr} {u : HO}, H b = some u → b = a := fun {b u} q => hA b (by rw [q]; exact Option.some_ne_none u)
  have free : ∀ {b : Addr} {o : Obj} {es : Array DictEntry} {ep : Nat}, s1.heap.get? b = some o → o.data = .dict es ep → H b = none := fun {b o es ep} e d => by
   cases q : H b with
   | none => rfl
   | some u =>
    rw [isA q, ha] at e
    cases e
    cases (show Data.seq us.toArray _ = Data.dict es ep from d)
  have nsK : ∀ {b : Addr} {m : Str → Option Value}, s1.heap.Ns b m → (hidT s1.heap H).Ns b m := fun {b m} ⟨o, es, ep, e, d, r⟩ => ⟨o, es, ep, hidT_get e (free e d), d, r⟩
  have hKb : K.In (hidT s1.heap H) := fun b o e => hidT_get (KX b o e) (by
   cases q : H b with
   | none => rfl
   | some u =>
    obtain rfl := isA q
    rw [hK (by rw [q]; exact Option.some_ne_none u)] at e
    cases e)
  have hM : Mod K mg (hidT s1.heap H) := by
   obtain ⟨mc, m1, m2⟩ := hlim
   exact ⟨hKb, nsK hns, ⟨mb, nsK hb, hbb⟩, mc, nsK m1, m2⟩
  have e0 : Env0 P w K mg (hidT s1.heap H) callerA [] s1 H :=
   { frames := rfl, mod := hM, bs := fun b o e => of_hidT e, bsz := Nat.le_of_eq (hidT_size _ _), funs := trivial, frf := fun b q => absurd (show b ∈ ([] : List Addr) from q) Yaw, hok := hok, bare := .of_eq hg }
  refine codeAny_mono ((F _ hKb (nsK hns)).run callerA [] s1 H ⟨[.ref a], []⟩ [.ref a] [.ref a] _ _ hr rfl e0 (hbind s1 (.ref a)) Ybq (hsp H hS)) ?_
  rintro (e | fl) s' h
  ·exact (hCX H e s' h).elim
  ·cases fl with
   | ret u =>
    obtain ⟨v, H', os, bare, un, hok', r', q⟩ := h
    obtain rfl : v = .bl true := q
    obtain rfl : u = Value.bool true := r'
    refine ⟨rfl, OldK.of_keep fun b o e => ?_, os, bare⟩
    rcases hO b with z | ⟨ob, xs, z⟩
    ·exact un.keep b o e z (fun m => nomatch (show b ∈ ([] : List Addr) from m)) (fun m => nomatch m)
    ·have z2 := un.frzs b ob _ z
     have e1 := (hok b _ z).1
     have e2 := (hok' b _ z2).1
     rw [e] at e1
     cases e1
     exact e2
   | next => exact (show False from h).elim
   | brk => exact (show False from h).elim
   | cont => exact (show False from h).elim
 cases hk : K.lookup a with
 | some o =>
  have e := KX a o hk
  rw [ha] at e
  cases e
  refine main (fun _ => none) (fun _ => .inl rfl) (.inr ⟨_, us.toArray, _, hk, rfl, rfl, rfl, by rw [List.size_toArray, lenV]; exact hl, by simpa using rv⟩) ?_ (fun b z => absurd rfl z) fun z => absurd rfl z
  intro b u z
  cases (show (none : Option HO) = some u from z)
 | none =>
  refine main (fun b => if b = a then some (.frz { cls := .type "list", data := .seq us.toArray } (.lst Ye1)) else none) ?_ (.inl ⟨{ cls := .type "list", data := .seq us.toArray }, if_pos rfl⟩) ?_ ?_ fun _ => hk
  ·intro b
   by_cases hb : b = a
   ·exact .inr ⟨_, _, if_pos hb⟩
   ·exact .inl (if_neg hb)
  ·intro b u z
   by_cases hb : b = a
   ·cases (if_pos hb).symm.trans z
    subst hb
    exact ⟨ha, by rw [List.length_map]; exact hl, us, _, rv, ha⟩
   ·cases (if_neg hb).symm.trans z
  ·intro b z
   by_cases hb : b = a
   ·exact hb
   ·exact absurd (if_neg hb) z
/-- what k_head leaves, from the law's promise -/
theorem walkG {l : PySem.W.OpenLaw} {n k : Nat} {q : Program} {loose : List Str} {XP : (Str → Option Value) → Heap → Prop} {YP : World → Heap → Prop} {d : DefRec} {K : Params → PySem.W.Frag} {CX : World → CXT} {sp : World → Sp} {x : Str}
  (hn : l.most = some n) (hn2 : n ≤ sizeLine) (hdf : d.params.defaults = []) (hr : Room k callerA) (hY : ∀ (w : World) (h : Heap), YP w h → (K w.params).In h)
  (F : ∀ (w : World) (mg : Str → Option Value) (fa : Addr) (h : Heap), (K w.params).In h → h.Ns mainGlobals mg → mg d.name = some (.ref fa) →
   ∃ fd : FuncData, (∀ (s : Shared) (u : Value), BindsTo s fd ⟨[u], []⟩ [(x, u)]) ∧
    ∀ base : Heap, (K w.params).In base → base.Ns mainGlobals mg → FnG l.prog w (K w.params) mg base (CX w) k fa fd [x] (sp w))
  (hsp : ∀ (w : World) (H : Hp) (a : Addr) (ns : List Int), ns.length ≤ n → ((∃ o, H a = some Ykg) ∨ (∃ (o : Obj) (its : Array Value) (m : Nat), (K w.params).lookup a = some o ∧ o.cls = .type "list" ∧ o.dict = none ∧ o.data = .seq its m ∧ its.size ≤ sizeLine ∧ Vals Ye1 its.toList)) →
   sp w [.ref a] H (fun v _ => v = .bl true) fun _ _ _ => False)
  (hCX : ∀ (w : World) (H : Hp) (s : Shared) (e : Value) (s' : Shared), CX w [] H s Yhj e s' → False) :
  PySem.W.WalkO q loose XP YP l.row.toRowW d [] (fun f vs => PySem.call f vs) := by
 refine Att.attach_call hn hdf ?_
 intro w s0 s1 mg mb fa o pm cd doc a us ns G Y ho hd hcd hmg hobj hints hlen hg
 have KX := hY w _ Y
 obtain ⟨fd, hb, hF⟩ := F w mg fa _ KX G.T.g hmg
 exact law_callG KX G.T.g G.T.b G.T.builtins G.T.nolimit hg hobj hints (Nat.le_trans hlen hn2) hr hF hb (fun H hS => hsp w H a ns hlen hS) fun H e s' => hCX w H s1 e s'
end Mir
namespace Mir
open PySem PySem.Spec L2
open PyProof.Rows hiding St
section
variable {K : PySem.W.Frag} {ω : World} {s : S4}
/-- a frozen sequence, as it lies -/
def FSq (K : PySem.W.Frag) (ω : World) (s : S4) (kd : Kd) (a : Addr) (ts : List T) : Prop := ∃ vs, Sq K s.H kd a vs ∧ RfL K s.fz s.H ts vs ∧ ∀ s', Aft s s' → Rel K ω s' → Sq K s'.H kd a vs
theorem fsq_of (R : Rel K ω s) {x : T} {v : V} (r : Rf K s.fz s.H x v) {ts : List T} (h : x = .tup ts ∨ x = .lst ts ∨ x = .scr ts) : ∃ kd a, v = .ref a ∧ FSq K ω s kd a ts := by
 rcases h with h | h | h <;> subst h
 ·obtain ⟨a, vs, e, t, l⟩ : ∃ a vs, v = .ref a ∧ FTup K s.fz s.H a vs ∧ RfL K s.fz s.H ts vs := by simpa only [Rf] using r
  exact ⟨.t, a, e, vs, t.sq, l, fun s' A _ => (t.aft A R).sq⟩
 ·obtain ⟨a, vs, e, t, l⟩ : ∃ a vs, v = .ref a ∧ FLst s.fz s.H a vs ∧ RfL K s.fz s.H ts vs := by simpa only [Rf] using r
  exact ⟨.l, a, e, vs, t.sq, l, fun s' A _ => (t.aft A R).sq⟩
 ·obtain ⟨a, vs, e, t, l⟩ : ∃ a vs, v = .ref a ∧ FScr K s.fz s.H a vs ∧ RfL K s.fz s.H ts vs := by simpa only [Rf] using r
  exact ⟨.l, a, e, vs, t.sq, l, fun s' A _ => (t.aft A R).sq⟩
/-- what a value walks, frozen -/
def seqT : W → Option (List T)
 | .t (.tup ts) => some ts
 | .t (.lst ts) => some ts
 | .t (.scr ts) => some ts
 | _ => none
theorem seqT_of {w : W} {ts : List T} (h : seqT w = some ts) : ∃ x, w = .t x ∧ (x = .tup ts ∨ x = .lst ts ∨ x = .scr ts) := by
 unfold seqT at h
 split at h <;> simp only [Option.some.injEq, reduceCtorEq] at h <;> subst h
 ·exact ⟨_, rfl, .inl rfl⟩
 ·exact ⟨_, rfl, .inr (.inl rfl)⟩
 ·exact ⟨_, rfl, .inr (.inr rfl)⟩
theorem fsq (R : Rel K ω s) {w : W} {v : V} {ts : List T} (h : seqT w = some ts) (r : Rw K s w v) : ∃ kd a, v = .ref a ∧ FSq K ω s kd a ts := by
 obtain ⟨x, rfl, hx⟩ := seqT_of h
 exact fsq_of R r hx
/-- plainly -/
theorem src_sq (R : Rel K ω s) {kd : Kd} {a : Addr} {ts : List T} (h : FSq K ω s kd a ts) : SrcF K ω s Yw (ItQ K kd a) := by
 obtain ⟨vs, _, l, st⟩ := h
 intro s' A' R' i
 have q := st s' A' R'
 have l' := RfL.aft A' R _ _ l
 have hl := RfL.length l
 refine ⟨fun w hw => ?_, fun e => ?_⟩
 ·obtain ⟨t, ht, rfl⟩ : ∃ t, ts[i]? = some t ∧ W.t t = w := by simpa using hw
  obtain ⟨v, hv, rv⟩ := RfL.get l' ht
  cases kd with
  | l => exact ⟨⟨vs, v, q, hv⟩, fun x H' y => ⟨s', y.1.symm, rfl, Aft.refl _, R', by
    have := y.2 vs q
    rw [hv] at this
    cases this
    exact rv⟩⟩
  | t => exact ⟨⟨vs, v, q, hv⟩, fun x H' y => ⟨s', y.1.symm, rfl, Aft.refl _, R', by
    have := y.2 vs q
    rw [hv] at this
    cases this
    exact rv⟩⟩
 ·cases kd with
  | l => exact ⟨vs, q, by rw [e, List.length_map, hl]; exact Nat.le_refl _⟩
  | t => exact ⟨vs, q, by rw [e, List.length_map, hl]; exact Nat.le_refl _⟩
theorem src_rng (lo : Int) (n : Nat) : SrcF K ω s ((List.range n).map fun i => W.t (.int (lo + (i : Nat)))) (Itr lo n) := by
 intro s' A' R' i
 refine ⟨fun w hw => ?_, fun e => ?_⟩
 ·have hi : i < n := by
   have := (List.getElem?_eq_some_iff.mp hw).1
   simpa using this
  refine ⟨hi, fun x H' y => ⟨s', y.1.symm, rfl, Aft.refl _, R', ?_⟩⟩
  have e : W.t (.int (lo + (i : Nat))) = w := by
   rw [List.getElem?_map, List.getElem?_range hi] at hw
   simpa using hw
  subst e
  simp only [Rw, Rf]
  exact y.2
 ·show n ≤ i
  rw [e]
  simp
/-- enumerate -/
def zga : Nat → List T → List W
 | _, [] => []
 | i, t :: ts => .t (.pr [.int (i : Nat), t]) :: zga (i + 1) ts
theorem enumT_get : ∀ (ts : List T) (j i : Nat), (zga j ts)[i]? = (ts[i]?).map fun t => W.t (.pr [.int ((j + i : Nat)), t])
 | [], _, i => by simp [zga]
 | t :: ts, j, 0 => by simp [zga]
 | t :: ts, j, i + 1 => by
  simp only [zga, List.getElem?_cons_succ]
  rw [enumT_get ts (j + 1) i, show j + 1 + i = j + (i + 1) by omega]
theorem enumT_length : ∀ (ts : List T) (j : Nat), (zga j ts).length = ts.length
 | [], _ => rfl
 | t :: ts, j => by simp [zga, enumT_length ts]
theorem src_en (R : Rel K ω s) {kd : Kd} {a : Addr} {ts : List T} (h : FSq K ω s kd a ts) : SrcF K ω s (zga 0 ts) (ItEn K kd a) := by
 obtain ⟨vs, _, l, st⟩ := h
 intro s' A' R' i
 have q := st s' A' R'
 have l' := RfL.aft A' R _ _ l
 have hl := RfL.length l
 refine ⟨fun w hw => ?_, fun e => ⟨vs, q, by rw [e, enumT_length, hl]⟩⟩
 rw [enumT_get, Option.map_eq_some_iff] at hw
 obtain ⟨t, ht, rfl⟩ := hw
 obtain ⟨v, hv, rv⟩ := RfL.get l' ht
 refine ⟨⟨vs, v, q, hv⟩, fun x H' y => ?_⟩
 obtain ⟨p, x', ex, np, eH, hx⟩ := y
 have ev : x' = v := Option.some.inj ((hx vs q).symm.trans hv)
 subst ex eH ev
 refine ⟨s'.addF p (.tup [.int (i : Nat), x']), rfl, rfl, zbe R' np, zbl R' np, addF_pr R' np ?_⟩
 rw [Nat.zero_add]
 exact ⟨_, _, rfl, by simp [Rf], x', [], rfl, rv, by simp [RfL]⟩
/-- zip -/
def zipT : List T → List T → List W
 | t :: ts, u :: us => .t (.pr [t, u]) :: zipT ts us
 | _, _ => []
theorem zipT_get : ∀ (ts us : List T) (i : Nat) (w : W), (zipT ts us)[i]? = some w → ∃ t u, ts[i]? = some t ∧ us[i]? = some u ∧ w = .t (.pr [t, u])
 | [], _, i, w, h => by simp [zipT] at h
 | _ :: _, [], i, w, h => by simp [zipT] at h
 | t :: ts, u :: us, 0, w, h => ⟨t, u, rfl, rfl, by simpa [zipT] using h.symm⟩
 | t :: ts, u :: us, i + 1, w, h => by
  simp only [zipT, List.getElem?_cons_succ] at h ⊢
  exact zipT_get ts us i w h
theorem zipT_length : ∀ (ts us : List T), (zipT ts us).length = min ts.length us.length
 | [], _ => by simp [zipT]
 | _ :: _, [] => by simp [zipT]
 | t :: ts, u :: us => by simp [zipT, zipT_length ts us]
theorem src_zp (R : Rel K ω s) {k1 k2 : Kd} {a b : Addr} {ts us : List T} (h : FSq K ω s k1 a ts) (h2 : FSq K ω s k2 b us) : SrcF K ω s (zipT ts us) (ItZp K k1 k2 a b) := by
 obtain ⟨vs, _, l, st⟩ := h
 obtain ⟨vs2, _, l2, st2⟩ := h2
 intro s' A' R' i
 have q := st s' A' R'
 have q2 := st2 s' A' R'
 have l' := RfL.aft A' R _ _ l
 have l2' := RfL.aft A' R _ _ l2
 refine ⟨fun w hw => ?_, fun e => ⟨vs, vs2, q, q2, by rw [e, zipT_length, RfL.length l, RfL.length l2]⟩⟩
 obtain ⟨t, u, ht, hu, rfl⟩ := zipT_get _ _ _ _ hw
 obtain ⟨v, hv, rv⟩ := RfL.get l' ht
 obtain ⟨v2, hv2, rv2⟩ := RfL.get l2' hu
 refine ⟨⟨vs, vs2, v, v2, q, q2, hv, hv2⟩, fun x H' y => ?_⟩
 obtain ⟨p, x1, x2, ex, np, eH, hx, hx2⟩ := y
 have e1 : x1 = v := Option.some.inj ((hx vs q).symm.trans hv)
 have e2 : x2 = v2 := Option.some.inj ((hx2 vs2 q2).symm.trans hv2)
 subst ex eH e1 e2
 exact ⟨s'.addF p (.tup [x1, x2]), rfl, rfl, zbe R' np, zbl R' np, addF_pr R' np ⟨x1, _, rfl, rv, x2, [], rfl, rv2, by simp [RfL]⟩⟩
/-- a text, sign by sign -/
def signs (x : Str) : List W := x.cps.toList.map fun c => .t (.str ⟨#[c]⟩)
theorem src_str (x : Str) : SrcF K ω s (signs x) (Its x) := by
 intro s' A' R' i
 refine ⟨fun w hw => ?_, fun e => ?_⟩
 ·unfold signs at hw
  rw [List.getElem?_map, Option.map_eq_some_iff] at hw
  obtain ⟨c, hc, rfl⟩ := hw
  have hc' : x.cps[i]? = some c := by simpa using hc
  refine ⟨(Array.getElem?_eq_some_iff.mp hc').1, fun v H' y => ⟨s', y.1.symm, rfl, Aft.refl _, R', ?_⟩⟩
  obtain ⟨_, c', h1, h2⟩ := y
  rw [hc'] at h1
  cases h1
  simp only [Rw, Rf]
  exact h2
 ·show x.cps.size ≤ i
  rw [e]
  simp [signs]
end
def rng1 (ws : List W) (hp : IH) : Res (List W) := match ws with
 | [.t (.int j)] => if -(2 ^ 62) ≤ j ∧ j < 2 ^ 62 then .ok ((List.range j.toNat).map fun i => W.t (.int (0 + (i : Nat)))) hp else .bad
 | _ => .bad
def rng2 (ws : List W) (hp : IH) : Res (List W) := match ws with
 | [.t (.int i), .t (.int j)] => if -(2 ^ 62) ≤ i ∧ i < 2 ^ 62 ∧ -(2 ^ 62) ≤ j ∧ j < 2 ^ 62 then .ok Yka hp else .bad
 | _ => .bad
def enum1 (ws : List W) (hp : IH) : Res (List W) := match ws with
 | [a] => (match seqT a with | some ts => .ok (zga 0 ts) hp | none => .bad)
 | _ => .bad
def zip2 (ws : List W) (hp : IH) : Res (List W) := match ws with
 | [a, b] => (match seqT a, seqT b with | some ts, some us => .ok (zipT ts us) hp | _, _ => .bad)
 | _ => .bad
def sqI (a : W) (hp : IH) : Res (List W) := match seqT a with | some ts => .ok Yw hp | none => .bad
def strI (a : W) (hp : IH) : Res (List W) := match a with | .t (.str x) => .ok (signs x) hp | _ => .bad
def mSq (F : M W) : M (List W) := fun eta hp => (F eta hp).bind sqI
def mStrI (F : M W) : M (List W) := fun eta hp => (F eta hp).bind strI
def mSrc (f : List W → IH → Res (List W)) (Fs : M (List W)) : M (List W) := fun eta hp => (Fs eta hp).bind f
section
variable {X : Cx} {Wx : WX} {tg a b e : Expr} {F : M W} {Fs : M (List W)} {p pos tpos : Pos} {elts : List Expr} {kk : Nat}
theorem Go.src {s : S4} {ws : List W} {J : It} {Q : It → Hp → Prop} (R : Rel X.K X.w s) (g : Go X.K X.w Wx (SrcF X.K X.w) s (.ok ws s.hp) Q) (h : SrcF X.K X.w s ws J) : Q J s.H := g J s rfl Yl R h
/-- a list or a tuple -/
theorem zbs (he : IE X Wx e F) : II X Wx tg e (mSq F) := PI.imp (pi_sq he) fun σ H Q h =>
 tM.bind1 (R := fun (x : V) (H1 : Hp) => ∃ kd a xs, x = .ref a ∧ Sq X.K H1 kd a xs ∧ Q (ItQ X.K kd a) H1) (k := fun (a : W) _ h1 => sqI a h1) h fun s eta w v R1 S1 f1 g => by
  unfold sqI at g
  cases hq : seqT w with
  | none => simp only [hq] at g; exact g.elim
  | some ts =>
   simp only [hq] at g
   obtain ⟨kd, a, ev, fs⟩ := fsq R1 hq f1
   exact ⟨kd, a, _, ev, fs.choose_spec.1, Go.src R1 g (src_sq R1 fs)⟩
theorem ii_str (he : IE X Wx e F) : II X Wx tg e (mStrI F) := PI.imp (pi_str he) fun σ H Q h =>
 tM.bind1 (R := fun (x : V) (H1 : Hp) => ∃ z, x = .str z ∧ Q (Its z) H1) (k := fun (a : W) _ h1 => strI a h1) h fun s eta w v R1 S1 f1 g => by
  unfold strI at g
  split at g
  ·rename_i x
   simp only [Rw, Rf] at f1
   exact ⟨x, f1, Go.src R1 g (src_str x)⟩
  ·exact g.elim
theorem rwl1 {K : PySem.W.Frag} {s : S4} {a : W} {vs : List V} (h : RwL K s [a] vs) : ∃ v, vs = [v] ∧ Rw K s a v := by
 obtain ⟨v, r, e, q, n⟩ := h
 rw [show r = [] from n] at e
 exact ⟨v, e, q⟩
theorem rwl2 {K : PySem.W.Frag} {s : S4} {a b : W} {vs : List V} (h : RwL K s [a, b] vs) : ∃ v u, vs = [v, u] ∧ Rw K s a v ∧ Rw K s b u := by
 obtain ⟨v, r, e, q, n⟩ := h
 obtain ⟨u, e2, q2⟩ := rwl1 n
 subst e2
 exact ⟨v, u, e, q, q2⟩
theorem ii_rng1 (hg : Gl X "range") (hm : X.mg "range" = none) (ha : IA X Wx [a] Fs) (hs : starEach [a] X.env = [(false, eval a X.env)] := by rfl) : II X Wx tg (.Call (.Name "range" p) [a] [] pos) (mSrc rng1 Fs) := PI.imp (pi_range1 hg hm ha hs) fun σ H Q h =>
 tM.bind1 (R := fun (vs : List V) (H1 : Hp) => ∃ j : Int, vs = [.int j] ∧ -(2 ^ 62) ≤ j ∧ j < 2 ^ 62 ∧ Q (Itr 0 j.toNat) H1) (k := fun (ws : List W) _ h1 => rng1 ws h1) h fun s eta ws vs R1 S1 f1 g => by
  unfold rng1 at g
  split at g
  ·rename_i j
   split at g
   ·rename_i hj
    obtain ⟨v, ev, rv⟩ := rwl1 f1
    simp only [Rw, Rf] at rv
    subst rv
    exact ⟨j, ev, hj.1, hj.2, Go.src R1 g (src_rng 0 _)⟩
   ·exact g.elim
  ·exact g.elim
theorem ii_rng2 (hg : Gl X "range") (hm : X.mg "range" = none) (ha : IA X Wx [a, b] Fs) (hs : starEach [a, b] X.env = [(false, eval a X.env), (false, eval b X.env)] := by rfl) (hs2 : starEach [b] X.env = [(false, eval b X.env)] := by rfl) : II X Wx tg (.Call (.Name "range" p) [a, b] [] pos) (mSrc rng2 Fs) := PI.imp (pi_range2 hg hm ha hs hs2) fun σ H Q h =>
 tM.bind1 (R := fun (vs : List V) (H1 : Hp) => ∃ i j : Int, vs = [.int i, .int j] ∧ (-(2 ^ 62) ≤ i ∧ i < 2 ^ 62 ∧ -(2 ^ 62) ≤ j ∧ j < 2 ^ 62) ∧ Q (Itr i (j - i).toNat) H1) (k := fun (ws : List W) _ h1 => rng2 ws h1) h fun s eta ws vs R1 S1 f1 g => by
  unfold rng2 at g
  split at g
  ·rename_i i j
   split at g
   ·rename_i hj
    obtain ⟨v, u, ev, rv, ru⟩ := rwl2 f1
    simp only [Rw, Rf] at rv ru
    subst rv ru
    exact ⟨i, j, ev, hj, Go.src R1 g (src_rng i _)⟩
   ·exact g.elim
  ·exact g.elim
theorem ii_en (hg : Gl X "enumerate") (hm : X.mg "enumerate" = none) (ha : IA X Wx [a] Fs) (hs : starEach [a] X.env = [(false, eval a X.env)] := by rfl) : II X Wx Yg4 (.Call (.Name "enumerate" p) [a] [] pos) (mSrc enum1 Fs) := PI.imp (pi_en hg hm ha hs) fun σ H Q h =>
 tM.bind1 (R := fun (vs : List V) (H1 : Hp) => ∃ kd a xs, vs = [.ref a] ∧ Sq X.K H1 kd a xs ∧ Q (ItEn X.K kd a) H1) (k := fun (ws : List W) _ h1 => enum1 ws h1) h fun s eta ws vs R1 S1 f1 g => by
  unfold enum1 at g
  split at g
  ·rename_i w
   cases hq : seqT w with
   | none => simp only [hq] at g; exact g.elim
   | some ts =>
    simp only [hq] at g
    obtain ⟨v, ev, rv⟩ := rwl1 f1
    obtain ⟨kd, a, ev2, fs⟩ := fsq R1 hq rv
    subst ev2
    exact ⟨kd, a, _, ev, fs.choose_spec.1, Go.src R1 g (src_en R1 fs)⟩
  ·exact g.elim
theorem ii_zip (hg : Gl X "zip") (hm : X.mg "zip" = none) (ha : IA X Wx [a, b] Fs) (hs : starEach [a, b] X.env = (false, eval a X.env) :: starEach [b] X.env := by rfl) (hpl : (backTo pos (starEach [b] X.env)).any (·.1) = false := by rfl) :
  II X Wx Yg4 (.Call (.Name "zip" p) [a, b] [] pos) (mSrc zip2 Fs) := PI.imp (pi_zp hg hm ha hs hpl) fun σ H Q h =>
 tM.bind1 (R := fun (vs : List V) (H1 : Hp) => ∃ k1 k2 a b xs ys, vs = [.ref a, .ref b] ∧ Sq X.K H1 k1 a xs ∧ Sq X.K H1 k2 b ys ∧ Q (ItZp X.K k1 k2 a b) H1) (k := fun (ws : List W) _ h1 => zip2 ws h1) h fun s eta ws vs R1 S1 f1 g => by
  unfold zip2 at g
  split at g
  ·rename_i w w2
   cases hq : seqT w with
   | none => simp only [hq] at g; exact g.elim
   | some ts =>
    cases hq2 : seqT w2 with
    | none => simp only [hq, hq2] at g; exact g.elim
    | some us =>
     simp only [hq, hq2] at g
     obtain ⟨v, v2, ev, rv, rv2⟩ := rwl2 f1
     obtain ⟨kd, a, ea, fs⟩ := fsq R1 hq rv
     obtain ⟨kd2, b, eb, fs2⟩ := fsq R1 hq2 rv2
     subst ea eb
     exact ⟨kd, kd2, a, b, _, _, ev, fs.choose_spec.1, fs2.choose_spec.1, Go.src R1 g (src_zp R1 fs fs2)⟩
  ·exact g.elim
end
section
variable {X : Cx} {Wx : WX} {elt tg iter : Expr} {ifs : List Expr} {scope : Scope} {own : List Yh2} {Fi : M (List W)} {pos : Pos} {g : TG} {G : W → IS → Option IS} {vs : List Nat} {tt : TT} {T : M Bool} {E : M W} {fin : OpN}
def mYes : M Bool := fun _ hp => .ok true hp
/-- a clause's tests -/
def ITs (X : Cx) (ifs : List Expr) (T : M Bool) : Prop := PTs X ifs (tT X.K X.w W0 T)
theorem PTs.imp {t t' : TT} (h : PTs X ifs t) (i : ∀ σ H Q, t' σ H Q → t σ H Q) : PTs X ifs t' := ⟨fun pins s σ H Q I hw => h.run pins s σ H Q I Yi5⟩
theorem za4 : ITs X [] mYes := PTs.imp pts_nil fun σ H Q h => by
 obtain ⟨s, eta, e1, R1, S1, g⟩ := h
 subst e1
 exact g true s rfl Yl R1 rfl
theorem zb8 {c : Expr} (h : IT X W0 c T) : ITs X [c] T := pts_one h
theorem za2 (hc : X.calm = true) (hN : X.N.Nodup) (hi : II X Wx tg iter Fi) (ok : BlkOk X.N X.env.scope scope own)
  (hg : ∀ (s : Shared) (H : Hp) (C : Addr) (cl : List (Str × Addr)) (fp : List Addr), PG Yc tg g) (tok : TgOk X.K X.w g G vs)
  (ht : ∀ (s : Shared) (H : Hp) (C : Addr) (cl : List (Str × Addr)) (fp : List Addr), ITs Yc ifs T)
  (he : ∀ (s : Shared) (H : Hp) (C : Addr) (cl : List (Str × Addr)) (fp : List Addr), IE Yc W0 elt E) (hf : FinOk X.K X.w Wx fin) (hv : ∀ i ∈ vs, i ∈ own.map (·.2) := by decide) (hs : ∀ x, foldedSetIterable iter X.env x = pure x := by intro _; rfl) :
  IE X Wx Ygs (zba fin Fi G T E (own.map (·.2))) := PE.imp (pe_lc (tt := tT X.K X.w W0 T) (te := tE X.K X.w W0 E) hc hN hi ok hg ht he hs) (t_comp _ tok hv hf)
theorem zdy {i : Nat} {y : Str} {py spos : Pos} (hc : X.calm = true) (hN : X.N.Nodup) (hy : X.N[i]? = some y) (hyl : X.env.scope.names.lookup y = some .local)
  (hsw : swapsWith Ygs (some (.Name y py)) spos.line X.env = pure true) (hi : II X Wx tg iter Fi) (ok : BlkOk X.N X.env.scope scope own)
  (hg : ∀ (s : Shared) (H : Hp) (C : Addr) (cl : List (Str × Addr)) (fp : List Addr), PG Yc tg g) (tok : TgOk X.K X.w g G vs)
  (ht : ∀ (s : Shared) (H : Hp) (C : Addr) (cl : List (Str × Addr)) (fp : List Addr), ITs Yc ifs T)
  (he : ∀ (s : Shared) (H : Hp) (C : Addr) (cl : List (Str × Addr)) (fp : List Addr), IE Yc W0 elt E) (hf : FinOk X.K X.w Wx fin) (hv : ∀ i ∈ vs, i ∈ own.map (·.2) := by decide) (hs : ∀ x, foldedSetIterable iter X.env x = pure x := by intro _; rfl) :
  ISt X Wx (.Assign [.Name y py] Ygs spos) (mSet i (zba fin Fi G T E (own.map (·.2)))) := PS.imp (ps_setLc (tt := tT X.K X.w W0 T) (te := tE X.K X.w W0 E) hc hN hy hyl hsw hi ok hg ht he hs) fun D σ H h => by
 have h' : tE X.K X.w Wx (zba fin Fi G T E (own.map (·.2))) σ H Yio :=
  tM.bind1 (R := fun (y : V) (H1 : Hp) => D.nx (σ.set i (some y)) H1) (k := fun (a : W) eta hp => .ok (Fl.nx Yf2) hp) h fun s eta a b R1 S1 f1 g1 => Go.nx R1 (S1.set i f1) g1
 exact t_comp _ tok hv hf σ H _ h'
end
/-- a def's function: its body at its parameters; a live result may not be younger than the call -/
def fnM (n nn : Nat) (B : M Fl) : OpN := fun ws hp => if ws.length = n then (match B Yhp hp with
  | .ok (.rt w) h => .ok w h
  | .ok (.nx _) h => .ok Ya0 h
  | .er e _ h => .er e [] h
  | _ => .bad) else .bad
/-- .. of trees alone: its own cells are dropped -/
def fnP (n nn : Nat) (B : M Fl) : OpN := fun ws hp => if ws.length = n ∧ (allT ws).isSome = true then (match B Yhp [] with
  | .ok (.rt (.t x)) _ => .ok (.t x) hp
  | .ok (.nx _) _ => .ok Ya0 hp
  | _ => .bad) else .bad
/-- the promise made of a function -/
def spM (K : PySem.W.Frag) (ω : World) (f : OpN) (n : Nat) : Sp := fun vs H Q _ => ∃ (s : S4) (ws : List W), s.H = H ∧ Rel K ω s ∧ RwL K s ws vs ∧ ws.length = n ∧ Go K ω W0 (Rw K) s (noEr (f ws s.hp)) Q
section
variable {K : PySem.W.Frag} {ω : World}
theorem spM_len {f : OpN} {n : Nat} {vs : List V} {H : Hp} {Q : VK} {E : XK} (h : spM K ω f n vs H Q E) : vs.length = n := by
 obtain ⟨s, ws, _, _, l, e, _⟩ := h
 rw [← RwL.length l, e]
theorem sl_start {s : S4} {N : List Str} {ws : List W} {vs : List V} (l : RwL K s ws vs) : Sl K s (ws.map some ++ List.replicate (N.length - ws.length) none) (L2.start N vs) := by
 have hl := RwL.length l
 refine ⟨by simp [L2.start, hl], fun i w e => ?_⟩
 by_cases hi : i < ws.length
 ·rw [List.getElem?_append_left (by simpa using hi), List.getElem?_map] at e
  cases q : ws[i]? with
  | none => rw [q] at e; cases e
  | some w' =>
   rw [q] at e
   cases e
   obtain ⟨v, h1, h2⟩ := RwL.get l q
   refine ⟨v, ?_, h2⟩
   unfold L2.start
   rw [List.getElem?_append_left (by rw [List.length_map, ← hl]; exact hi), List.getElem?_map, h1]
   rfl
 ·rw [List.getElem?_append_right (by simpa using hi), List.getElem?_replicate] at e
  split at e <;> cases e
/-- a run over the caller's heap without its cells -/
def S4.bare (s : S4) : S4 := ⟨[], s.fz, [], s.H⟩
theorem rel_bare {s : S4} (R : Rel K ω s) : Rel K ω s.bare := ⟨rfl, List.nodup_nil, fun a m => absurd m (by simp [S4.bare]), R.ftrk, fun a l => by obtain ⟨i, c, e, _⟩ := l; simp [S4.bare] at e, fun i c a e => by simp [S4.bare] at e⟩
theorem Rf.bare {s : S4} {x : T} {v : V} (h : Rw K s (.t x) v) : Rw K s.bare (.t x) v := h
theorem aft_bare {s s' : S4} (R : Rel K ω s) (A : Aft s.bare s') : Aft s ⟨s.rho, s'.fz, s.hp, s'.H⟩ ∧ (Rel K ω s' → Rel K ω ⟨s.rho, s'.fz, s.hp, s'.H⟩) := by
 have nl : ∀ a, ¬ Live s.bare a := fun a l => by obtain ⟨i, c, e, _⟩ := l; simp [S4.bare] at e
 have A1 : Aft s ⟨s.rho, s'.fz, s.hp, s'.H⟩ := by
  refine ⟨⟨[], by simp, by simp⟩, A.fz, fun a o e _ => A.keep a o e (nl a), fun a f => ?_, fun a l => .inl l, A.trk⟩
  rcases A.fnew a f with f | f | f
  ·exact .inl f
  ·exact .inr (.inl f)
  ·exact (nl a f).elim
 refine ⟨A1, fun R' => ⟨R.len, R.nd, fun a m => A.trk a (R.trk a m), R'.ftrk, fun a l f => ?_, fun i c a e1 e2 => ?_⟩⟩
 ·rcases A.fnew a f with f | f | f
  ·exact R.fz a l f
  ·obtain ⟨i, c, e1, e2⟩ := l
   exact R.liveH e1.1 e2 f
  ·exact nl a f
 ·have q := R.cell i c a e1 e2
  have ha : s.H a ≠ none := R.liveH e1 e2
  cases hq : s.H a with
  | none => exact absurd hq ha
  | some o =>
   show CellOk K ω _ a c (s'.H a)
   rw [A.keep a o hq (nl a), ← hq]
   exact q.aft A1 R
variable {P : Program} {w : World} {mg : Str → Option Value} {base : Heap}
theorem okM {x qual : Str} {st : Stmt} {f : Addr} {fd : FuncData} {N ps : List Str} {k : Nat} {B : M Fl} {dfs : List V} {kws : List Ygz} (F : FunD K x qual (defArgs st) Ykk Ycg dfs kws f fd) (S : FnScope N ps Ycg)
  (hb : ∀ (cdv : Value) (A : Around) (outer : List Env) (s : Shared) (H : Hp) (E : XK), Room k Ybz → A.guards = some [] → ISs (cxOf Yd P w K mg base N qual Ycg f cdv A outer s H E).nox W0 Ykk B) :
  FnG P w K mg base Yd (k + 1) f fd ps (spM K w (fnM ps.length N.length B) ps.length) := by
 refine Fun.okG F S (fun vs H Q E h => spM_len h) fun cdv A outer s H vs Q E hr hgd h => ⟨_, PSs.nox (hb cdv A outer s H E hr hgd), ?_⟩
 obtain ⟨s0, ws, e1, R1, l, el, g⟩ := h
 refine ⟨s0, _, e1, R1, sl_start l, ?_⟩
 unfold fnM at g
 rw [if_pos el] at g
 rw [el]
 cases hB : B (ws.map some ++ List.replicate (N.length - ps.length) none) s0.hp with
 | ok fl hp =>
  rw [hB] at g
  cases fl with
  | rt wr => exact fun b s' h1 h2 h3 h4 => by cases b <;> first | exact h4.elim | exact g _ s' h1 h2 h3 h4
  | nx e => exact fun b s' h1 h2 h3 h4 => by cases b <;> first | exact h4.elim | exact g .non s' h1 h2 h3 (by simp [Rw, Rf])
  | bk e => exact g.elim
  | ct e => exact g.elim
 | er e eta hp => rw [hB] at g; exact g.elim
 | bad => rw [hB] at g; exact g.elim
theorem okP {x qual : Str} {st : Stmt} {f : Addr} {fd : FuncData} {N ps : List Str} {k : Nat} {B : M Fl} {dfs : List V} {kws : List Ygz} (F : FunD K x qual (defArgs st) Ykk Ycg dfs kws f fd) (S : FnScope N ps Ycg)
  (hb : ∀ (cdv : Value) (A : Around) (outer : List Env) (s : Shared) (H : Hp) (E : XK), Room k Ybz → A.guards = some [] → ISs (cxOf Yd P w K mg base N qual Ycg f cdv A outer s H E).nox W0 Ykk B) :
  FnG P w K mg base Yd (k + 1) f fd ps (spM K w (fnP ps.length N.length B) ps.length) := by
 refine Fun.okG F S (fun vs H Q E h => spM_len h) fun cdv A outer s H vs Q E hr hgd h => ⟨_, PSs.nox (hb cdv A outer s H E hr hgd), ?_⟩
 obtain ⟨s0, ws, e1, R1, l, el, g⟩ := h
 unfold fnP at g
 cases ht : allT ws with
 | none => simp only [ht, Option.isSome_none, Bool.false_eq_true, and_false, if_false] at g; exact g.elim
 | some ts =>
  rw [if_pos ⟨el, by rw [ht]; rfl⟩] at g
  have lb : RwL K s0.bare ws vs := by
   rw [zcw ht] at l ⊢
   exact (RwL.of_trees (s := s0.bare)).mpr ((RwL.of_trees (s := s0)).mp l)
  refine ⟨s0.bare, _, e1, rel_bare R1, sl_start lb, ?_⟩
  rw [el]
  show Go K w W0 (RFl K) s0.bare (B _ []) _
  cases hB : B (ws.map some ++ List.replicate (N.length - ps.length) none) [] with
  | ok fl hp =>
   rw [hB] at g
   cases fl with
   | rt wr =>
    cases wr with
    | t y =>
     intro b s' h1 h2 h3 h4
     cases b <;> first | exact h4.elim | exact g _ ⟨s0.rho, s'.fz, s0.hp, s'.H⟩ rfl (aft_bare R1 h2).1 ((aft_bare R1 h2).2 h3) h4
    | r i => exact g.elim
   | nx e =>
    intro b s' h1 h2 h3 h4
    cases b <;> first | exact h4.elim | exact g .non ⟨s0.rho, s'.fz, s0.hp, s'.H⟩ rfl (aft_bare R1 h2).1 ((aft_bare R1 h2).2 h3) (by simp [Rw, Rf])
   | bk e => exact g.elim
   | ct e => exact g.elim
  | er e eta hp => rw [hB] at g; exact g.elim
  | bad => rw [hB] at g; exact g.elim
end
theorem fnM_len {n nn : Nat} {B : M Fl} : ∀ ws hp, ws.length ≠ n → fnM n nn B ws hp = .bad := fun ws hp h => by unfold fnM; rw [if_neg h]
theorem zak {n nn : Nat} {B : M Fl} : ∀ ws hp, ws.length ≠ n → fnP n nn B ws hp = .bad := fun ws hp h => by unfold fnP; rw [if_neg fun z => h z.1]
/-- f(e, ..), then the defaults -/
def zar (f : OpN) (ds : List T) (Fs : M (List W)) : M W := fun eta hp => (Fs eta hp).bind fun ws h1 => noEr (f (ws ++ ds.map W.t) h1)
section
variable {X : Cx} {Wx : WX} {k : Nat} {f : Addr} {fd : FuncData} {ps : List Str} {m : OpN} {n : Nat} {x : Str} {p pos : Pos} {e : Expr} {es : List Expr} {Fs : M (List W)} {dvs : List V} {ds : List Value} {dts : List T}
theorem zal (Fk : FnG X.prog X.w X.K X.mg X.base Yea k f fd ps Yhq) (hr : Room k X.A) (hgd : X.A.guards = some []) (hg : Gl X x) (hm : X.mg x = some (.ref f)) (hk : PySem.W.keepIn X.K (.ref f) = true) (hb : Binds X.K fd ps ds) (hd : Vals dvs ds) (hdt : ∀ s, RwL X.K s (dts.map W.t) dvs) (hl : ∀ ws hp, ws.length ≠ n → m ws hp = .bad) (ha : IA X Wx Yam Fs)
  (hdb : (x == ("__debug__" : Str)) = false := by decide) (he : starEach Yam X.env = (false, eval e X.env) :: starEach es X.env := by rfl) (hpl : (backTo pos Ybi).any (·.1) = false := by rfl) : IE X Wx Yc2 (zar m dts Fs) :=
 PE.imp (pe_callG Fk hr hgd hg hm hk hb hd passL ha hdb he hpl) fun σ H Q h =>
  tM.bind1 (R := fun (vs : List V) (H1 : Hp) => spM X.K X.w m n (vs ++ dvs) H1 Q E0) (k := fun (ws : List W) _ h1 => noEr (m (ws ++ dts.map W.t) h1)) h fun s eta ws vs R1 S1 f1 g => by
   refine ⟨s, ws ++ dts.map W.t, rfl, R1, RwL.append f1 (hdt s), ?_, ?_⟩
   ·by_cases e : (ws ++ dts.map W.t).length = n
    ·exact e
    ·rw [hl _ _ e] at g; exact g.elim
   ·cases hq : m (ws ++ dts.map W.t) s.hp with
    | ok a h => rw [hq] at g; exact g
    | er e eta h => rw [hq] at g; exact g.elim
    | bad => rw [hq] at g; exact g.elim
end
end Mir
namespace Mir
open PySem PySem.Spec L2
open PyProof.Rows hiding St
def opI (C : Int → Int → Bool) (g : Int → Int → Int) : Op2 := fun a b hp => match a, b with
 | .t (.int i), .t (.int j) => if C i j = true then .ok (.t (.int (g i j))) hp else .bad
 | _, _ => .bad
def opC (g : Int → Int → Bool) : Op2 := fun a b hp => match a, b with
 | .t (.int i), .t (.int j) => .ok (.t (.bl (g i j))) hp
 | _, _ => .bad
def cYes : Int → Int → Bool := fun _ _ => true
def cMul : Int → Int → Bool := fun i j => decide (i.natAbs.log2 + j.natAbs.log2 < 1000000)
def cDiv : Int → Int → Bool := fun _ j => decide (0 < j ∧ j.natAbs.log2 < 9000)
def cMod : Int → Int → Bool := fun _ j => decide (0 < j)
def cPow : Int → Int → Bool := fun i j => decide (0 ≤ j ∧ j ≤ 1000000 ∧ i.natAbs < 2 ^ 64)
section
variable {K : PySem.W.Frag} {ω : World} {Wx : WX}
theorem ok_opI {C : Int → Int → Bool} {g : Int → Int → Int} {P : Int → Int → Prop} (h : ∀ i j, C i j = true → P i j) : zdv K ω Wx (opI C g) (rI P fun i j => .int (g i j)) := by
 intro s a b x y Q R ra rb go
 unfold opI at go
 split at go
 ·rename_i i j
  split at go
  ·rename_i hc
   simp only [Rw, Rf] at ra rb
   exact ⟨i, j, ra, rb, h i j hc, go _ s rfl Yl R Yk⟩
  ·exact go.elim
 ·exact go.elim
theorem ok_opI0 {g : Int → Int → Int} : zdv K ω Wx (opI cYes g) (rI0 fun i j => .int (g i j)) := by
 intro s a b x y Q R ra rb go
 unfold opI at go
 split at go
 ·rename_i i j
  rw [if_pos (show cYes i j = true from rfl)] at go
  simp only [Rw, Rf] at ra rb
  exact ⟨i, j, ra, rb, go _ s rfl Yl R Yk⟩
 ·exact go.elim
theorem ok_opC {g : Int → Int → Bool} : zdv K ω Wx (opC g) (rI0 fun i j => .bl (g i j)) := by
 intro s a b x y Q R ra rb go
 unfold opC at go
 split at go
 ·rename_i i j
  simp only [Rw, Rf] at ra rb
  exact ⟨i, j, ra, rb, go _ s rfl Yl R Yk⟩
 ·exact go.elim
end
abbrev iAdd : Op2 := opI cYes fun i j => i + j
abbrev iSub : Op2 := opI cYes fun i j => i - j
abbrev iDiv : Op2 := opI cDiv fun i j => i / j
abbrev iMod : Op2 := opI cMod fun i j => i % j
abbrev iPow : Op2 := opI cPow fun i j => i ^ j.toNat
abbrev iLe : Op2 := opC fun i j => decide (i ≤ j)
abbrev iGt : Op2 := opC fun i j => decide (j < i)
abbrev iGe : Op2 := opC fun i j => decide (j ≤ i)
section
variable {X : Cx} {Wx : WX} {a b c e : Expr} {Fa Fb Fc F : M W} {pos : Pos}
theorem ie_sub (ha : IE X Wx a Fa) (hb : IE X Wx b Fb) : IE X Wx (.BinOp a .Sub b pos) (mBin iSub Fa Fb) := ie_bin op_sub ok_opI0 ha hb
theorem ie_div (ha : IE X Wx a Fa) (hb : IE X Wx b Fb) : IE X Wx (.BinOp a .FloorDiv b pos) (mBin iDiv Fa Fb) := ie_bin op_fdivW (ok_opI fun i j h => by simpa [cDiv, CDivW] using h) ha hb
theorem ie_mod (ha : IE X Wx a Fa) (hb : IE X Wx b Fb) : IE X Wx (.BinOp a .Mod b pos) (mBin iMod Fa Fb) := ie_bin op_mod (ok_opI fun i j h => by simpa [cMod] using h) ha hb
theorem ie_pow (ha : IE X Wx a Fa) (hb : IE X Wx b Fb) : IE X Wx (.BinOp a .Pow b pos) (mBin iPow Fa Fb) := ie_bin op_pow (ok_opI fun i j h => by simpa [cPow, CPow] using h) ha hb
theorem ie_gt (ha : IE X Wx a Fa) (hb : IE X Wx b Fb) : IE X Wx (.Compare a [.Gt] [b] pos) (mBin iGt Fa Fb) := ie_cmp op_gt ok_opC ha hb Yhr
theorem ie_ge (ha : IE X Wx a Fa) (hb : IE X Wx b Fb) : IE X Wx (.Compare a [.GtE] [b] pos) (mBin iGe Fa Fb) := ie_cmp op_ge ok_opC ha hb Yhr
theorem it_gt (ha : IE X Wx a Fa) (hb : IE X Wx b Fb) : IT X Wx (.Compare a [.Gt] [b] pos) (zah asB (mBin iGt Fa Fb)) := it_cmp op_gt ok_opC ha hb Yhr
theorem it_ge (ha : IE X Wx a Fa) (hb : IE X Wx b Fb) : IT X Wx (.Compare a [.GtE] [b] pos) (zah asB (mBin iGe Fa Fb)) := it_cmp op_ge ok_opC ha hb Yhr
def iNeg : Op1 := fun a hp => match a with | .t (.int i) => .ok (.t (.int (-i))) hp | _ => .bad
theorem ie_neg (ha : IE X Wx a Fa) : IE X Wx (.UnaryOp .USub a pos) (mUn iNeg Fa) := ie_un un_neg (fun s a x Q R ra go => by
 unfold iNeg at go
 split at go
 ·simp only [Rw, Rf] at ra
  exact ⟨_, ra, go _ s rfl Yl R Yk⟩
 ·exact go.elim) ha
end
def eqW (neg : Bool) : Op2 := fun a b hp => match asT hp a, asT hp b with
 | some x, some y => if fit x 60 = true ∧ fit y 60 = true then .ok (.t (.bl (if neg then !eqT x y else eqT x y))) hp else .bad
 | _, _ => .bad
def isN (neg : Bool) : Op2 := fun a b hp => match b with
 | .t .non => (match a with
  | .t .non => .ok (.t (.bl (!neg))) hp
  | _ => .ok (.t (.bl neg)) hp)
 | _ => .bad
def isB (neg : Bool) : Op2 := fun a b hp => match a, b with
 | .t (.bl i), .t (.bl j) => .ok Ylk hp
 | _, _ => .bad
def inW (neg : Bool) : Op2 := fun a b hp => match asT hp a, (items hp b).bind allT with
 | some x, some ys => if fit x 60 = true ∧ fitL ys 60 = true then .ok (.t (.bl (if neg then !(ys.any fun y => eqT y x) else ys.any fun y => eqT y x))) hp else .bad
 | _, _ => .bad
section
variable {K : PySem.W.Frag} {ω : World} {Wx : WX}
theorem ok_eq : zdv K ω Wx Yx (rEqP K) := by
 intro s a b x y Q R ra rb go
 unfold eqW at go
 cases h1 : asT s.hp a with
 | none => simp only [h1] at go; exact go.elim
 | some u =>
  cases h2 : asT s.hp b with
  | none => simp only [h1, h2] at go; exact go.elim
  | some v =>
   simp only [h1, h2] at go
   split at go
   ·rename_i hf
    have p1 := zf3 u 60 hf.1
    have p2 := zf3 v 60 hf.2
    refine ⟨dat u, dat v, asT_dp R h1 ra hf.1, asT_dp R h2 rb hf.2, p1.1, p2.1, p1.2, ?_⟩
    rw [eqT_dat u v 60 60 hf.1 hf.2]
    exact go _ s rfl Yl R Yk
   ·exact go.elim
theorem ok_ne : zdv K ω Wx Ya7 (rNeP K) := by
 intro s a b x y Q R ra rb go
 unfold eqW at go
 cases h1 : asT s.hp a with
 | none => simp only [h1] at go; exact go.elim
 | some u =>
  cases h2 : asT s.hp b with
  | none => simp only [h1, h2] at go; exact go.elim
  | some v =>
   simp only [h1, h2] at go
   split at go
   ·rename_i hf
    have p1 := zf3 u 60 hf.1
    have p2 := zf3 v 60 hf.2
    refine ⟨dat u, dat v, asT_dp R h1 ra hf.1, asT_dp R h2 rb hf.2, p1.1, p2.1, p1.2, ?_⟩
    rw [eqT_dat u v 60 60 hf.1 hf.2]
    exact go _ s rfl Yl R Yk
   ·exact go.elim
theorem rf_non {s : S4} {w : W} {v : V} (r : Rw K s w v) : (v = .non ↔ w = .t .non) := by
 cases w with
 | r i => obtain ⟨a, _, e⟩ := r; subst e; simp
 | t x =>
  cases x <;> simp only [Rw, Rf] at r <;> first
   | (subst r; simp)
   | (obtain ⟨a, _, e, _⟩ := r; subst e; simp)
   | (obtain ⟨a, _, _, e, _⟩ := r; subst e; simp)
   | (obtain ⟨a, e, _⟩ := r; subst e; simp)
   | exact r.elim
theorem ok_isN : zdv K ω Wx Ygj (fun x y H Q => y = .non ∧ Q (.bl (decide (x = .non))) H) := by
 intro s a b x y Q R ra rb go
 unfold isN at go
 split at go
 ·refine ⟨by simpa only [Rw, Rf] using rb, ?_⟩
  split at go
  ·have e : x = .non := by simpa only [Rw, Rf] using ra
   rw [decide_eq_true e]
   exact go _ s rfl Yl R Yk
  ·rename_i hn
   have e : ¬ x = .non := fun e => hn ((rf_non ra).mp e)
   rw [decide_eq_false e]
   exact go _ s rfl Yl R Yk
 ·exact go.elim
theorem ok_notN : zdv K ω Wx Ykl (fun x y H Q => y = .non ∧ Q (.bl (!decide (x = .non))) H) := by
 intro s a b x y Q R ra rb go
 unfold isN at go
 split at go
 ·refine ⟨by simpa only [Rw, Rf] using rb, ?_⟩
  split at go
  ·have e : x = .non := by simpa only [Rw, Rf] using ra
   rw [decide_eq_true e]
   exact go _ s rfl Yl R Yk
  ·rename_i hn
   have e : ¬ x = .non := fun e => hn ((rf_non ra).mp e)
   rw [decide_eq_false e]
   exact go _ s rfl Yl R Yk
 ·exact go.elim
theorem ok_isB : zdv K ω Wx (isB false) rIsB := by
 intro s a b x y Q R ra rb go
 unfold isB at go
 split at go
 ·simp only [Rw, Rf] at ra rb
  exact ⟨_, _, ra, rb, go _ s rfl Yl R Yk⟩
 ·exact go.elim
theorem ok_notB : zdv K ω Wx Yce rNotB := by
 intro s a b x y Q R ra rb go
 unfold isB at go
 split at go
 ·simp only [Rw, Rf] at ra rb
  exact ⟨_, _, ra, rb, go _ s rfl Yl R Yk⟩
 ·exact go.elim
theorem items_dp {s : S4} (R : Rel K ω s) {w : W} {v : V} {ys : List T} {n : Nat} (h : (items s.hp w).bind allT = some ys) (r : Rw K s w v) (f : fitL ys n = true) : Dp K s.H v (.list (datL ys)) ∨ Dp K s.H v (.tuple (datL ys)) := by
 rw [Option.bind_eq_some_iff] at h
 obtain ⟨ws, h1, h2⟩ := h
 obtain ⟨p, xs, e, q, l⟩ := items_sq R h1 r
 subst e
 rw [zcw h2] at l
 have d := RfL.dp ys xs n f Ygh
 rcases q with q | q
 ·exact .inr (.tup q d)
 ·exact .inl (.lst q d)
theorem any_dat {x : T} {n m : Nat} (fx : fit x n = true) : ∀ (ys : List T), fitL ys m = true → (datL ys).any (fun z => PyData.eqv z (dat x)) = ys.any fun y => eqT y x
 | [], _ => rfl
 | y :: ys, f => by
  simp only [fitL, Bool.and_eq_true] at f
  simp only [datL, List.any_cons, eqT_dat y x m n f.1 fx, any_dat fx ys f.2]
theorem ok_in {neg : Bool} : zdv K ω Wx (inW neg) (rInP K neg) := by
 intro s a b x y Q R ra rb go
 unfold inW at go
 cases h1 : asT s.hp a with
 | none => simp only [h1] at go; exact go.elim
 | some u =>
  cases h2 : (items s.hp b).bind allT with
  | none => simp only [h1, h2] at go; exact go.elim
  | some ys =>
   simp only [h1, h2] at go
   split at go
   ·rename_i hf
    have p1 := zf3 u 60 hf.1
    have p2 := fit_plainL ys 60 hf.2
    refine ⟨dat u, datL ys, asT_dp R h1 ra hf.1, items_dp R h2 rb hf.2, p1.1, p2.1, p1.2, ?_⟩
    rw [any_dat hf.1 ys hf.2]
    exact go _ s rfl Yl R Yk
   ·exact go.elim
end
section
variable {X : Cx} {Wx : WX} {a b c e : Expr} {Fa Fb Fc F : M W} {pos : Pos}
theorem ie_eq (hu : X.A.units + 64 < cLine) (ha : IE X Wx a Fa) (hb : IE X Wx b Fb) : IE X Wx (.Compare a [.Eq] [b] pos) (mBin Yx Fa Fb) := ie_cmp (op_eqP hu) ok_eq ha hb Yhr
theorem zb1 (hu : X.A.units + 64 < cLine) (ha : IE X Wx a Fa) (hb : IE X Wx b Fb) : IT X Wx (.Compare a [.Eq] [b] pos) (zah asB (mBin Yx Fa Fb)) := it_cmp (op_eqP hu) ok_eq ha hb Yhr
theorem zf8 (hu : X.A.units + 64 < cLine) (ha : IE X Wx a Fa) (hb : IE X Wx b Fb) : IT X Wx (.Compare a [.NotEq] [b] pos) (zah asB (mBin Ya7 Fa Fb)) := it_cmp (op_neP hu) ok_ne ha hb Yhr
theorem it_isN (ha : IE X Wx a Fa) (hb : IE X Wx b Fb) : IT X Wx (.Compare a [.Is] [b] pos) (zah asB (mBin Ygj Fa Fb)) := it_cmp op_isN ok_isN ha hb Yhr
theorem zgf (ha : IE X Wx a Fa) (hb : IE X Wx b Fb) : IT X Wx (.Compare a [.IsNot] [b] pos) (zah asB (mBin Ykl Fa Fb)) := it_cmp op_notN ok_notN ha hb Yhr
theorem ie_isB (ha : IE X Wx a Fa) (hb : IE X Wx b Fb) : IE X Wx (.Compare a [.Is] [b] pos) (mBin (isB false) Fa Fb) := ie_cmp op_isBl ok_isB ha hb Yhr
theorem zez (ha : IE X Wx a Fa) (hb : IE X Wx b Fb) : IT X Wx (.Compare a [.IsNot] [b] pos) (zah asB (mBin Yce Fa Fb)) := it_cmp op_notBl ok_notB ha hb Yhr
theorem ie_in (hu : X.A.units + 64 < cLine) (ha : IE X Wx a Fa) (hb : IE X Wx b Fb) (hm : behindInMarks .In b = false := by rfl) : IE X Wx (.Compare a [.In] [b] pos) (mBin Yfr Fa Fb) := ie_cmp (op_inP hu) ok_in ha hb hm
theorem it_in (hu : X.A.units + 64 < cLine) (ha : IE X Wx a Fa) (hb : IE X Wx b Fb) (hm : behindInMarks .In b = false := by rfl) : IT X Wx (.Compare a [.In] [b] pos) (zah asB (mBin Yfr Fa Fb)) := it_cmp (op_inP hu) ok_in ha hb hm
theorem it_nin (hu : X.A.units + 64 < cLine) (ha : IE X Wx a Fa) (hb : IE X Wx b Fb) (hm : behindInMarks .NotIn b = false := by rfl) : IT X Wx (.Compare a [.NotIn] [b] pos) (zah asB (mBin (inW true) Fa Fb)) := it_cmp (op_ninP hu) ok_in ha hb hm
end
def ixW : Op2 := fun a b hp => match b with
 | .t (.int i) => (match a with
  | .t (.str z) => (match atI z.cps.toList i with | some c => if z.length ≤ 16777216 then .ok (.t (.str ⟨#[c]⟩)) hp else .bad | none => .bad)
  | a => (match (items hp a).bind fun ws => atI ws i with | some w => .ok w hp | none => .bad))
 | _ => .bad
section
variable {K : PySem.W.Frag} {ω : World} {Wx : WX}
theorem atI_rw {s : S4} {ws : List W} {vs : List V} {i : Int} {w : W} (l : RwL K s ws vs) (h : atI ws i = some w) : ∃ v, atI vs i = some v ∧ Rw K s w v := by
 unfold atI at h ⊢
 rw [Option.bind_eq_some_iff] at h
 obtain ⟨j, h1, h2⟩ := h
 obtain ⟨v, q1, q2⟩ := RwL.get l h2
 exact ⟨v, by rw [← RwL.length l, h1]; exact q1, q2⟩
theorem ok_ix : zdv K ω Wx ixW (rIx K) := by
 intro s a b x y Q R ra rb go
 unfold ixW at go
 split at go
 ·rename_i i
  have ey : y = .int i := by simpa only [Rw, Rf] using rb
  split at go
  ·rename_i z
   have ex : x = .str z := by simpa only [Rw, Rf] using ra
   split at go
   ·rename_i c hc
    split at go
    ·rename_i hz
     exact .inr (.inr ⟨z, i, c, ex, ey, by rw [sizeLine_eq]; exact hz, hc, go _ s rfl Yl R Yk⟩)
    ·exact go.elim
   ·exact go.elim
  ·split at go
   ·rename_i w hw
    rw [Option.bind_eq_some_iff] at hw
    obtain ⟨ws, h1, h2⟩ := hw
    obtain ⟨p, xs, e, q, l⟩ := items_sq R h1 ra
    obtain ⟨v, h3, h4⟩ := atI_rw l h2
    rcases q with q | q
    ·exact .inr (.inl ⟨p, xs, i, v, e, ey, q, h3, go _ s rfl Yl R h4⟩)
    ·exact .inl ⟨p, xs, i, v, e, ey, q, h3, go _ s rfl Yl R h4⟩
   ·exact go.elim
 ·exact go.elim
end
section
variable {X : Cx} {Wx : WX} {a b c e : Expr} {Fa Fb Fc F : M W} {pos : Pos}
theorem zaq (ha : IE X Wx a Fa) (hb : IE X Wx b Fb) (hs : PlainIx b := by intro _ _; rfl) : IE X Wx (.Subscript a b pos) (mBin ixW Fa Fb) := ie_ix ix_seq ok_ix ha hb hs
end
abbrev MO := M (Option Int)
def zca : MO := fun _ hp => .ok none hp
def ze8 (F : M W) : MO := fun eta hp => (F eta hp).bind fun a h1 => match a with | .t (.int i) => .ok (some i) h1 | _ => .bad
def IO (X : Cx) (Wx : WX) (e : Option Expr) (F : MO) : Prop := PO X e (tM X.K X.w Wx Ykh F)
def cutL {A : Type} (xs : List A) (lo hi : Option Int) : List A := (xs.drop (HT.sIx xs.length 0 lo)).take (HT.sIx xs.length xs.length hi - HT.sIx xs.length 0 lo)
/-- a slice: of a frozen list a frozen one, of a live list a frozen one -/
def slW (a : W) (lo hi : Option Int) (hp : IH) : Res W := match a with
 | .t (.str z) => if z.length ≤ 16777216 then .ok (.t (.str (cutS z lo hi))) hp else .bad
 | .t (.tup ts) => .ok (.t (.tup Yi7)) hp
 | .t (.lst ts) => .ok (.t (.lst Yi7)) hp
 | .t (.scr ts) => .ok (.t (.lst Yi7)) hp
 | .r i => (match (getL hp i).bind allT with | some ts => .ok (.t (.lst Yi7)) hp | none => .bad)
 | _ => .bad
def mSl (Fa : M W) (Fl Fh : MO) : M W := fun eta hp => (Fa eta hp).bind fun a h1 => (Fl eta h1).bind fun l h2 => (Fh eta h2).bind fun h h3 => slW a l h h3
section
variable {X : Cx} {Wx : WX} {a b c e : Expr} {lo hi : Option Expr} {Fa Fb Fc F : M W} {Fl Fh : MO} {pos p2 : Pos}
theorem PO.imp {e : Option Expr} {t t' : TO} (h : PO X e t) (i : ∀ σ H Q, t' σ H Q → t σ H Q) : PO X e t' := ⟨fun pins s σ H Q I hw => h.run pins s σ H Q I Yi5⟩
theorem zds : IO X Wx none zca := PO.imp po_none fun σ H Q h => by
 obtain ⟨s, eta, e1, R1, S1, g⟩ := h
 subst e1
 exact g none s rfl Yl R1 rfl
theorem zco (h : IE X Wx e F) : IO X Wx (some e) (ze8 F) := PO.imp (po_some h) fun σ H Q h =>
 tM.bind1 (R := fun (x : V) (H1 : Hp) => ∃ i, x = .int i ∧ Q (some i) H1) (k := fun (a : W) _ h1 => (match a with | .t (.int i) => .ok (some i) h1 | _ => .bad : Res (Option Int))) h fun s eta a b R1 _ f1 g => by
  split at g
  ·rename_i i
   simp only [Rw, Rf] at f1
   exact ⟨i, f1, g (some i) s rfl Yl R1 rfl⟩
  ·exact g.elim
theorem cut_rf {K : PySem.W.Frag} {s : S4} : ∀ {ts : List T} {vs : List V} (n m : Nat), RfL K s.fz s.H ts vs → RfL K s.fz s.H ((ts.drop n).take m) ((vs.drop n).take m) := by
 intro ts vs n
 induction n generalizing ts vs with
 | zero =>
  intro m
  induction m generalizing ts vs with
  | zero => intro _; simp [RfL]
  | succ m ih =>
   intro h
   cases ts with
   | nil => simp only [RfL] at h; subst h; simp [RfL]
   | cons t ts =>
    simp only [RfL] at h
    obtain ⟨v, r, e, a, b⟩ := h
    subst e
    simp only [List.drop_zero, List.take_succ_cons, RfL]
    exact ⟨v, _, rfl, a, by simpa using ih b⟩
 | succ n ih =>
  intro m h
  cases ts with
  | nil => simp only [RfL] at h; subst h; simp [RfL]
  | cons t ts =>
   simp only [RfL] at h
   obtain ⟨v, r, e, a, b⟩ := h
   subst e
   simpa using ih m b
theorem cutL_rf {K : PySem.W.Frag} {s : S4} {ts : List T} {vs : List V} (lo hi : Option Int) (h : RfL K s.fz s.H ts vs) : RfL K s.fz s.H Yi7 (cutV vs lo hi) := by
 unfold cutL cutV
 rw [RfL.length h]
 exact cut_rf _ _ h
theorem cutL_whole {A : Type} {ts : List A} {lo hi : Option Int} (h : HT.sIx ts.length 0 lo = 0 ∧ HT.sIx ts.length ts.length hi = ts.length) : cutL ts lo hi = ts := by
 unfold cutL
 rw [h.1, h.2]
 simp
theorem SlR.or3 {r1 r2 r3 : V → Option Int → Option Int → Hp → VK → Prop} (h1 : SlR X r1) (h2 : SlR X r2) (h3 : SlR X r3) : SlR X (fun x lo hi H Q => r1 x lo hi H Q ∨ (r2 x lo hi H Q ∨ r3 x lo hi H Q)) := h1.or (h2.or h3)
/-- t[lo:hi]: the whole of it is t itself; the object of a new one is known -/
def rSlB (K : PySem.W.Frag) : V → Option Int → Option Int → Hp → VK → Prop := fun x l u H Q => ∃ a xs, x = .ref a ∧ SqT K H a xs ∧
 (HT.sIx xs.length 0 l = 0 ∧ HT.sIx xs.length xs.length u = xs.length → Q (.ref a) H) ∧
 (¬ (HT.sIx xs.length 0 l = 0 ∧ HT.sIx xs.length xs.length u = xs.length) → ∀ (p : Addr) (o : Obj), H p = none → o.dict = none → Q (.ref p) (upd H p (.frz o (.tup (cutV xs l u)))))
theorem sl_tupB : SlR X (rSlB X.K) := by
 intro pn s0 σ H x v vl vu l u sl Q J rx hs pl pu h
 obtain ⟨a, xs, ex, hx, q1, q2⟩ := h
 subst ex
 cases rx
 obtain ⟨its, r, ht, hz⟩ := J.tuple hx
 have hlen : its.toArray.size = xs.length := by rw [List.size_toArray]; exact r.length.symm
 by_cases hw : HT.sIx xs.length 0 l = 0 ∧ HT.sIx xs.length xs.length u = xs.length
 ·exact ⟨"tuple", _, PyProof.Rows.slot_tuple_getitem.lookup, ht.typeIs, getItem_tuple_whole ht hs pl pu (by rw [hlen]; exact hw) ⟨.ref a, H, J, rfl, q1 hw⟩⟩
 ·refine ⟨"tuple", _, PyProof.Rows.slot_tuple_getitem.lookup, ht.typeIs, HT.getItem_tuple_cut ht hs pl pu (by rw [hlen]; exact hw) ?_ (by rw [hlen]; exact hz)⟩
  rw [hlen]
  exact laid_tup (t' := s0.toks) J ((r.drop (HT.sIx xs.length 0 l)).take (HT.sIx xs.length xs.length u - HT.sIx xs.length 0 l)) (Nat.le_trans (cutV_length xs l u) hz) (q2 hw)
theorem zb6 (ha : IE X Wx a Fa) (hl : IO X Wx lo Fl) (hh : IO X Wx hi Fh) : IE X Wx (.Subscript a (.Slice lo hi none p2) pos) (mSl Fa Fl Fh) :=
 PE.imp (pe_slice (SlR.or3 sl_list sl_tupB sl_str) ha hl hh) fun σ H Q h =>
  tM.bind1 (R := fun (x : V) (H1 : Hp) => tM X.K X.w Wx Ykh Fl σ H1 fun l H2 => tM X.K X.w Wx Ykh Fh σ H2 fun u H3 => rSlL X.K x l u H3 Q ∨ (rSlB X.K x l u H3 Q ∨ rSlS x l u H3 Q))
   (k := fun (w : W) eta h1 => (Fl eta h1).bind fun l h2 => (Fh eta h2).bind fun h h3 => slW w l h h3) h fun s eta w v R1 S1 f1 g => by
   refine ⟨s, eta, rfl, R1, S1, Go.bind g fun l l' s2 A2 R2 e2 _ g2 => ?_⟩
   subst e2
   refine ⟨s2, eta, rfl, R2, S1.aft A2 R1, Go.bind g2 fun u u' s3 A3 R3 e3 _ g3 => ?_⟩
   subst e3
   have f3 := (f1.aft A2 R1).aft A3 R2
   unfold slW at g3
   split at g3
   ·rename_i z
    split at g3
    ·rename_i hz
     simp only [Rw, Rf] at f3
     exact .inr (.inr ⟨z, f3, by rw [sizeLine_eq]; exact hz, g3 _ s3 rfl (Aft.refl s3) R3 Yk⟩)
    ·exact g3.elim
   ·rename_i ts
    obtain ⟨p, xs, e, t, q⟩ : ∃ a vs, v = .ref a ∧ FTup X.K s3.fz s3.H a vs ∧ RfL X.K s3.fz s3.H ts vs := by simpa only [Rw, Rf] using f3
    have hl := RfL.length q
    refine .inr (.inl ⟨p, xs, e, t.sq, fun hw => ?_, fun hw p' o np d => ?_⟩)
    ·refine g3 (.ref p) s3 rfl (Aft.refl s3) R3 ?_
     rw [← hl] at hw
     rw [cutL_whole hw]
     simp only [Rw, Rf]
     exact ⟨p, xs, rfl, t, q⟩
    ·exact g3 (.ref p') (s3.addF p' (.frz o (.tup (cutV xs l u)))) rfl (zbe R3 np) (zbl R3 np) (addF_tup R3 np d (cutL_rf l u q))
   ·rename_i ts
    obtain ⟨p, xs, e, t, q⟩ : ∃ a vs, v = .ref a ∧ FLst s3.fz s3.H a vs ∧ RfL X.K s3.fz s3.H ts vs := by simpa only [Rw, Rf] using f3
    exact .inl ⟨p, xs, e, t.sq, fun p' np => g3 (.ref p') Ykz rfl (zbe R3 np) (zbl R3 np) (zb7 R3 np (cutL_rf l u q))⟩
   ·rename_i ts
    obtain ⟨p, xs, e, t, q⟩ : ∃ a vs, v = .ref a ∧ FScr X.K s3.fz s3.H a vs ∧ RfL X.K s3.fz s3.H ts vs := by simpa only [Rw, Rf] using f3
    exact .inl ⟨p, xs, e, t.sq, fun p' np => g3 (.ref p') Ykz rfl (zbe R3 np) (zbl R3 np) (zb7 R3 np (cutL_rf l u q))⟩
   ·rename_i i
    split at g3
    ·rename_i ts hq
     rw [Option.bind_eq_some_iff] at hq
     obtain ⟨ws, h1, h2⟩ := hq
     obtain ⟨p, xs, e', _, e2, l', _⟩ := R3.lst h1 f3
     rw [zcw h2] at l'
     exact .inl ⟨p, xs, e', .inl (.inl e2), fun p' np => g3 (.ref p') Ykz rfl (zbe R3 np) (zbl R3 np) (zb7 R3 np (cutL_rf l u (RwL.of_trees.mp l')))⟩
    ·exact g3.elim
   ·exact g3.elim
end
end Mir
namespace Mir
open PySem PySem.Spec L2
open PyProof.Rows hiding St
def ze3 (hp : IH) : W → Option (List W)
 | .t (.lst xs) => some (xs.map W.t)
 | .t (.scr xs) => some (xs.map W.t)
 | .t _ => none
 | .r i => getL hp i
def asI : W → Option Int | .t (.int i) => some i | _ => none
def asBl : W → Option Bool | .t (.bl b) => some b | _ => none
def asS : W → Option Str | .t (.str b) => some b | _ => none
def allW {A : Type} (f : W → Option A) : List W → Option (List A)
 | [] => some []
 | w :: ws => (f w).bind fun a => (allW f ws).map fun r => a :: r
section
variable {K : PySem.W.Frag} {ω : World} {s : S4}
theorem ze2 (R : Rel K ω s) {w : W} {v : V} {ws : List W} (h : ze3 s.hp w = some ws) (r : Rw K s w v) : ∃ p xs, v = .ref p ∧ SqL K s.H p xs ∧ RwL K s ws xs := by
 unfold ze3 at h
 split at h
 ·simp only [Option.some.injEq] at h
  subst h
  obtain ⟨p, xs, e, t, q⟩ : ∃ a vs, v = .ref a ∧ FLst s.fz s.H a vs ∧ RfL K s.fz s.H _ vs := by simpa only [Rw, Rf] using r
  exact ⟨p, xs, e, t.sq, RwL.of_trees.mpr q⟩
 ·simp only [Option.some.injEq] at h
  subst h
  obtain ⟨p, xs, e, t, q⟩ : ∃ a vs, v = .ref a ∧ FScr K s.fz s.H a vs ∧ RfL K s.fz s.H _ vs := by simpa only [Rw, Rf] using r
  exact ⟨p, xs, e, t.sq, RwL.of_trees.mpr q⟩
 ·cases h
 ·obtain ⟨a, vs, e, _, e2, l, _⟩ := R.lst h r
  exact ⟨a, vs, e, .inl (.inl e2), l⟩
theorem allI_eq : ∀ {ws : List W} {ns : List Int} {vs : List V}, allW asI ws = some ns → RwL K s ws vs → vs = ns.map V.int
 | [], ns, vs, h, r => by
  simp only [allW, Option.some.injEq] at h
  subst h
  exact r
 | w :: ws, ns, vs, h, r => by
  simp only [allW, Option.bind_eq_some_iff, Option.map_eq_some_iff] at h
  obtain ⟨a, h1, m, h2, h3⟩ := h
  subst h3
  obtain ⟨v, t, e, rv, rt⟩ := r
  subst e
  rw [allI_eq h2 rt]
  unfold asI at h1
  split at h1
  ·simp only [Option.some.injEq] at h1
   subst h1
   simp only [Rw, Rf] at rv
   rw [rv]; rfl
  ·cases h1
theorem allB_eq : ∀ {ws : List W} {ns : List Bool} {vs : List V}, allW asBl ws = some ns → RwL K s ws vs → vs = ns.map V.bl
 | [], ns, vs, h, r => by
  simp only [allW, Option.some.injEq] at h
  subst h
  exact r
 | w :: ws, ns, vs, h, r => by
  simp only [allW, Option.bind_eq_some_iff, Option.map_eq_some_iff] at h
  obtain ⟨a, h1, m, h2, h3⟩ := h
  subst h3
  obtain ⟨v, t, e, rv, rt⟩ := r
  subst e
  rw [allB_eq h2 rt]
  unfold asBl at h1
  split at h1
  ·simp only [Option.some.injEq] at h1
   subst h1
   simp only [Rw, Rf] at rv
   rw [rv]; rfl
  ·cases h1
theorem allS_eq : ∀ {ws : List W} {ns : List Str} {vs : List V}, allW asS ws = some ns → RwL K s ws vs → vs = ns.map V.str
 | [], ns, vs, h, r => by
  simp only [allW, Option.some.injEq] at h
  subst h
  exact r
 | w :: ws, ns, vs, h, r => by
  simp only [allW, Option.bind_eq_some_iff, Option.map_eq_some_iff] at h
  obtain ⟨a, h1, m, h2, h3⟩ := h
  subst h3
  obtain ⟨v, t, e, rv, rt⟩ := r
  subst e
  rw [allS_eq h2 rt]
  unfold asS at h1
  split at h1
  ·simp only [Option.some.injEq] at h1
   subst h1
   simp only [Rw, Rf] at rv
   rw [rv]; rfl
  ·cases h1
theorem RwL.one {w : W} {vs : List V} (r : RwL K s [w] vs) : ∃ v, vs = [v] ∧ Rw K s w v := by
 obtain ⟨v, t, e, a, b⟩ := r
 rw [show t = [] from b] at e
 exact ⟨v, e, a⟩
theorem RwL.two {w u : W} {vs : List V} (r : RwL K s [w, u] vs) : ∃ v x, vs = [v, x] ∧ Rw K s w v ∧ Rw K s u x := by
 obtain ⟨v, t, e, a, b⟩ := r
 obtain ⟨x, e2, b2⟩ := RwL.one b
 exact ⟨v, x, by rw [e, e2], a, b2⟩
/-- ints, texts, as trees -/
theorem ints_rf {fz : Addr → Prop} {H : Hp} : ∀ ns : List Int, RfL K fz H Ybx Ye1
 | [] => by simp [RfL]
 | n :: ns => by simp only [List.map_cons, RfL]; exact ⟨_, _, rfl, by simp [Rf], ints_rf ns⟩
theorem strs_rf {fz : Addr → Prop} {H : Hp} : ∀ ns : List Str, RfL K fz H Yij (ns.map V.str)
 | [] => by simp [RfL]
 | n :: ns => by simp only [List.map_cons, RfL]; exact ⟨_, _, rfl, by simp [Rf], strs_rf ns⟩
end
def insI (x : Int) : List Int → List Int
 | [] => [x]
 | y :: ys => if x ≤ y then x :: y :: ys else y :: insI x ys
def srtI : List Int → List Int
 | [] => []
 | x :: xs => insI x (srtI xs)
theorem insI_perm (x : Int) : ∀ ys, (insI x ys).Perm (x :: ys)
 | [] => .refl _
 | y :: ys => by
  unfold insI
  split
  ·exact .refl _
  ·exact ((insI_perm x ys).cons y).trans (.swap x y ys)
theorem srtI_perm : ∀ xs, (srtI xs).Perm xs
 | [] => .refl _
 | x :: xs => (insI_perm x _).trans ((srtI_perm xs).cons x)
theorem insI_sorted (x : Int) : ∀ ys : List Int, ys.Pairwise (· ≤ ·) → (insI x ys).Pairwise (· ≤ ·)
 | [], _ => by simp [insI]
 | y :: ys, h => by
  unfold insI
  rw [List.pairwise_cons] at h
  split
  ·rename_i hxy
   refine List.pairwise_cons.mpr ⟨fun z hz => ?_, List.pairwise_cons.mpr h⟩
   rcases List.mem_cons.mp hz with hz | hz
   ·omega
   ·have := h.1 z hz; omega
  ·rename_i hxy
   refine List.pairwise_cons.mpr ⟨fun z hz => ?_, insI_sorted x ys h.2⟩
   rcases List.mem_cons.mp ((insI_perm x ys).mem_iff.mp hz) with hz | hz
   ·omega
   ·exact h.1 z hz
theorem srtI_sorted : ∀ xs, (srtI xs).Pairwise (· ≤ ·)
 | [] => .nil
 | x :: xs => insI_sorted x _ (srtI_sorted xs)
theorem srtI_unique {ns ns' : List Int} (p : ns'.Perm ns) (h : ns'.Pairwise (· ≤ ·)) : ns' = srtI ns :=
 (p.trans (srtI_perm ns).symm).eq_of_pairwise (fun a b _ _ h1 h2 => by omega) h (srtI_sorted ns)
/-- texts by order -/
def sle (a b : Str) : Bool := !ltCps b.cps.toList a.cps.toList
def insS (x : Str) : List Str → List Str
 | [] => [x]
 | y :: ys => if sle x y then x :: y :: ys else y :: insS x ys
def srtS : List Str → List Str
 | [] => []
 | x :: xs => insS x (srtS xs)
theorem ltCps_irr : ∀ a : List Nat, ltCps a a = false
 | [] => rfl
 | a :: r => by simp [ltCps, ltCps_irr r]
theorem ltCps_trans : ∀ a b c : List Nat, ltCps a b = true → ltCps b c = true → ltCps a c = true
 | [], [], _, h, _ => by simp [ltCps] at h
 | [], _ :: _, [], _, h => by simp [ltCps] at h
 | [], _ :: _, _ :: _, _, _ => rfl
 | _ :: _, [], _, h, _ => by simp [ltCps] at h
 | _ :: _, _ :: _, [], _, h => by simp [ltCps] at h
 | a :: r, b :: t, c :: u, h1, h2 => by
  simp only [ltCps, Bool.or_eq_true, Bool.and_eq_true, decide_eq_true_eq, beq_iff_eq] at h1 h2 ⊢
  rcases h1 with h1 | ⟨h1, h1'⟩ <;> rcases h2 with h2 | ⟨h2, h2'⟩
  ·left; omega
  ·left; omega
  ·left; omega
  ·right; exact ⟨by omega, ltCps_trans r t u h1' h2'⟩
theorem ltCps_tri : ∀ a b : List Nat, ltCps a b = false → ltCps b a = false → a = b
 | [], [], _, _ => rfl
 | [], _ :: _, h, _ => by simp [ltCps] at h
 | _ :: _, [], _, h => by simp [ltCps] at h
 | a :: r, b :: t, h1, h2 => by
  simp only [ltCps, Bool.or_eq_false_iff, decide_eq_false_iff_not, Bool.and_eq_false_iff, beq_eq_false_iff_ne] at h1 h2
  have e : a = b := by omega
  subst e
  rw [ltCps_tri r t (h1.2.resolve_left fun z => z rfl) (h2.2.resolve_left fun z => z rfl)]
theorem sle_total {a b : Str} (h : ¬ sle a b = true) : sle b a = true := by
 unfold sle at h ⊢
 simp only [Bool.not_eq_true', Bool.not_eq_false] at h ⊢
 cases q : ltCps a.cps.toList b.cps.toList with
 | false => rfl
 | true =>
  have z := ltCps_trans _ _ _ q h
  rw [ltCps_irr] at z
  cases z
theorem sle_trans {a b c : Str} (h1 : sle a b = true) (h2 : sle b c = true) : sle a c = true := by
 unfold sle at *
 simp only [Bool.not_eq_true'] at *
 cases q : ltCps c.cps.toList a.cps.toList with
 | false => rfl
 | true =>
  cases q2 : ltCps b.cps.toList c.cps.toList with
  | true => rw [ltCps_trans _ _ _ q2 q] at h1; cases h1
  | false => rw [ltCps_tri _ _ q2 h2, q] at h1; cases h1
theorem sle_anti {a b : Str} (h1 : sle a b = true) (h2 : sle b a = true) : a = b := by
 unfold sle at *
 simp only [Bool.not_eq_true'] at *
 have := ltCps_tri _ _ h2 h1
 cases a; cases b
 simp only [Str.mk.injEq] at *
 exact Array.toList_inj.mp this
theorem insS_perm (x : Str) : ∀ ys, (insS x ys).Perm (x :: ys)
 | [] => .refl _
 | y :: ys => by
  unfold insS
  split
  ·exact .refl _
  ·exact ((insS_perm x ys).cons y).trans (.swap x y ys)
theorem srtS_perm : ∀ xs, (srtS xs).Perm xs
 | [] => .refl _
 | x :: xs => (insS_perm x _).trans ((srtS_perm xs).cons x)
theorem insS_sorted (x : Str) : ∀ ys : List Str, ys.Pairwise Ygk → (insS x ys).Pairwise Ygk
 | [], _ => by simp [insS]
 | y :: ys, h => by
  unfold insS
  rw [List.pairwise_cons] at h
  split
  ·rename_i hxy
   refine List.pairwise_cons.mpr ⟨fun z hz => ?_, List.pairwise_cons.mpr h⟩
   rcases List.mem_cons.mp hz with hz | hz
   ·subst hz; exact hxy
   ·exact sle_trans hxy (h.1 z hz)
  ·rename_i hxy
   refine List.pairwise_cons.mpr ⟨fun z hz => ?_, insS_sorted x ys h.2⟩
   rcases List.mem_cons.mp ((insS_perm x ys).mem_iff.mp hz) with hz | hz
   ·subst hz; exact sle_total hxy
   ·exact h.1 z hz
theorem srtS_sorted : ∀ xs, (srtS xs).Pairwise Ygk
 | [] => .nil
 | x :: xs => insS_sorted x _ (srtS_sorted xs)
theorem risingS_le : ∀ (p : Str) (l : List Str), risingS p l = true → (p :: l).Pairwise Ygk
 | p, [], _ => by simp
 | p, x :: r, h => by
  simp only [risingS, Bool.and_eq_true] at h
  have ih := risingS_le x r h.2
  refine List.pairwise_cons.mpr ⟨fun z hz => ?_, ih⟩
  have hx : sle p x = true := h.1
  rcases List.mem_cons.mp hz with hz | hz
  ·subst hz; exact hx
  ·exact sle_trans hx ((List.pairwise_cons.mp ih).1 z hz)
theorem srtS_unique {ns ns' : List Str} (p : ns'.Perm ns) (h : sortedS ns' = true) : ns' = srtS ns := by
 have h' : ns'.Pairwise Ygk := by
  cases ns' with
  | nil => exact .nil
  | cons x r => exact risingS_le x r h
 exact (p.trans (srtS_perm ns).symm).eq_of_pairwise (fun a b _ _ h1 h2 => sle_anti h1 h2) h' (srtS_sorted ns)
def oLen : OpN := fun ws hp => match ws with
 | [.t (.str z)] => if z.length ≤ 16777216 then .ok (.t (.int z.length)) hp else .bad
 | [w] => (match items hp w with | some xs => .ok (.t (.int xs.length)) hp | none => .bad)
 | _ => .bad
def oInt : OpN := fun ws hp => match ws with
 | [.t (.int i)] => .ok Ybf hp
 | [.t (.bl b)] => .ok (.t (.int (if b then 1 else 0))) hp
 | _ => .bad
def oAbs : OpN := fun ws hp => match ws with
 | [.t (.int i)] => .ok (.t Ylg) hp
 | _ => .bad
def oMax2 : OpN := fun ws hp => match ws with
 | [.t (.int i), .t (.int j)] => .ok (.t (.int (if j > i then j else i))) hp
 | _ => .bad
def oMin2 : OpN := fun ws hp => match ws with
 | [.t (.int i), .t (.int j)] => .ok (.t (.int (if j < i then j else i))) hp
 | _ => .bad
def oOnL {A : Type} (f : W → Option A) (g : List A → IH → Res W) : OpN := fun ws hp => match ws with
 | [w] => (match (ze3 hp w).bind (allW f) with | some ns => g ns hp | none => .bad)
 | _ => .bad
abbrev oAny : OpN := oOnL asBl fun bs hp => .ok (.t (.bl (bs.any id))) hp
abbrev oAll : OpN := oOnL asBl fun bs hp => .ok (.t (.bl (bs.all id))) hp
abbrev oSortI : OpN := oOnL asI fun ns hp => .ok (.t (.lst ((srtI ns).map T.int))) hp
abbrev oSortS : OpN := oOnL asS fun ns hp => if ns.length < 64 then .ok (.t (.lst ((srtS ns).map T.str))) hp else .bad
def oListF : OpN := fun ws hp => match ws with
 | [w] => (match (items hp w).bind allT with | some ts => .ok Yas hp | none => .bad)
 | _ => .bad
def oListL : OpN := fun ws hp => match ws with
 | [w] => (match items hp w with | some xs => .ok Ydp (hp ++ [some Yib]) | none => .bad)
 | _ => .bad
def oTup : OpN := fun ws hp => match ws with
 | [.t (.tup ts)] => .ok Yaq hp
 | [w] => (match (ze3 hp w).bind allT with | some ts => .ok Yaq hp | none => .bad)
 | _ => .bad
def oStr : OpN := fun ws hp => match ws with
 | [.t (.str z)] => .ok (.t (.str z)) hp
 | [.t (.int i)] => if i.natAbs.log2 < 1920 then .ok (.t (.str (toString i))) hp else .bad
 | _ => .bad
section
variable {K : PySem.W.Frag} {ω : World} {Wx : WX}
theorem zb4 : zgb K ω Wx oLen (fun xs H Q => ∃ x n, xs = [x] ∧ LenV K x H n ∧ Q (.int n) H) := by
 intro s ws xs Q R r go
 unfold oLen at go
 split at go
 ·obtain ⟨v, e, rv⟩ := RwL.one r
  subst e
  simp only [Rw, Rf] at rv
  subst rv
  split at go
  ·rename_i hz
   exact ⟨_, _, rfl, ⟨by rw [sizeLine_eq]; exact hz, rfl⟩, go _ s rfl Yl R Yk⟩
  ·exact go.elim
 ·obtain ⟨v, e, rv⟩ := RwL.one r
  subst e
  split at go
  ·rename_i ys hi
   obtain ⟨p, zs, e, q, l⟩ := items_sq R hi rv
   subst e
   refine ⟨_, zs.length, rfl, ?_, by rw [← RwL.length l]; exact go _ s rfl Yl R Yk⟩
   rcases q with q | q
   ·exact .inr ⟨zs, q, rfl⟩
   ·exact .inl ⟨zs, q, rfl⟩
  ·exact go.elim
 ·exact go.elim
theorem ok_int : zgb K ω Wx oInt (fun xs H Q => (∃ i, xs = [.int i] ∧ Q (.int i) H) ∨ ∃ k, xs = [.bl k] ∧ Q (.int (if k then 1 else 0)) H) := by
 intro s ws xs Q R r go
 unfold oInt at go
 split at go
 ·obtain ⟨v, e, rv⟩ := RwL.one r
  simp only [Rw, Rf] at rv
  subst e rv
  exact .inl ⟨_, rfl, go _ s rfl Yl R Yk⟩
 ·obtain ⟨v, e, rv⟩ := RwL.one r
  simp only [Rw, Rf] at rv
  subst e rv
  exact .inr ⟨_, rfl, go _ s rfl Yl R Yk⟩
 ·exact go.elim
theorem ok_abs : zgb K ω Wx oAbs (fun xs H Q => ∃ i, xs = [.int i] ∧ Q Ylg H) := by
 intro s ws xs Q R r go
 unfold oAbs at go
 split at go
 ·obtain ⟨v, e, rv⟩ := RwL.one r
  simp only [Rw, Rf] at rv
  subst e rv
  exact ⟨_, rfl, go _ s rfl Yl R Yk⟩
 ·exact go.elim
theorem onL {A : Type} {f : W → Option A} {g : List A → IH → Res W} {s : S4} {ws : List W} {xs : List V} {Q : VK} (R : Rel K ω s) (r : RwL K s ws xs) (go : Go K ω Wx (Rw K) s (oOnL f g ws s.hp) Q) :
  ∃ p zs ys ns, xs = [V.ref p] ∧ SqL K s.H p zs ∧ RwL K s ys zs ∧ allW f ys = some ns ∧ Go K ω Wx (Rw K) s (g ns s.hp) Q := by
 unfold oOnL at go
 split at go
 ·obtain ⟨v, e, rv⟩ := RwL.one r
  split at go
  ·rename_i ns hn
   rw [Option.bind_eq_some_iff] at hn
   obtain ⟨ys, h1, h2⟩ := hn
   obtain ⟨p, zs, ev, q, l⟩ := ze2 R h1 rv
   subst e ev
   exact ⟨p, zs, ys, ns, rfl, q, l, h2, go⟩
  ·exact go.elim
 ·exact go.elim
theorem ok_any : zgb K ω Wx oAny (rAny K) := by
 intro s ws xs Q R r go
 obtain ⟨p, zs, ys, ns, e, q, l, h, go⟩ := onL R r go
 rw [allB_eq h l] at q
 exact ⟨p, ns, e, q, go _ s rfl Yl R Yk⟩
theorem ok_all : zgb K ω Wx oAll (rAll K) := by
 intro s ws xs Q R r go
 obtain ⟨p, zs, ys, ns, e, q, l, h, go⟩ := onL R r go
 rw [allB_eq h l] at q
 exact ⟨p, ns, e, q, go _ s rfl Yl R Yk⟩
theorem ok_sortI : zgb K ω Wx oSortI (rSortedI K) := by
 intro s ws xs Q R r go
 obtain ⟨p, zs, ys, ns, e, q, l, h, go⟩ := onL R r go
 rw [allI_eq h l] at q
 refine ⟨p, ns, e, q, fun ns' p' hp hs np => ?_⟩
 have := srtI_unique hp hs
 subst this
 exact go (.ref p') (s.addF p' (.lst ((srtI ns).map V.int))) rfl (zbe R np) (zbl R np) (zb7 R np (ints_rf _))
theorem ok_sortS : zgb K ω Wx oSortS (rSortedS K) := by
 intro s ws xs Q R r go
 obtain ⟨p, zs, ys, ns, e, q, l, h, go⟩ := onL R r go
 rw [allS_eq h l] at q
 split at go
 ·rename_i hn
  refine ⟨p, ns, e, q, hn, fun ns' p' hp hs np => ?_⟩
  have := srtS_unique hp hs
  subst this
  exact go (.ref p') (s.addF p' (.lst ((srtS ns).map V.str))) rfl (zbe R np) (zbl R np) (zb7 R np (strs_rf _))
 ·exact go.elim
end
/-- tuple(x), the object of a new one known -/
def rTupS (K : PySem.W.Frag) : List V → Hp → VK → Prop := fun xs H Q => ∃ p ys, xs = [.ref p] ∧ ((SqL K H p ys ∧ ∀ (q : Addr) (o : Obj), H q = none → o.dict = none → Q (.ref q) (upd H q (.frz o (.tup ys)))) ∨ (SqT K H p ys ∧ Q (.ref p) H))
theorem zbr {X : Cx} : CallR X Yhs (rTupS X.K) := by
 intro pn s0 σ H xs us Q J r h
 obtain ⟨p, ys, rfl, h⟩ := h
 obtain ⟨u, rfl, rx⟩ := vals1 r
 cases rx
 rcases h with ⟨hq, q⟩ | ⟨hq, q⟩
 ·obtain ⟨its, rv, pl, hz⟩ := J.list hq
  refine call_tuple_list pl.isList (fun h' kp => ?_) (by rw [List.size_toArray, ← rv.length]; exact hz)
  exact laid_tup (s := { s0 with heap := h' }) (t' := s0.toks) (J.kept (t' := s0.toks) kp) rv hz q
 ·obtain ⟨its, rv, pl, hz⟩ := J.tuple hq
  exact call_tuple_same pl ⟨.ref p, H, J, rfl, q⟩
section
variable {K : PySem.W.Frag} {ω : World} {Wx : WX}
theorem zeg : zgb K ω Wx oTup (rTupS K) := by
 intro s ws xs Q R r go
 unfold oTup at go
 split at go
 ·obtain ⟨v, e, rv⟩ := RwL.one r
  subst e
  have rv' := rv
  obtain ⟨a, vs, ev, t, l⟩ : ∃ a vs, v = .ref a ∧ FTup K s.fz s.H a vs ∧ RfL K s.fz s.H _ vs := by simpa only [Rw, Rf] using rv
  subst ev
  exact ⟨a, vs, rfl, .inr ⟨t.sq, go _ s rfl Yl R rv'⟩⟩
 ·obtain ⟨v, e, rv⟩ := RwL.one r
  split at go
  ·rename_i ts ht
   rw [Option.bind_eq_some_iff] at ht
   obtain ⟨ys, h1, h2⟩ := ht
   obtain ⟨p, zs, ev, q, l⟩ := ze2 R h1 rv
   subst e ev
   rw [zcw h2] at l
   exact ⟨p, zs, rfl, .inl ⟨q, fun p' o np d => go (.ref p') (s.addF p' (.frz o (.tup zs))) rfl (zbe R np) (zbl R np) (addF_tup R np d Ygh)⟩⟩
  ·exact go.elim
 ·exact go.elim
theorem call_strS {X : Cx} : CallR X Yjh Ydy := CallR.or SkE.call_str_str call_str_int
theorem ok_str : zgb K ω Wx oStr Ydy := by
 intro s ws xs Q R r go
 unfold oStr at go
 split at go
 ·obtain ⟨v, e, rv⟩ := RwL.one r
  simp only [Rw, Rf] at rv
  subst e rv
  exact .inl ⟨_, rfl, go _ s rfl Yl R Yk⟩
 ·obtain ⟨v, e, rv⟩ := RwL.one r
  simp only [Rw, Rf] at rv
  subst e rv
  split at go
  ·rename_i hz
   exact .inr ⟨_, rfl, hz, go _ s rfl Yl R Yk⟩
  ·exact go.elim
 ·exact go.elim
end
section
variable {X : Cx} {Wx : WX} {e : Expr} {es : List Expr} {Fs : M (List W)} {pos p : Pos} {x : Str} {id Ty : String} {f : OpN} {r : List V → Hp → VK → Prop}
theorem t_app (hf : zgb X.K X.w Wx f r) : ∀ σ H Q, tE X.K X.w Wx (mApp f Fs) σ H Q → tCB r (tA X.K X.w Wx Fs) σ H Q := fun σ H Q h =>
 tM.bind1 (R := fun (xs : List V) (H1 : Hp) => r xs H1 Q) (k := fun (a : List W) _ hp => f a hp) h fun s eta a b R1 _ f1 g => hf s a b Q R1 f1 g
theorem zbg (hc : CallR X (.builtin id) r) (hf : zgb X.K X.w Wx f r) (ha : IA X Wx Yam Fs) (hm : X.mg x = none) (hg : Gl X x := by rfl) (hv : bootBuiltins x = some (.builtin id) := by with_unfolding_all rfl) (hn : x ≠ "__name__" := by decide) (hdb : (x == ("__debug__" : Str)) = false := by decide)
  (he : starEach Yam X.env = (false, eval e X.env) :: starEach es X.env := by rfl) (hpl : (backTo pos Ybi).any (·.1) = false := by rfl) : IE X Wx Yc2 (mApp f Fs) :=
 PE.imp (pe_callB hc hg hm hv ha hn hdb he hpl) (t_app hf)
theorem zdw (hc : CallR X (.type Ty) r) (hf : zgb X.K X.w Wx f r) (ha : IA X Wx Yam Fs) (hm : X.mg x = none) (hg : Gl X x := by rfl) (hv : bootBuiltins x = some (.type Ty) := by with_unfolding_all rfl) (hn : x ≠ "__name__" := by decide) (hdb : (x == ("__debug__" : Str)) = false := by decide)
  (he : starEach Yam X.env = (false, eval e X.env) :: starEach es X.env := by rfl) (hpl : (backTo pos Ybi).any (·.1) = false := by rfl) : IE X Wx Yc2 (mApp f Fs) :=
 PE.imp (pe_callTy hc hg hm hv ha hn hdb he hpl) (t_app hf)
end
end Mir
namespace Mir
open PySem PySem.Spec L2
open PyProof.Rows hiding St
abbrev OpM := W → List W → IH → Res W
def OpMOk (K : PySem.W.Frag) (ω : World) (Wx : WX) (f : OpM) (r : V → List V → Hp → VK → Prop) : Prop :=
 ∀ (s : S4) (w : W) (ws : List W) (x : V) (xs : List V) (Q : VK), Rel K ω s → Rw K s w x → RwL K s ws xs → Go K ω Wx (Rw K) s (f w ws s.hp) Q → r x xs s.H Q
def mMeth0 (ty : W → IH → Bool) (f : OpM) (Fo : M W) : M W := fun eta hp => (Fo eta hp).bind fun w h1 => if ty w h1 = true then f w [] h1 else .bad
def mMeth (ty : W → IH → Bool) (f : OpM) (Fo : M W) (Fa : M (List W)) : M W := fun eta hp => (Fo eta hp).bind fun w h1 => if ty w h1 = true then (Fa eta h1).bind fun ws h2 => f w ws h2 else .bad
def isL (w : W) (hp : IH) : Bool := (ze3 hp w).isSome
def isTp (w : W) (hp : IH) : Bool := match w with | .t (.tup _) => true | _ => false
section
variable {X : Cx} {Wx : WX} {o e : Expr} {es : List Expr} {Fo : M W} {Fs : M (List W)} {name : Str} {apos cpos : Pos} {id : String} {f : OpM} {r : V → List V → Hp → VK → Prop}
theorem isL_ty {K : PySem.W.Frag} {ω : World} {s : S4} {w : W} {v : V} (R : Rel K ω s) (r : Rw K s w v) (h : isL w s.hp = true) : tyV K "list" v s.H := by
 unfold isL at h
 obtain ⟨ws, hw⟩ := Option.isSome_iff_exists.mp h
 obtain ⟨p, xs, e, q, _⟩ := ze2 R hw r
 subst e
 exact .inl ⟨rfl, xs, q⟩
theorem ie_lm0 (slot : Slot "list" name id) (hty : typeOf (.builtin id) = pure (.type "method_descriptor")) (hm : MtR X id r) (hf : OpMOk X.K X.w Wx f r) (ho : IE X Wx o Fo)
  (hbase : attributeBase o name X.env Yhc = eval o X.env := by rfl) (hline : (apos.endLine == cpos.line) = true := by rfl) : IE X Wx (.Call (.Attribute o name apos) [] [] cpos) (mMeth0 isL f Fo) :=
 PE.imp (pe_bm0 F.plainAttrs_list slot hty hm ho hbase hline) fun σ H Q h =>
  tM.bind1 (R := fun (x : V) (H1 : Hp) => tyV X.K "list" x H1 ∧ r x [] H1 Q) (k := fun (w : W) _ h1 => if isL w h1 = true then f w [] h1 else .bad) h fun s eta a b R1 _ f1 g => by
   split at g
   ·rename_i ht
    exact ⟨isL_ty R1 f1 ht, hf s a [] b [] Q R1 f1 rfl g⟩
   ·exact g.elim
theorem ie_lm (slot : Slot "list" name id) (hty : typeOf (.builtin id) = pure (.type "method_descriptor")) (hm : MtR X id r) (hf : OpMOk X.K X.w Wx f r) (ho : IE X Wx o Fo) (ha : IA X Wx Yam Fs)
  (hbase : attributeBase o name X.env Yhc = eval o X.env := by rfl)
  (hfew : ((backTo cpos Yjr).all (fun x => !x.1) && (backToKw cpos Yep).all (fun x => x.1.isSome) && decide ((e :: es).length + ([] : List Keyword).length + (if ([] : List Keyword).isEmpty then 0 else 1) < 30)) = true := by rfl)
  (hline : (apos.endLine == cpos.line) = true := by rfl) (hs : starEach Yam X.env = (false, eval e X.env) :: starEach es X.env := by rfl) (hp : (backTo cpos Ybi).any (·.1) = false := by rfl) :
  IE X Wx (.Call (.Attribute o name apos) Yam [] cpos) (mMeth isL f Fo Fs) :=
 PE.imp (pe_bm F.plainAttrs_list slot hty hm ho ha hbase hfew hline hs hp) fun σ H Q h =>
  tM.bind1 (R := fun (x : V) (H1 : Hp) => tyV X.K "list" x H1 ∧ tA X.K X.w Wx Fs σ H1 fun xs H2 => r x xs H2 Q) (k := fun (w : W) eta h1 => if isL w h1 = true then (Fs eta h1).bind fun ws h2 => f w ws h2 else .bad) h fun s eta a b R1 S1 f1 g => by
   split at g
   ·rename_i ht
    exact ⟨isL_ty R1 f1 ht, s, eta, rfl, R1, S1, Go.bind g fun ws xs s' A' R' r' _ g' => hf s' a ws b xs Q R' (f1.aft A' R1) r' g'⟩
   ·exact g.elim
end
def zec : OpM := fun w ws hp => match w, ws with
 | .r i, [x] => (match getL hp i with | some xs => if xs.length < 16777216 then .ok Ya0 (hp.set i (some (.lst (xs ++ [x])))) else .bad | none => .bad)
 | _, _ => .bad
/-- what is a list of its own in the heap -/
def hitems (hp : IH) : W → Option (List W)
 | .t (.lst xs) => some (xs.map W.t)
 | .t _ => none
 | .r i => getL hp i
def oPop : OpM := fun w ws hp => match w, ws with
 | .r i, [] => (match getL hp i with | some xs => (match xs[xs.length - 1]? with | some y => .ok y (hp.set i (some (.lst xs.dropLast))) | none => .bad) | none => .bad)
 | _, _ => .bad
def oIndexS : OpM := fun w ws hp => match ws with
 | [.t (.str z)] => (match (ze3 hp w).bind (allW asS) with | some ns => if z ∈ ns then .ok (.t (.int (ns.idxOf z : Nat))) hp else .bad | none => .bad)
 | _ => .bad
theorem idx_first {z : Str} : ∀ {ns : List Str}, z ∈ ns → ns[ns.idxOf z]? = some z ∧ ∀ m, m < ns.idxOf z → ns[m]? ≠ some z
 | [], h => by cases h
 | n :: ns, h => by
  by_cases e : n = z
  ·subst e
   rw [List.idxOf_cons_self]
   exact ⟨rfl, fun m hm => absurd hm (Nat.not_lt_zero _)⟩
  ·have hz : z ∈ ns := by
    rcases List.mem_cons.mp h with h | h
    ·exact absurd h.symm e
    ·exact h
   obtain ⟨h1, h2⟩ := idx_first hz
   have e0 : (n == z) = false := by simpa using e
   have e2 : (n :: ns).idxOf z = ns.idxOf z + 1 := by simp [List.idxOf_cons, e0]
   rw [e2]
   refine ⟨by simpa using h1, fun m hm => ?_⟩
   cases m with
   | zero => simpa using e
   | succ m => simpa using h2 m Yf
section
variable {K : PySem.W.Frag} {ω : World} {Wx : WX}
theorem RwL.dropLast {s : S4} : ∀ {ws : List W} {vs : List V}, RwL K s ws vs → RwL K s ws.dropLast vs.dropLast
 | [], _, h => by rw [show _ = [] from h]; rfl
 | [x], _, h => by
  obtain ⟨v, r, e, a, b⟩ := h
  rw [show r = [] from b] at e
  subst e
  rfl
 | x :: y :: ws, _, h => by
  obtain ⟨v, r, e, a, b⟩ := h
  subst e
  have b' := b
  obtain ⟨v2, r2, e2, a2, b2⟩ := b'
  subst e2
  exact ⟨v, _, rfl, a, RwL.dropLast b⟩
theorem RwL.setL {s : S4} : ∀ {ws : List W} {vs : List V} (j : Nat) {w : W} {v : V}, RwL K s ws vs → Rw K s w v → RwL K s (ws.set j w) (vs.set j v)
 | [], _, _, _, _, h, _ => by rw [show _ = [] from h]; rfl
 | x :: ws, _, 0, w, v, h, r => by
  obtain ⟨u, t, e, a, b⟩ := h
  subst e
  exact ⟨v, t, rfl, r, b⟩
 | x :: ws, _, j + 1, w, v, h, r => by
  obtain ⟨u, t, e, a, b⟩ := h
  subst e
  exact ⟨u, _, rfl, a, RwL.setL j b r⟩
/-- the items are set anew -/
theorem go_set {s : S4} {i : Nat} {a : Addr} {xs ys : List W} {us : List V} {w : W} {v : V} {Q : VK} (R : Rel K ω s) (h0 : getL s.hp i = some xs) (ha : s.rho[i]? = some a) (l : RwL K s ys us) (rv : Rw K s w v)
  (g : Go K ω Wx (Rw K) s (.ok w (s.hp.set i (some (.lst ys)))) Q) : Q v (upd s.H a (.lst us)) := by
 have A := zgc R (zc5 h0) ha (c := .lst ys) (o := .lst us)
 exact g v (s.setL i a (.lst ys) (.lst us)) rfl A (rel_setL R (zc5 h0) ha ⟨us, rfl, l⟩) (rv.aft A R)
theorem ok_append : OpMOk K ω Wx zec rAppend := by
 intro s w ws x xs Q R rx rxs go
 unfold zec at go
 split at go
 ·rename_i i y
  obtain ⟨u, e, ru⟩ := RwL.one rxs
  subst e
  split at go
  ·rename_i zs hz
   split at go
   ·rename_i hn
    obtain ⟨a, vs, ex, e1, e2, l, _⟩ := R.lst hz rx
    exact ⟨a, vs, u, ex, rfl, e2, by rw [← RwL.length l, sizeLine_eq]; exact hn, go_set R hz e1 (RwL.append l (show RwL K s [_] [u] from ⟨u, [], rfl, ru, rfl⟩)) Yk go⟩
   ·exact go.elim
  ·exact go.elim
 ·exact go.elim
theorem hitems_eq {s : S4} (R : Rel K ω s) {w : W} {v : V} {ws : List W} (h : hitems s.hp w = some ws) (r : Rw K s w v) : ∃ p xs, v = .ref p ∧ s.H p = some Yib ∧ RwL K s ws xs := by
 unfold hitems at h
 split at h
 ·simp only [Option.some.injEq] at h
  subst h
  obtain ⟨p, xs, e, t, q⟩ : ∃ a vs, v = .ref a ∧ FLst s.fz s.H a vs ∧ RfL K s.fz s.H _ vs := by simpa only [Rw, Rf] using r
  exact ⟨p, xs, e, t.2, RwL.of_trees.mpr q⟩
 ·cases h
 ·obtain ⟨a, vs, e, _, e2, l, _⟩ := R.lst h r
  exact ⟨a, vs, e, e2, l⟩
theorem ok_pop : OpMOk K ω Wx oPop rPop := by
 intro s w ws x xs Q R rx rxs go
 unfold oPop at go
 split at go
 ·rename_i i
  have e : xs = [] := rxs
  subst e
  split at go
  ·rename_i zs hz
   split at go
   ·rename_i y hy
    obtain ⟨a, vs, ex, e1, e2, l, _⟩ := R.lst hz rx
    obtain ⟨u, hu, ru⟩ := RwL.get l hy
    exact ⟨a, vs, u, ex, rfl, e2, by rw [← RwL.length l]; exact hu, go_set R hz e1 (RwL.dropLast l) ru go⟩
   ·exact go.elim
  ·exact go.elim
 ·exact go.elim
theorem ok_indexS : OpMOk K ω Wx oIndexS (rIndex K) := by
 intro s w ws x xs Q R rx rxs go
 unfold oIndexS at go
 split at go
 ·rename_i z
  obtain ⟨u, e, ru⟩ := RwL.one rxs
  simp only [Rw, Rf] at ru
  subst e ru
  split at go
  ·rename_i ns hn
   rw [Option.bind_eq_some_iff] at hn
   obtain ⟨ys, h1, h2⟩ := hn
   split at go
   ·rename_i hm
    obtain ⟨p, zs, ex, q, l⟩ := ze2 R h1 rx
    have ez := allS_eq h2 l
    subst ex ez
    obtain ⟨i1, i2⟩ := idx_first hm
    refine ⟨p, _, _, ns.idxOf z, .str z, rfl, rfl, q, rfl, flat_strs ns, by rw [List.getElem?_map, i1]; rfl, by simp [eqV], fun m z' hm' hz' => ?_, go _ s rfl Yl R Yk⟩
    rw [List.getElem?_map, Option.map_eq_some_iff] at hz'
    obtain ⟨y, hy, ey⟩ := hz'
    subst ey
    have : y ≠ z := fun e => i2 m hm' (by rw [hy, e])
    simpa [eqV] using this
   ·exact go.elim
  ·exact go.elim
 ·exact go.elim
end
section
variable {X : Cx} {Wx : WX} {o e : Expr} {Fo : M W} {Fs : M (List W)} {apos cpos : Pos}
theorem ie_append (ho : IE X Wx o Fo) (ha : IA X Wx [e] Fs) (hb : attributeBase o "append" X.env Yhc = eval o X.env := by rfl)
  (hfew : ((backTo cpos (starEach [e] X.env)).all (fun x => !x.1) && (backToKw cpos Yep).all (fun x => x.1.isSome) && decide ([e].length + ([] : List Keyword).length + (if ([] : List Keyword).isEmpty then 0 else 1) < 30)) = true := by rfl)
  (hline : (apos.endLine == cpos.line) = true := by rfl) (hs : starEach [e] X.env = (false, eval e X.env) :: starEach [] X.env := by rfl) : IE X Wx (.Call (.Attribute o "append" apos) [e] [] cpos) (mMeth isL zec Fo Fs) :=
 ie_lm F.slot_list_append F.type_list_append mt_append ok_append ho ha hb hfew hline hs rfl
theorem ie_pop (ho : IE X Wx o Fo) (hb : attributeBase o "pop" X.env Yhc = eval o X.env := by rfl) (hline : (apos.endLine == cpos.line) = true := by rfl) :
  IE X Wx (.Call (.Attribute o "pop" apos) [] [] cpos) (mMeth0 isL oPop Fo) := ie_lm0 F.slot_list_pop F.type_list_pop mt_pop ok_pop ho hb hline
theorem ie_index (ho : IE X Wx o Fo) (ha : IA X Wx [e] Fs) (hb : attributeBase o "index" X.env Yhc = eval o X.env := by rfl)
  (hfew : ((backTo cpos (starEach [e] X.env)).all (fun x => !x.1) && (backToKw cpos Yep).all (fun x => x.1.isSome) && decide ([e].length + ([] : List Keyword).length + (if ([] : List Keyword).isEmpty then 0 else 1) < 30)) = true := by rfl)
  (hline : (apos.endLine == cpos.line) = true := by rfl) (hs : starEach [e] X.env = (false, eval e X.env) :: starEach [] X.env := by rfl) : IE X Wx (.Call (.Attribute o "index" apos) [e] [] cpos) (mMeth isL oIndexS Fo Fs) :=
 ie_lm F.slot_list_index F.type_list_index mt_index ok_indexS ho ha hb hfew hline hs rfl
end
end Mir
namespace Mir
open PySem PySem.Spec L2
open PyProof.Rows hiding St
def asK : W → Option Key | .t (.int i) => some (.inl i) | .t (.str x) => some (.inr x) | _ => none
def getD (hp : IH) (i : Nat) : Option (List Yfg) := match hp[i]? with
 | some (some (.dic kvs)) => some kvs
 | _ => none
def valW (kvs : List Yfg) (k : Key) : Option W := (kvs.find? fun kv => decide (kv.1 = k)).map (·.2)
def putW (kvs : List Yfg) (k : Key) (w : W) : List Yfg :=
 if (kvs.any fun kv => decide (kv.1 = k)) = true then kvs.map (fun kv => if kv.1 = k then (kv.1, w) else kv) else kvs ++ [(k, w)]
def zf0 (kvs more : List Yfg) : List Yfg := more.foldl (fun acc kv => putW acc kv.1 kv.2) kvs
section
variable {K : PySem.W.Frag} {ω : World} {s : S4}
theorem zfl {hp : IH} {i : Nat} {ws : List Yfg} (h : getD hp i = some ws) : hp[i]? = some (some (.dic ws)) := by
 unfold getD at h
 split at h
 ·rename_i kvs e
  simp only [Option.some.injEq] at h
  rw [e, h]
 ·cases h
theorem asK_eq {w : W} {v : V} {k : Key} (h : asK w = some k) (r : Rw K s w v) : v = kV k := by
 unfold asK at h
 split at h
 ·simp only [Option.some.injEq] at h
  subst h
  show v = V.int _
  simpa only [Rw, Rf] using r
 ·simp only [Option.some.injEq] at h
  subst h
  show v = V.str _
  simpa only [Rw, Rf] using r
 ·cases h
theorem Rel.dic (R : Rel K ω s) {i : Nat} {v : V} {ws : List Yfg} (g : getD s.hp i = some ws) (r : Rw K s (.r i) v) : ∃ a vs, v = .ref a ∧ s.rho[i]? = some a ∧ s.H a = some (.dK vs) ∧ RwK K s ws vs ∧ ¬ s.fz a := by
 obtain ⟨a, e1, e2⟩ := r
 obtain ⟨vs, h1, h2⟩ := R.cell i _ a (zfl g) e1
 exact ⟨a, vs, e2, e1, h1, h2, R.fz a ⟨i, _, ⟨zfl g, True.intro⟩, e1⟩⟩
theorem RwK.val (k : Key) : ∀ {ws : List (Key × W)} {vs : List (Key × V)} {w : W}, RwK K s ws vs → valW ws k = some w → ∃ v, valV vs k = some v ∧ Rw K s w v
 | [], _, _, _, h => by simp [valW] at h
 | x :: ws, _, w, r, h => by
  obtain ⟨v, t, e, a, b⟩ := r
  subst e
  by_cases q : x.1 = k
  ·refine ⟨v, valV_pos (p := (x.1, v)) q, ?_⟩
   have : x.2 = w := by simpa [valW, List.find?_cons, q] using h
   rw [← this]; exact a
  ·have h' : valW ws k = some w := by simpa [valW, List.find?_cons, q] using h
   obtain ⟨u, h1, h2⟩ := RwK.val k b h'
   exact ⟨u, by rw [valV_neg (p := (x.1, v)) q]; exact h1, h2⟩
theorem RwK.none (k : Key) : ∀ {ws : List (Key × W)} {vs : List (Key × V)}, RwK K s ws vs → valW ws k = none → valV vs k = none
 | [], _, r, _ => by rw [show _ = [] from r]; rfl
 | x :: ws, _, r, h => by
  obtain ⟨v, t, e, a, b⟩ := r
  subst e
  by_cases q : x.1 = k
  ·simp [valW, List.find?_cons, q] at h
  ·have h' : valW ws k = Option.none := by simpa [valW, List.find?_cons, q] using h
   rw [valV_neg (p := (x.1, v)) q]
   exact RwK.none k b h'
theorem RwK.any (k : Key) : ∀ {ws : List (Key × W)} {vs : List (Key × V)}, RwK K s ws vs → (vs.any fun kv => decide (kv.1 = k)) = ws.any fun kv => decide (kv.1 = k)
 | [], _, r => by rw [show _ = [] from r]; rfl
 | x :: ws, _, r => by
  obtain ⟨v, t, e, a, b⟩ := r
  subst e
  rw [List.any_cons, List.any_cons, RwK.any k b]
theorem RwK.repl (k : Key) {w : W} {v : V} (rv : Rw K s w v) : ∀ {ws : List (Key × W)} {vs : List (Key × V)}, RwK K s ws vs → RwK K s (ws.map fun kv => if kv.1 = k then (kv.1, w) else kv) (vs.map fun kv => if kv.1 = k then (kv.1, v) else kv)
 | [], _, r => by rw [show _ = [] from r]; rfl
 | x :: ws, _, r => by
  obtain ⟨u, t, e, a, b⟩ := r
  subst e
  rw [List.map_cons, List.map_cons]
  by_cases q : x.1 = k
  ·rw [if_pos q, if_pos q]
   exact ⟨v, _, rfl, rv, RwK.repl k rv b⟩
  ·rw [if_neg q, if_neg q]
   exact ⟨u, _, rfl, a, RwK.repl k rv b⟩
theorem RwK.snoc {k : Key} {w : W} {v : V} (rv : Rw K s w v) : ∀ {ws : List (Key × W)} {vs : List (Key × V)}, RwK K s ws vs → RwK K s (ws ++ [(k, w)]) (vs ++ [(k, v)])
 | [], _, r => by rw [show _ = [] from r]; exact ⟨v, [], rfl, rv, rfl⟩
 | x :: ws, _, r => by
  obtain ⟨u, t, e, a, b⟩ := r
  subst e
  exact ⟨u, _, rfl, a, RwK.snoc rv b⟩
theorem RwK.put (k : Key) {w : W} {v : V} (rv : Rw K s w v) {ws : List Yfg} {vs : List (Key × V)} (r : RwK K s ws vs) : RwK K s (putW ws k w) (putK vs k v) := by
 unfold putW putK
 rw [r.any k]
 split
 ·exact r.repl k rv
 ·exact r.snoc rv
theorem RwK.merge : ∀ {more : List (Key × W)} {mv : List (Key × V)} {ws : List (Key × W)} {vs : List (Key × V)}, RwK K s more mv → RwK K s ws vs → RwK K s (zf0 ws more) (mergeK vs mv)
 | [], _, ws, vs, h, r => by rw [show _ = [] from h]; exact r
 | x :: more, _, ws, vs, h, r => by
  obtain ⟨u, t, e, a, b⟩ := h
  subst e
  exact RwK.merge (ws := putW ws x.1 x.2) (vs := putK vs x.1 u) b (r.put x.1 a)
theorem RwK.length : ∀ {ws : List (Key × W)} {vs : List (Key × V)}, RwK K s ws vs → ws.length = vs.length
 | [], _, r => by rw [show _ = [] from r]; rfl
 | x :: ws, _, r => by
  obtain ⟨u, t, e, a, b⟩ := r
  subst e
  rw [List.length_cons, List.length_cons, RwK.length b]
end
/-- d[k] -/
def dGet : Op2 := fun a b hp => match a, asK b with
 | .r i, some k => (match (getD hp i).bind fun kvs => valW kvs k with | some w => .ok w hp | none => .bad)
 | _, _ => .bad
/-- d[k] = v: the value, the dict, the key -/
def mDPut (Fd Fk Fv : M W) : M Fl := fun eta hp => (Fv eta hp).bind fun v h1 => (Fd eta h1).bind fun d h2 => (Fk eta h2).bind fun k h3 => match d, asK k with
 | .r i, some k => (match getD h3 i with | some kvs => if kvs.length < 16777216 then .ok Yhm Yi8 else .bad | none => .bad)
 | _, _ => .bad
def mVals : List (Key × M W) → M (List Yfg)
 | [] => fun _ hp => .ok [] hp
 | (k, F) :: r => fun eta hp => (F eta hp).bind fun w h1 => (mVals r eta h1).bind fun ws h2 => .ok ((k, w) :: ws) h2
def mDisp (ps : List (Key × M W)) : M W := fun eta hp => (mVals ps eta (hp ++ [some (.dic [])])).bind fun kvs h1 => match getD h1 hp.length with
 | some [] => if kvs.length ≤ 15 then .ok Ydp (h1.set hp.length (some (.dic (zf0 [] kvs)))) else .bad
 | _ => .bad
section
variable {X : Cx} {Wx : WX} {o e i value : Expr} {Fo Fi Fv F : M W} {pos pos' : Pos}
theorem ie_dget (hu : X.A.units + 64 < cLine) (ho : IE X Wx o Fo) (hi : IE X Wx i Fi) (hs : NoSl i := by intro _ _; rfl) : IE X Wx (.Subscript o i pos) (mBin dGet Fo Fi) :=
 PE.imp (pe_dget Yf ho hi hs) fun σ H Q h =>
  tM.bind2 (Fam' := Rw X.K) (R := fun (x y : V) (H2 : Hp) => ∃ a v, x = .ref a ∧ DGet H2 a y (some v) ∧ Q v H2) (k := fun (a b : W) _ hp => dGet a b hp) Rw.keep h fun s eta a b a' b' R1 S1 f1 f2 g => by
   unfold dGet at g
   split at g
   ·rename_i i k hk
    split at g
    ·rename_i w hw
     rw [Option.bind_eq_some_iff] at hw
     obtain ⟨kvs, h1, h2⟩ := hw
     obtain ⟨a, vs, e, _, e2, l, _⟩ := R1.dic h1 f1
     obtain ⟨v, h3, h4⟩ := l.val k h2
     refine ⟨a, v, e, ?_, g v s rfl Yl R1 h4⟩
     rw [asK_eq hk f2, ← h3]
     exact DGet.k e2
    ·exact g.elim
   ·exact g.elim
theorem st_dput (hu : X.A.units + 64 < cLine) (ho : IE X Wx o Fo) (hi : IE X Wx i Fi) (hv : IE X Wx value Fv) (hs : swapsWith value (some (.Subscript o i pos')) pos.line X.env = pure false := by rfl) :
  ISt X Wx (.Assign [.Subscript o i pos'] value pos) (mDPut Fo Fi Fv) := PS.imp (ps_dput Yf ho hi hv hs) fun D σ H h =>
 tM.bind1 (R := fun v H1 => tE X.K X.w Wx Fo σ H1 fun x H2 => tE X.K X.w Wx Fi σ H2 fun y H3 => ∃ a H4, x = .ref a ∧ DPut H3 a y v H4 ∧ D.nx σ H4)
  (k := fun v eta h1 => (Fo eta h1).bind fun d h2 => (Fi eta h2).bind fun k h3 => (match d, asK k with
   | .r i, some k => (match getD h3 i with | some kvs => if kvs.length < 16777216 then .ok (Fl.nx eta) Yi8 else .bad | none => .bad)
   | _, _ => .bad : Res Fl)) h fun s eta a b R1 S1 f1 g1 => by
  refine ⟨s, eta, rfl, R1, S1, Go.bind g1 fun d d' s2 A2 R2 r2 _ g2 => ?_⟩
  refine ⟨s2, eta, rfl, R2, S1.aft A2 R1, Go.bind g2 fun k k' s3 A3 R3 r3 _ g3 => ?_⟩
  have S3 := (S1.aft A2 R1).aft A3 R2
  have rd := r2.aft A3 R2
  have rv := (f1.aft A2 R1).aft A3 R2
  split at g3
  ·rename_i i key hk _
   split at g3
   ·rename_i kvs hd
    split at g3
    ·rename_i hn
     obtain ⟨p, vs, e, e1, e2, l, _⟩ := R3.dic hd rd
     have A := zgc R3 (zfl hd) e1 (c := .dic (putW kvs key a)) (o := .dK (putK vs key b))
     refine ⟨p, _, e, ?_, Go.nx (s := s3.setL i p (.dic (putW kvs key a)) (.dK (putK vs key b))) (rel_setL R3 (zfl hd) e1 ⟨_, rfl, l.put key rv⟩) (S3.aft A R3) (Go.aft g3 A)⟩
     rw [asK_eq hk r3]
     exact DPut.k e2 (by rw [← l.length, sizeLine_eq]; exact hn)
    ·exact g3.elim
   ·exact g3.elim
  ·exact g3.elim
/-- the pairs of a display -/
structure IPs (X : Cx) (Wx : WX) (pos : Pos) (keys : List (Option Expr)) (values : List Expr) (ps : List (Key × M W)) : Prop where
 run : PPs X pos keys values (ps.map fun p => (tC (kV p.1), tE X.K X.w Wx p.2))
 len : keys.length = ps.length ∧ values.length = ps.length ∧ keys.all (·.isSome) = true
theorem ip_nil : IPs X Wx pos [] [] [] := ⟨pps_nil, rfl, rfl, rfl⟩
theorem ip_str {x : Str} {k : Nat} {p1 : Pos} {ks : List (Option Expr)} {vs : List Expr} {ps : List (Key × M W)} (h : IE X Wx e F) (r : IPs X Wx pos ks vs ps) : IPs X Wx pos (some (.Constant (.str x) k p1) :: ks) (e :: vs) ((.inr x, F) :: ps) :=
 ⟨pps_cons pe_str h r.run, by simp [r.len.1], by simp [r.len.2.1], by simpa using r.len.2.2⟩
theorem vals_pairs {K : PySem.W.Frag} {ω : World} {B : Type} {Gam : S4 → B → V → Prop} : ∀ (ps : List (Key × M W)) {σ : St} {H : Hp} {Q : List (V × V) → Hp → Prop} {C D : Type} {Gm : S4 → C → D → Prop} {k : List (Key × W) → IS → IH → Res C} {Q' : D → Hp → Prop} {s : S4} {eta : IS},
  s.H = H → Rel K ω s → Sl K s eta σ → Go K ω Wx Gm s ((mVals ps eta s.hp).bind fun a h1 => k a eta h1) Q' →
  (∀ (s' : S4) (ws : List (Key × W)) (vs : List (Key × V)), Aft s s' → Rel K ω s' → Sl K s' eta σ → RwK K s' ws vs → Go K ω Wx Gm s' (k ws eta s'.hp) Q' → Q (vs.map fun kv => (kV kv.1, kv.2)) s'.H) →
  tPairs (ps.map fun p => (tC (kV p.1), tE K ω Wx p.2)) σ H Q
 | [], σ, H, Q, _, _, Gm, k, Q', s, eta, e1, R1, S1, g, n => by
  subst e1
  exact n s [] [] Yl R1 S1 rfl (show Go K ω Wx Gm s (k [] eta s.hp) Q' from g)
 | (key, F) :: ps, σ, H, Q, _, _, Gm, k, Q', s, eta, e1, R1, S1, g, n => by
  subst e1
  show tE K ω Wx F σ s.H fun y H2 => tPairs (ps.map fun p => (tC (kV p.1), tE K ω Wx p.2)) σ H2 fun qs H3 => Q ((kV key, y) :: qs) H3
  have g' : Go K ω Wx Gm s ((F eta s.hp).bind fun w h1 => (mVals ps eta h1).bind fun ws h2 => k ((key, w) :: ws) eta h2) Q' := by
   have e : ((mVals ((key, F) :: ps) eta s.hp).bind fun a h1 => k a eta h1) = (F eta s.hp).bind fun w h1 => (mVals ps eta h1).bind fun ws h2 => k ((key, w) :: ws) eta h2 := by
    simp only [mVals]
    cases F eta s.hp with
    | ok w h1 =>
     simp only [Res.bind]
     cases mVals ps eta h1 <;> rfl
    | er _ _ _ => rfl
    | bad => rfl
   rw [← e]; exact g
  refine ⟨s, eta, rfl, R1, S1, Go.bind g' fun w v s2 A2 R2 r2 _ g2 => ?_⟩
  exact vals_pairs (Gam := Gam) ps (k := fun ws eta h2 => k ((key, w) :: ws) eta h2) rfl R2 (S1.aft A2 R1) g2 fun s3 ws vs A3 R3 S3 r3 g3 =>
   n s3 ((key, w) :: ws) ((key, v) :: vs) (A2.trans A3) R3 S3 ⟨v, vs, rfl, r2.aft A3 R2, r3⟩ g3
theorem ie_disp {keys : List (Option Expr)} {values : List Expr} {ps : List (Key × M W)} (h : IPs X Wx pos keys values ps) (h0 : keys ≠ [] := by simp) (h15 : keys.length ≤ 15 := by decide) : IE X Wx (.Dict keys values pos) (mDisp ps) :=
 PE.imp (pe_disp h.run h.len.2.2 (h.len.1.trans h.len.2.1.symm) h0 h15) fun σ H Q q => by
  obtain ⟨s, eta, e1, R1, S1, g⟩ := q
  subst e1
  intro p np
  have A1 := zen R1 np (c := .dic []) (o := .dK [])
  have R2 : Rel X.K X.w (s.addL p (.dic []) (.dK [])) := zff R1 np ⟨[], rfl, rfl⟩
  refine vals_pairs (Gam := fun _ (_ : Unit) _ => True) (Gm := Rw X.K) (Q' := Q) (k := fun kvs eta h1 => (match getD h1 s.hp.length with
   | some [] => if kvs.length ≤ 15 then .ok (.r s.hp.length) (h1.set s.hp.length (some (.dic (zf0 [] kvs)))) else .bad
   | _ => .bad : Res W)) ps (s := s.addL p (.dic []) (.dK [])) rfl R2 (S1.aft A1 R1) (Go.aft g A1) fun s' ws vs A' R' S' r' g' => ?_
  have hr : s'.rho[s.hp.length]? = some p := by
   obtain ⟨ex, e, _⟩ := A'.pre
   rw [e]
   have e0 : (s.addL p (.dic []) (.dK [])).rho = s.rho ++ [p] := rfl
   rw [e0, ← R1.len, List.getElem?_append_left Yaw]
   simp
  split at g'
  ·rename_i hd
   split at g'
   ·rename_i hn
    obtain ⟨a, us, e, e2, e3, l, _⟩ := R'.dic hd (show Rw X.K s' (.r s.hp.length) (.ref p) from ⟨p, hr, rfl⟩)
    cases e
    rw [show us = [] from l] at e3
    refine ⟨e3, vs, rfl, by rw [← r'.length]; exact hn, ?_⟩
    have A := zgc R' (zfl hd) hr (c := .dic (zf0 [] ws)) (o := .dK (mergeK [] vs))
    exact g' (.ref p) (s'.setL s.hp.length p (.dic (zf0 [] ws)) (.dK (mergeK [] vs))) rfl A (rel_setL R' (zfl hd) hr ⟨_, rfl, RwK.merge r' (show RwK X.K s' [] [] from rfl)⟩) ⟨p, hr, rfl⟩
   ·exact g'.elim
  ·exact g'.elim
end
end Mir
namespace Mir
open PySem PySem.Spec L2
open PyProof.Rows hiding St
/-- t + u of tuples, the object of a new one known -/
def rCatB (K : PySem.W.Frag) : R2 := fun x y H Q => ∃ a b xs ys, x = .ref a ∧ y = .ref b ∧ SqT K H a xs ∧ SqT K H b ys ∧ xs.length + ys.length ≤ sizeLine ∧
 (xs = [] → Q (.ref b) H) ∧ (xs ≠ [] → ys = [] → Q (.ref a) H) ∧ (xs ≠ [] → ys ≠ [] → ∀ (p : Addr) (o : Obj), H p = none → o.dict = none → Q (.ref p) (upd H p (.frz o (.tup (xs ++ ys)))))
theorem op_catB {X : Cx} : OpR X (binaryOp .Add) (rCatB X.K) := by
 intro pn s0 σ H x y v u Q J rx ry h
 obtain ⟨a, b, xs, ys, ex, ey, ha, hb, hz, q0, q1, q2⟩ := h
 subst ex ey
 by_cases hx : xs = []
 ·exact op_catA pn s0 σ H _ _ v u Q J rx ry ⟨a, b, xs, ys, rfl, rfl, ha, hb, hz, q0, fun c => absurd hx c, fun c => absurd hx c⟩
 ·cases rx
  cases ry
  obtain ⟨its, r1, p1, _⟩ := J.tuple ha
  obtain ⟨its2, r2, p2, _⟩ := J.tuple hb
  refine HT.cat_tup p1 p2 (fun z => hx (r1.nil_iff.mp z)) (fun z => ⟨.ref a, H, J, rfl, q1 hx (r2.nil_iff.mp z)⟩) (fun z => ?_) (by rw [← r1.length, ← r2.length]; exact hz)
  exact laid_tup (t' := s0.toks) J (r1.append r2) (by rw [List.length_append]; exact hz) (q2 hx fun c => z (r2.nil_iff.mpr c))
def wAdd : Op2 := fun a b hp => match a, b with
 | .t (.int i), .t (.int j) => .ok (.t (.int (i + j))) hp
 | .t (.str x), .t (.str y) => if x.length + y.length ≤ 16777216 then .ok (.t (.str (x ++ y))) hp else .bad
 | .t (.tup xs), .t (.tup ys) => if xs.length + ys.length ≤ 16777216 then .ok (.t (.tup (xs ++ ys))) hp else .bad
 | a, b => (match (hitems hp a).bind allT, (hitems hp b).bind allT with
  | some xs, some ys => if xs.length + ys.length ≤ 16777216 then .ok Yll hp else .bad
  | _, _ => .bad)
abbrev rAdd (K : PySem.W.Frag) : R2 := fun x y H Q => rI0 (fun i j => .int (i + j)) x y H Q ∨ (fun x y H Q => ∃ i j, x = .str i ∧ y = .str j ∧ i.length + j.length ≤ sizeLine ∧ Q (.str (i ++ j)) H : R2) x y H Q ∨ rCatB K x y H Q ∨ rCat x y H Q
theorem op_addA {X : Cx} : OpR X (binaryOp .Add) (rAdd X.K) := OpR.or op_add (OpR.or op_add_str (OpR.or op_catB op_cat))
section
variable {K : PySem.W.Frag} {ω : World} {Wx : WX}
theorem RfL.append {fz : Addr → Prop} {H : Hp} : ∀ {ws ws' : List T} {vs vs' : List V}, RfL K fz H ws vs → RfL K fz H ws' vs' → RfL K fz H (ws ++ ws') (vs ++ vs')
 | [], _, _, _, h, h' => by simp only [RfL] at h; subst h; exact h'
 | x :: xs, _, vs, _, h, h' => by
  simp only [RfL] at h
  obtain ⟨v, r, e, a, b⟩ := h
  subst e
  simp only [List.cons_append, RfL]
  exact ⟨v, _, rfl, a, RfL.append b h'⟩
theorem RfL.nil_of {fz : Addr → Prop} {H : Hp} {ts : List T} (h : RfL K fz H ts []) : ts = [] := by
 cases ts with
 | nil => rfl
 | cons t ts =>
  simp only [RfL] at h
  obtain ⟨v, r, e, _⟩ := h
  cases e
theorem ok_add : zdv K ω Wx wAdd (rAdd K) := by
 intro s a b x y Q R ra rb go
 unfold wAdd at go
 split at go
 ·simp only [Rw, Rf] at ra rb
  exact .inl ⟨_, _, ra, rb, go _ s rfl Yl R Yk⟩
 ·split at go
  ·rename_i hz
   simp only [Rw, Rf] at ra rb
   exact .inr (.inl ⟨_, _, ra, rb, by rw [sizeLine_eq]; exact hz, go _ s rfl Yl R Yk⟩)
  ·exact go.elim
 ·split at go
  ·rename_i xs ys hz
   obtain ⟨p, us, e1, t1, q1⟩ : ∃ a vs, x = .ref a ∧ FTup K s.fz s.H a vs ∧ RfL K s.fz s.H xs vs := by simpa only [Rw, Rf] using ra
   obtain ⟨p2, us2, e2, t2, q2⟩ : ∃ a vs, y = .ref a ∧ FTup K s.fz s.H a vs ∧ RfL K s.fz s.H ys vs := by simpa only [Rw, Rf] using rb
   refine .inr (.inr (.inl ⟨p, p2, us, us2, e1, e2, t1.sq, t2.sq, by rw [← RfL.length q1, ← RfL.length q2, sizeLine_eq]; exact hz, fun c => ?_, fun _ c => ?_, fun _ _ q o np d => ?_⟩))
   ·subst c
    rw [RfL.nil_of q1] at go
    rw [← e2]
    exact go _ s rfl Yl R rb
   ·subst c
    rw [RfL.nil_of q2, List.append_nil] at go
    rw [← e1]
    exact go _ s rfl Yl R ra
   ·exact go (.ref q) (s.addF q (.frz o (.tup (us ++ us2)))) rfl (zbe R np) (zbl R np) (addF_tup R np d (RfL.append q1 q2))
  ·exact go.elim
 ·split at go
  ·rename_i xs ys hx hy
   split at go
   ·rename_i hz
    rw [Option.bind_eq_some_iff] at hx hy
    obtain ⟨ws, h1, h2⟩ := hx
    obtain ⟨ws2, h3, h4⟩ := hy
    obtain ⟨p, us, e1, t1, q1⟩ := hitems_eq R h1 ra
    obtain ⟨p2, us2, e2, t2, q2⟩ := hitems_eq R h3 rb
    rw [zcw h2] at q1
    rw [zcw h4] at q2
    have l1 := RwL.of_trees.mp q1
    have l2 := RwL.of_trees.mp q2
    exact .inr (.inr (.inr ⟨p, p2, us, us2, e1, e2, t1, t2, by rw [← RfL.length l1, ← RfL.length l2, sizeLine_eq]; exact hz, fun q np =>
     go (.ref q) (s.addF q (.lst (us ++ us2))) rfl (zbe R np) (zbl R np) (zb7 R np (RfL.append l1 l2))⟩))
   ·exact go.elim
  ·exact go.elim
end
def repT (n : Nat) (ts : List T) : List T := (List.replicate n ts).flatten
def wMul : Op2 := fun a b hp => match a, b with
 | .t (.int i), .t (.int j) => if cMul i j = true then .ok (.t (.int (i * j))) hp else .bad
 | a, .t (.int k) => (match (hitems hp a).bind allT with
  | some ts => if -(2 ^ 63) ≤ k ∧ k < 2 ^ 63 ∧ ts.length * k.toNat ≤ 16777216 then .ok (.t (.lst (repT k.toNat ts))) hp else .bad
  | none => .bad)
 | _, _ => .bad
abbrev rMulA : R2 := fun x y H Q => rI CMulW (fun i j => .int (i * j)) x y H Q ∨ rRep x y H Q
theorem op_mulA {X : Cx} : OpR X (binaryOp .Mult) rMulA := OpR.or op_mulW op_rep
theorem rep_rf {K : PySem.W.Frag} {fz : Addr → Prop} {H : Hp} {ts : List T} {vs : List V} (h : RfL K fz H ts vs) : ∀ n : Nat, RfL K fz H (repT n ts) (List.replicate n vs).flatten
 | 0 => by simp [repT, RfL]
 | n + 1 => by
  have := RfL.append h (rep_rf h n)
  simpa [repT, List.replicate_succ] using this
theorem ok_mul {K : PySem.W.Frag} {ω : World} {Wx : WX} : zdv K ω Wx wMul rMulA := by
 intro s a b x y Q R ra rb go
 unfold wMul at go
 split at go
 ·split at go
  ·rename_i hc
   simp only [Rw, Rf] at ra rb
   exact .inl ⟨_, _, ra, rb, by simpa [cMul, CMulW] using hc, go _ s rfl Yl R Yk⟩
  ·exact go.elim
 ·rename_i k _
  split at go
  ·rename_i ts hx
   split at go
   ·rename_i hz
    rw [Option.bind_eq_some_iff] at hx
    obtain ⟨ws, h1, h2⟩ := hx
    obtain ⟨p, us, e1, t1, q1⟩ := hitems_eq R h1 ra
    rw [zcw h2] at q1
    have l1 := RwL.of_trees.mp q1
    have ey : y = .int k := by simpa only [Rw, Rf] using rb
    exact .inr ⟨p, k, us, e1, ey, t1, hz.1, hz.2.1, by rw [← RfL.length l1, sizeLine_eq]; exact hz.2.2, fun q np =>
     go (.ref q) (s.addF q (.lst (List.replicate k.toNat us).flatten)) rfl (zbe R np) (zbl R np) (zb7 R np (rep_rf l1 k.toNat))⟩
   ·exact go.elim
  ·exact go.elim
 ·exact go.elim
def wLt : Op2 := fun a b hp => match a, b with
 | .t (.int i), .t (.int j) => .ok (.t (.bl (decide (i < j)))) hp
 | .t (.str x), .t (.str y) => .ok (.t (.bl (ltCps x.cps.toList y.cps.toList))) hp
 | _, _ => .bad
abbrev rLtA : R2 := fun x y H Q => rI0 (fun i j => .bl (decide (i < j))) x y H Q ∨ (fun x y H Q => ∃ i j, x = .str i ∧ y = .str j ∧ Q (.bl (decide (i.cps.toList < j.cps.toList))) H : R2) x y H Q
theorem op_ltA {X : Cx} : OpR X (compareOp .Lt) rLtA := OpR.or op_lt op_lt_str
theorem ok_lt {K : PySem.W.Frag} {ω : World} {Wx : WX} : zdv K ω Wx wLt rLtA := by
 intro s a b x y Q R ra rb go
 unfold wLt at go
 split at go
 ·simp only [Rw, Rf] at ra rb
  exact .inl ⟨_, _, ra, rb, go _ s rfl Yl R Yk⟩
 ·simp only [Rw, Rf] at ra rb
  exact .inr ⟨_, _, ra, rb, go _ s rfl Yl R (by simp only [Rw, Rf, ltCps_eq])⟩
 ·exact go.elim
section
variable {X : Cx} {Wx : WX} {a b c e : Expr} {Fa Fb Fc F : M W} {pos : Pos}
theorem zdd (ha : IE X Wx a Fa) (hb : IE X Wx b Fb) : IE X Wx (.BinOp a .Add b pos) (mBin wAdd Fa Fb) := ie_bin op_addA ok_add ha hb
theorem ie_mulA (ha : IE X Wx a Fa) (hb : IE X Wx b Fb) : IE X Wx (.BinOp a .Mult b pos) (mBin wMul Fa Fb) := ie_bin op_mulA ok_mul ha hb
theorem ie_ltA (ha : IE X Wx a Fa) (hb : IE X Wx b Fb) : IE X Wx (.Compare a [.Lt] [b] pos) (mBin wLt Fa Fb) := ie_cmp op_ltA ok_lt ha hb Yhr
theorem it_ltA (ha : IE X Wx a Fa) (hb : IE X Wx b Fb) : IT X Wx (.Compare a [.Lt] [b] pos) (zah asB (mBin wLt Fa Fb)) := it_cmp op_ltA ok_lt ha hb Yhr
theorem t_chain {f f' : Op2} {r r' : R2} (hf : zdv X.K X.w Wx f r) (hf' : zdv X.K X.w Wx f' r') : ∀ σ H Q, tE X.K X.w Wx Ylm σ H Q → tChain r r' (tE X.K X.w Wx Fa) (tE X.K X.w Wx Fb) (tE X.K X.w Wx Fc) σ H Q := by
 intro σ H Q h
 refine tM.bind2 (Fam' := Rw X.K) (R := fun (x y : V) (H2 : Hp) => r x y H2 fun z H3 => ∃ k, z = .bl k ∧ (if k = true then tE X.K X.w Wx Fc σ H3 (fun w' H4 => r' y w' H4 Q) else Q Yo H3))
  (k := fun a b eta h2 => (f a b h2).bind fun z h3 => match z with
   | .t (.bl true) => (Fc eta h3).bind fun c h4 => f' b c h4
   | .t (.bl false) => .ok (.t Yo) h3
   | _ => .bad) Rw.keep h fun s eta a b a' b' R1 S1 f1 f2 g => ?_
 refine hf s a a' b b' _ R1 f1 f2 (Go.bind g fun z z' s2 A2 R2 r2 _ g2 => ?_)
 split at g2
 ·simp only [Rw, Rf] at r2
  subst r2
  refine ⟨true, rfl, ?_⟩
  rw [if_pos rfl]
  exact ⟨s2, eta, rfl, R2, S1.aft A2 R1, Go.bind g2 fun w w' s3 A3 R3 r3 _ g3 => hf' s3 a' w b' w' Q R3 ((f2.aft A2 R1).aft A3 R2) r3 g3⟩
 ·simp only [Rw, Rf] at r2
  subst r2
  refine ⟨false, rfl, ?_⟩
  rw [if_neg Yct]
  exact g2 _ s2 rfl (Aft.refl s2) R2 Yk
 ·exact g2.elim
theorem ie_chain {op op' : CmpOp} {f f' : Op2} {r r' : R2} (ho : OpR X (compareOp op) r) (hf : zdv X.K X.w Wx f r) (ho' : OpR X (compareOp op') r') (hf' : zdv X.K X.w Wx f' r') (ha : IE X Wx a Fa) (hb : IE X Wx b Fb) (hc : IE X Wx c Fc)
  (hm : lastMarks [op, op'] [b, c] = false := by with_unfolding_all rfl) : IE X Wx (.Compare a [op, op'] [b, c] pos) Ylm := PE.imp (pe_chain ho ho' ha hb hc hm) (t_chain hf hf')
theorem it_chain {op op' : CmpOp} {f f' : Op2} {r r' : R2} (ho : OpR X (compareOp op) r) (hf : zdv X.K X.w Wx f r) (ho' : OpR X (compareOp op') r') (hf' : zdv X.K X.w Wx f' r') (ha : IE X Wx a Fa) (hb : IE X Wx b Fb) (hc : IE X Wx c Fc)
  (hm : lastMarks [op, op'] [b, c] = false := by with_unfolding_all rfl) : IT X Wx (.Compare a [op, op'] [b, c] pos) (zah asB Ylm) := PT.imp (pt_chain ho ho' ha hb hc hm) fun σ H Q h => by
 have h' : tE X.K X.w Wx Ylm σ H Yin := tM.bind1 (R := fun (x : V) (H1 : Hp) => ∃ k, x = .bl k ∧ Q k H1) (k := fun (a : W) _ hp => asB a hp) h fun s eta a b R1 _ f1 g => go_asB R1 f1 g
 exact t_chain hf hf' σ H _ h'
end
def oRev : Op1 := fun a hp => match (ze3 hp a).bind allT with
 | some ts => .ok (.t (.lst ts.reverse)) hp
 | none => .bad
theorem rf_rev {K : PySem.W.Frag} {fz : Addr → Prop} {H : Hp} : ∀ {ts : List T} {vs : List V}, RfL K fz H ts vs → RfL K fz H ts.reverse vs.reverse
 | [], _, h => by simp only [RfL] at h; subst h; simp [RfL]
 | x :: xs, vs, h => by
  simp only [RfL] at h
  obtain ⟨v, r, e, a, b⟩ := h
  subst e
  rw [List.reverse_cons, List.reverse_cons]
  exact RfL.append (rf_rev b) (by simp only [RfL]; exact ⟨v, [], rfl, a, rfl⟩)
section
variable {X : Cx} {Wx : WX} {e st : Expr} {F : M W} {pos p3 : Pos}
theorem t_rev : ∀ σ H Q, tE X.K X.w Wx (mUn oRev F) σ H Q → tRevL X.K (tE X.K X.w Wx F) σ H Q := fun σ H Q h =>
 tM.bind1 (R := fun (x : V) (H1 : Hp) => ∃ a xs, x = .ref a ∧ SqL X.K H1 a xs ∧ ∀ p, H1 p = none → Q (.ref p) (upd H1 p (.lst xs.reverse))) (k := fun (a : W) _ hp => oRev a hp) h fun s eta a b R1 _ f1 g => by
  unfold oRev at g
  split at g
  ·rename_i ts hx
   rw [Option.bind_eq_some_iff] at hx
   obtain ⟨ws, h1, h2⟩ := hx
   obtain ⟨p, us, e1, t1, q1⟩ := ze2 R1 h1 f1
   rw [zcw h2] at q1
   exact ⟨p, us, e1, t1, fun q np => g (.ref q) (s.addF q (.lst us.reverse)) rfl (zbe R1 np) (zbl R1 np) (zb7 R1 np (rf_rev (RwL.of_trees.mp q1)))⟩
  ·exact g.elim
theorem ie_rev {k : Nat} {p1 p2 : Pos} (he : IE X Wx e F) : IE X Wx Yg6 (mUn oRev F) := PE.imp (pe_revL he) t_rev
end
end Mir
namespace Mir
open PySem PySem.Spec L2
open PyProof.Rows hiding St
def mParG (n : Nat) (Fs : M (List W)) (Gs : List W → IS → Option IS) : M Fl := fun eta hp => (Fs eta hp).bind fun ws h1 => if ws.length = n ∧ n ≤ 16777216 then (match Gs ws eta with | some e => .ok (.nx e) h1 | none => .bad) else .bad
section
variable {X : Cx} {Wx : WX} {e : Expr} {es tgs : List Expr} {Fs : M (List W)} {F : M W} {pos p1 p2 : Pos} {gs : TGs} {Gs : List W → IS → Option IS} {vs : List Nat} {n k1 k2 : Nat}
def gA (n : Nat) (Gs : List W → IS → Option IS) : W → IS → Option IS := fun w eta => match w with
 | .t (.tup ts) => if ts.length = n then Gs Yw eta else none
 | .t (.pr ts) => if ts.length = n then Gs Yw eta else none
 | .t (.lst ts) => if ts.length = n then Gs Yw eta else none
 | _ => none
theorem PG.or {t t' : TG} (h : PG X e t) (h' : PG X e t') : PG X e (fun v σ H Q => t v σ H Q ∨ t' v σ H Q) := ⟨fun pins s σ H v u Q I r hw => by
 rcases hw with q | q
 ·exact h.run pins s σ H v u Q I r q
 ·exact h'.run pins s σ H v u Q I r q⟩
theorem zfg {k : Nat} (hc : X.calm = true) (h : PGs X tgs gs) (hn : (assignEach tgs X.env).length = n := by rfl) (hst : (assignEach tgs X.env).findIdx? (·.1) = none := by rfl) :
  PG X (.Tuple tgs k pos) (fun v σ H Q => gTup X.K n gs v σ H Q ∨ gLst X.K n gs v σ H Q) := PG.or (pg_tup hc h hn hst) (pg_lst hc h hn hst)
theorem zfd {K : PySem.W.Frag} {ω : World} (h : TgsOk K ω gs Gs vs) : TgOk K ω (fun v σ H Q => gTup K n gs v σ H Q ∨ gLst K n gs v σ H Q) (gA n Gs) vs := ⟨fun s w v eta σ eta' R1 r S1 e => by
 unfold gA at e
 split at e
 ·rename_i ts
  split at e
  ·rename_i hn
   obtain ⟨a, xs, ev, t, l⟩ : ∃ a vs, v = .ref a ∧ FTup K s.fz s.H a vs ∧ RfL K s.fz s.H ts vs := by simpa only [Rw, Rf] using r
   obtain ⟨σ', S2, w2, q2⟩ := h.run s Yw xs eta σ eta' R1 Yjq S1 e
   exact ⟨σ', S2, w2, fun Q q => .inl ⟨a, xs, ev, t.sq, by rw [← RfL.length l]; exact hn, q2 Q q⟩⟩
  ·cases e
 ·rename_i ts
  split at e
  ·rename_i hn
   obtain ⟨a, xs, ev, t, l⟩ : ∃ a vs, v = .ref a ∧ FPr s.fz s.H a vs ∧ RfL K s.fz s.H ts vs := by simpa only [Rw, Rf] using r
   obtain ⟨σ', S2, w2, q2⟩ := h.run s Yw xs eta σ eta' R1 Yjq S1 e
   exact ⟨σ', S2, w2, fun Q q => .inl ⟨a, xs, ev, t.sq, by rw [← RfL.length l]; exact hn, q2 Q q⟩⟩
  ·cases e
 ·rename_i ts
  split at e
  ·rename_i hn
   obtain ⟨a, xs, ev, t, l⟩ : ∃ a vs, v = .ref a ∧ FLst s.fz s.H a vs ∧ RfL K s.fz s.H ts vs := by simpa only [Rw, Rf] using r
   obtain ⟨σ', S2, w2, q2⟩ := h.run s Yw xs eta σ eta' R1 Yjq S1 e
   exact ⟨σ', S2, w2, fun Q q => .inr ⟨a, xs, ev, t.sq, by rw [← RfL.length l]; exact hn, q2 Q q⟩⟩
  ·cases e
 ·cases e⟩
end
def mFz (i : Nat) (B : M Fl) : M Fl := fun eta hp => match eta[i]? with
 | some (some w) => (zdi w hp).bind fun w' h1 => B (eta.set i (some w')) h1
 | _ => .bad
section
variable {X : Cx} {Wx : WX} {rest : List Stmt} {B : M Fl}
theorem sl_same {K : PySem.W.Frag} {s : S4} {eta : IS} {σ : St} (S1 : Sl K s eta σ) (i : Nat) {w : W} {v : V} (h : σ[i]? = some (some v)) (r : Rw K s w v) : Sl K s Yjp σ := by
 have q := S1.set i r
 have e : σ.set i (some v) = σ := by
  apply List.ext_getElem?
  intro j
  by_cases hj : i = j
  ·subst hj
   rw [List.getElem?_set_self (by exact (List.getElem?_eq_some_iff.mp h).1), h]
  ·rw [List.getElem?_set_ne hj]
 rw [e] at q
 exact q
theorem is_fz (i : Nat) (h : ISs X Wx rest B) : ISs X Wx rest (mFz i B) := PSs.imp h fun D σ H q => by
 obtain ⟨s, eta, e1, R1, S1, g⟩ := q
 unfold mFz at g
 split at g
 ·rename_i w hw
  obtain ⟨v, h1, h2⟩ := S1.2 i w hw
  cases w with
  | t x => exact ⟨s, _, e1, R1, sl_same S1 i h1 h2, g⟩
  | r j =>
   simp only [zdi] at g
   cases hl : (getL s.hp j).bind allT with
   | none => simp only [hl] at g; exact g.elim
   | some ts =>
    simp only [hl] at g
    rw [Option.bind_eq_some_iff] at hl
    obtain ⟨ws, q1, q2⟩ := hl
    obtain ⟨a, vs, e, ea, e2, l, _⟩ := R1.lst q1 h2
    subst e
    have A := aft_frz R1 (zc5 q1) ea
    rw [zcw q2] at l
    refine ⟨s.frz j a, _, e1, rel_frz R1 (zc5 q1) ea, sl_same (S1.aft A R1) i h1 ?_, Go.aft g A⟩
    simp only [Rw, Rf]
    exact ⟨a, vs, rfl, ⟨.inr rfl, e2⟩, RfL.aft A R1 _ _ Ygh⟩
 ·exact g.elim
end
end Mir
namespace Mir
open PySem PySem.Spec L2
open PyProof.Rows hiding St
def oSort : OpN := fun ws hp => match ws with
 | [w] => (match ze3 hp w with
  | some xs => (match allW asI xs with
   | some ns => .ok (.t (.lst ((srtI ns).map T.int))) hp
   | none => (match allW asS xs with | some ns => if ns.length < 64 then .ok (.t (.lst ((srtS ns).map T.str))) hp else .bad | none => .bad))
  | none => .bad)
 | _ => .bad
theorem cr_sortA {X : Cx} : CallR X Ydf (fun xs H Q => rSortedI X.K xs H Q ∨ rSortedS X.K xs H Q) := CallR.or cr_sortedI cr_sortedS
theorem ok_sort {K : PySem.W.Frag} {ω : World} {Wx : WX} : zgb K ω Wx oSort (fun xs H Q => rSortedI K xs H Q ∨ rSortedS K xs H Q) := by
 intro s ws xs Q R r go
 unfold oSort at go
 split at go
 ·rename_i w
  split at go
  ·rename_i ys hy
   split at go
   ·rename_i ns hn
    refine .inl (ok_sortI (Wx := Wx) s [w] xs Q R r ?_)
    simp only [oOnL, hy, Option.bind_some, hn]
    exact go
   ·split at go
    ·rename_i ns hn
     refine .inr (ok_sortS (Wx := Wx) s [w] xs Q R r ?_)
     simp only [oOnL, hy, Option.bind_some, hn]
     exact go
    ·exact go.elim
  ·exact go.elim
 ·exact go.elim
/-- xs[::-1], a list that lives on -/
def oRevL : Op1 := fun a hp => match ze3 hp a with
 | some ws => .ok Ydp (hp ++ [some (.lst ws.reverse)])
 | none => .bad
theorem RwL.rev {K : PySem.W.Frag} {s : S4} : ∀ {ts : List W} {vs : List V}, RwL K s ts vs → RwL K s ts.reverse vs.reverse
 | [], _, h => by rw [show _ = [] from h]; rfl
 | x :: xs, vs, h => by
  obtain ⟨v, r, e, a, b⟩ := h
  subst e
  rw [List.reverse_cons, List.reverse_cons]
  exact RwL.append (RwL.rev b) (show RwL K s [x] [v] from ⟨v, [], rfl, a, rfl⟩)
section
variable {X : Cx} {Wx : WX} {e st a : Expr} {F : M W} {pos p3 p p1 pos1 : Pos} {live : Bool}
theorem t_revLv : ∀ σ H Q, tE X.K X.w Wx (mUn oRevL F) σ H Q → tRevL X.K (tE X.K X.w Wx F) σ H Q := fun σ H Q h =>
 tM.bind1 (R := fun (x : V) (H1 : Hp) => ∃ a xs, x = .ref a ∧ SqL X.K H1 a xs ∧ ∀ p, H1 p = none → Q (.ref p) (upd H1 p (.lst xs.reverse))) (k := fun (a : W) _ hp => oRevL a hp) h fun s eta a b R1 _ f1 g => by
  unfold oRevL at g
  split at g
  ·rename_i ws h1
   obtain ⟨p, us, e1, t1, q1⟩ := ze2 R1 h1 f1
   exact ⟨p, us, e1, t1, fun q np => g (.ref q) (s.addL q (.lst ws.reverse) (.lst us.reverse)) rfl (zen R1 np) (zff R1 np ⟨_, rfl, RwL.rev q1⟩) (addL_r R1)⟩
  ·exact g.elim
theorem ie_revL {k : Nat} {p1 p2 : Pos} (he : IE X Wx e F) : IE X Wx Yg6 (mUn oRevL F) := PE.imp (pe_revL he) t_revLv
end
end Mir
namespace Mir
open PySem PySem.Spec L2
open PyProof.Rows hiding St
end Mir
namespace Mir
open PySem PySem.Spec L2
open PyProof.Rows hiding St
def compL2 (G : W → IS → Option IS) (T : M Bool) (Fe : M W) (G1 : W → IS → Option IS) (T1 : M Bool) (E : M W) (us1 : List Nat) (eta : IS) : Nat → List W → IH → Res (List W)
 | _, [], hp => .ok [] hp
 | n, w :: ws, hp => match G w eta with
  | none => .bad
  | some e1 => (noEr (T e1 hp)).bind fun b h1 => if b then (noEr (Fe e1 h1)).bind fun w1 h2 => match seqT w1 with
    | some ts => if n + ts.length ≤ 16777216 then (zb3 G1 T1 E (zbp e1 us1) Yw h2).bind fun r h3 => (compL2 G T Fe G1 T1 E us1 eta (n + ts.length) ws h3).bind fun r2 h4 => .ok (r ++ r2) h4 else .bad
    | none => .bad
   else compL2 G T Fe G1 T1 E us1 eta n ws h1
def mComp2 (fin : OpN) (Fi : M (List W)) (G : W → IS → Option IS) (T : M Bool) (Fe : M W) (G1 : W → IS → Option IS) (T1 : M Bool) (E : M W) (us us1 : List Nat) : M W := fun eta hp => (Fi eta hp).bind fun ws h1 => (compL2 G T Fe G1 T1 E us1 Ya6 0 ws h1).bind fun r h2 => fin r h2
theorem wipe_wipe (σ : St) (us : List Nat) : wipe Ye8 us = wipe σ us := by
 apply List.ext_getElem?
 intro j
 by_cases hj : j ∈ us
 ·by_cases hl : j < σ.length
  ·rw [zgl hj Yhn, zgl hj hl]
  ·rw [List.getElem?_eq_none Ygr, List.getElem?_eq_none Ydu]
 ·rw [wipe_get hj]
def kdW : W → Kd | .t (.tup _) => .t | _ => .l
theorem fsqK {K : PySem.W.Frag} {ω : World} {s : S4} (R : Rel K ω s) {w : W} {v : V} {ts : List T} (h : seqT w = some ts) (r : Rw K s w v) : ∃ a, v = .ref a ∧ FSq K ω s (kdW w) a ts := by
 obtain ⟨x, rfl, hx⟩ := seqT_of h
 have r : Rf K s.fz s.H x v := r
 rcases hx with h | h | h <;> subst h
 ·obtain ⟨a, vs, e, t, l⟩ : ∃ a vs, v = .ref a ∧ FTup K s.fz s.H a vs ∧ RfL K s.fz s.H ts vs := by simpa only [Rf] using r
  exact ⟨a, e, vs, t.sq, l, fun s' A _ => (t.aft A R).sq⟩
 ·obtain ⟨a, vs, e, t, l⟩ : ∃ a vs, v = .ref a ∧ FLst s.fz s.H a vs ∧ RfL K s.fz s.H ts vs := by simpa only [Rf] using r
  exact ⟨a, e, vs, t.sq, l, fun s' A _ => (t.aft A R).sq⟩
 ·obtain ⟨a, vs, e, t, l⟩ : ∃ a vs, v = .ref a ∧ FScr K s.fz s.H a vs ∧ RfL K s.fz s.H ts vs := by simpa only [Rf] using r
  exact ⟨a, e, vs, t.sq, l, fun s' A _ => (t.aft A R).sq⟩
theorem Sl.congr {K : PySem.W.Frag} {s s' : S4} {eta : IS} {σ : St} (hr : s'.rho = s.rho) (hf : ∀ a, s.fz a → s'.fz a) (k : ∀ a, s.fz a → s'.H a = s.H a) (h : Sl K s eta σ) : Sl K s' eta σ :=
 ⟨h.1, fun i w e => let ⟨v, a, b⟩ := h.2 i w e; ⟨v, a, b.congr hr hf k⟩⟩
section
variable {X : Cx} {Wx : WX} {elt tg iter tg1 iter1 : Expr} {ifs ifs1 : List Expr} {scope : Scope} {Fi : M (List W)} {Fe : M W} {pos : Pos} {g g1 : TG} {G G1 : W → IS → Option IS} {vs vs1 : List Nat} {T T1 : M Bool} {E : M W} {fin : OpN} {own : List Yh2}
theorem t_comp2 (us us1 : List Nat) (ok : TgOk X.K X.w g G vs) (hv : ∀ i ∈ vs, i ∈ us) (ok1 : TgOk X.K X.w g1 G1 vs1) (hv1 : ∀ i ∈ vs1, i ∈ us1) (hf : FinOk X.K X.w Wx fin) : ∀ σ H Q, tE X.K X.w Wx (mComp2 fin Fi G T Fe G1 T1 E us us1) σ H Q →
  tLc2 Yg5 g (tT X.K X.w W0 T) (iSq X.K (tE X.K X.w W0 Fe)) g1 (tT X.K X.w W0 T1) (tE X.K X.w W0 E) us us1 σ H Q := fun σ H Q h =>
 tM.bind1 (R := fun (J : It) (H1 : Hp) => ∀ D, H1 D = none → ∃ Wv : Nat → Nat → Hp → Prop, (∃ m, Wv 0 m (upd H1 D Yho)) ∧ ∀ i m H, Wv i m H →
   (J.stop i H ∧ Q (.ref D) H) ∨ (J.go i H ∧ ∃ Nx : Hp → Prop, (∀ H', Nx H' → ∃ m', m' < m ∧ Wv (i + 1) m' H') ∧ ∀ x H', J.yld i H x H' → g x Ye8 H' fun σ2 H2 => wipe σ2 us = wipe σ us ∧ tT X.K X.w W0 T σ2 H2 fun b H3 =>
    if b = true then iSq X.K (tE X.K X.w W0 Fe) σ2 H3 fun J1 H4 => ∃ W1 : Nat → Nat → Hp → Prop, (∃ m, W1 0 m H4) ∧ ∀ j k H, W1 j k H →
     (J1.stop j H ∧ Nx H) ∨ (J1.go j H ∧ ∃ Nx1 : Hp → Prop, (∀ H', Nx1 H' → ∃ k', k' < k ∧ W1 (j + 1) k' H') ∧ ∀ x H', J1.yld j H x H' → g1 x (wipe σ2 us1) H' fun σ3 H5 => wipe σ3 us1 = wipe σ2 us1 ∧ tT X.K X.w W0 T1 σ3 H5 fun b H6 =>
      if b = true then tE X.K X.w W0 E σ3 H6 fun y H7 => ∃ acc, H7 D = some (.lst acc) ∧ acc.length < sizeLine ∧ Nx1 (upd H7 D (.lst (acc ++ [y]))) else Nx1 H6)
    else Nx H3))
  (k := fun (ws : List W) eta hp => (compL2 G T Fe G1 T1 E us1 Ya6 0 ws hp).bind fun r h2 => fin r h2) h fun s0 eta ws J R0 S0 src g0 D hD => by
  have hw : Sl X.K s0 Ya6 Ye8 := S0.wipe us
  let P : Nat → Hp → Prop := fun i H => ∃ (n : Nat) (s : S4) (acc : List W) (xs : List V), s.H = H ∧ Aft s0 s ∧ Rel X.K X.w s ∧ D ∉ s.rho ∧ ¬ s.fz D ∧ s.H D = some Yib ∧ RwL X.K s acc xs ∧ acc.length ≤ n ∧
     Go X.K X.w Wx (Rw X.K) s0 ((compL2 G T Fe G1 T1 E us1 Ya6 n (ws.drop i) s.hp).bind fun r h => fin (acc ++ r) h) Q
  refine ⟨fun i m H => m = ws.length - i ∧ i ≤ ws.length ∧ P i H, ⟨ws.length, by simp, Nat.zero_le _, 0, s0.setD D Yho, [], [], rfl, (Aft.refl s0).setD hD, zfh R0 (R0.fresh hD).1 (R0.fresh hD).2, (R0.fresh hD).1, (R0.fresh hD).2, upd_same, rfl, Nat.le_refl _, g0⟩, ?_⟩
  rintro i m H ⟨rfl, hi, n, s, acc, xs, rfl, A1, R1, nr, nf, hDx, l1, hl1, q1⟩
  obtain ⟨z1, z2⟩ := src s A1 R1 i
  by_cases hlt : i < ws.length
  ·obtain ⟨go, yl⟩ := z1 ws[i] (List.getElem?_eq_getElem hlt)
   refine .inr ⟨go, fun H' => i + 1 ≤ ws.length ∧ P (i + 1) H', fun H' n => ⟨ws.length - (i + 1), by omega, rfl, n⟩, fun x H' y => ?_⟩
   obtain ⟨s3, e3, hp3, A3, R3, rw3⟩ := yl x H' y
   subst e3
   obtain ⟨hD3, nr3, nf3⟩ := A3.away hDx nr nf
   have l3 := RwL.aft A3 R1 _ _ l1
   have A03 := A1.trans A3
   rw [List.drop_eq_getElem_cons hlt] at q1
   rw [← hp3] at q1
   simp only [compL2] at q1
   cases hG : G ws[i] (zbp eta us) with
   | none => simp only [hG, Res.bind] at q1; exact q1.elim
   | some eta1 =>
    simp only [hG, Res.bind_assoc] at q1
    obtain ⟨σ2, S2, w2, q4⟩ := ok.run s3 ws[i] x Ya6 Ye8 eta1 R3 rw3 ((hw.aft A03 R0)) hG
    refine q4 _ ⟨(w2 us hv).trans (wipe_wipe σ us), s3, eta1, rfl, R3, S2, Go.noEr (Go.bind0 q1 A03 fun b bv s4 A4 R4 f4 g4 => ?_)⟩
    subst f4
    obtain ⟨hD4, nr4, nf4⟩ := A4.away hD3 nr3 nf3
    have l4 := RwL.aft A4 R3 _ _ l3
    have A04 := A03.trans A4
    cases b with
    | false =>
     simp only [Bool.false_eq_true, if_false] at g4
     rw [if_neg Bool.false_ne_true]
     exact ⟨hlt, n, s4, acc, xs, rfl, A04, R4, nr4, nf4, hD4, l4, hl1, g4⟩
    | true =>
     simp only [if_true, Res.bind_assoc] at g4
     rw [if_pos rfl]
     have S4' := S2.aft A4 R3
     refine ⟨s4, eta1, rfl, R4, S4', Go.noEr (Go.bind0 g4 A04 fun w1 v1 s5 A5 R5 f5 g5 => ?_)⟩
     obtain ⟨hD5, nr5, nf5⟩ := A5.away hD4 nr4 nf4
     have l5 := RwL.aft A5 R4 _ _ l4
     have A05 := A04.trans A5
     have S5 := S4'.aft A5 R4
     have hw1 : Sl X.K s5 (zbp eta1 us1) (wipe σ2 us1) := S5.wipe us1
     cases hq : seqT w1 with
     | none => simp only [hq, Res.bind] at g5; exact g5.elim
     | some ts =>
     simp only [hq] at g5
     obtain ⟨a1, ev1, fs1⟩ := fsqK R5 hq f5
     refine ⟨kdW w1, a1, _, ev1, fs1.choose_spec.1, ?_⟩
     by_cases hz : n + ts.length ≤ 16777216
     ·have hz' : n + ts.length ≤ sizeLine := by rw [sizeLine_eq]; exact hz
      rw [if_pos hz] at g5
      simp only [Res.bind_assoc] at g5
      have hwl : (ts.map W.t).length = ts.length := List.length_map ..
      generalize hws1 : ts.map W.t = ws1 at g5 hwl
      let P1 : Nat → Hp → Prop := fun j H => ∃ (s : S4) (acc : List W) (xs : List V), s.H = H ∧ Aft s0 s ∧ Rel X.K X.w s ∧ D ∉ s.rho ∧ ¬ s.fz D ∧ s.H D = some Yib ∧ RwL X.K s acc xs ∧ Rw X.K s w1 v1 ∧ Sl X.K s (zbp eta1 us1) (wipe σ2 us1) ∧ acc.length ≤ n + j ∧
       Go X.K X.w Wx (Rw X.K) s0 ((zb3 G1 T1 E (zbp eta1 us1) (ws1.drop j) s.hp).bind fun r h3 => (compL2 G T Fe G1 T1 E us1 Ya6 (n + ts.length) Yeu h3).bind fun r2 h4 => fin (acc ++ (r ++ r2)) h4) Q
      refine ⟨fun j k H => k = ws1.length - j ∧ j ≤ ws1.length ∧ P1 j H, ⟨ws1.length, by simp, Nat.zero_le _, s5, acc, xs, rfl, A05, R5, nr5, nf5, hD5, l5, f5, hw1, by omega, g5⟩, ?_⟩
      rintro j k H ⟨rfl, hj, t, acc1, xs1, rfl, A0t, T1', mr, mf, hDt, m1, fv, sv, ml1, p1⟩
      obtain ⟨a2, ev2, fs2⟩ := fsqK T1' hq fv
      have ea : a2 = a1 := by rw [ev1] at ev2; cases ev2; rfl
      subst ea
      obtain ⟨y1, y2⟩ := src_sq T1' fs2 t (Aft.refl t) T1' j
      rw [hws1] at y1 y2
      by_cases hlt1 : j < ws1.length
      ·obtain ⟨go1, yl1⟩ := y1 ws1[j] (List.getElem?_eq_getElem hlt1)
       refine .inr ⟨go1, fun H' => j + 1 ≤ ws1.length ∧ P1 (j + 1) H', fun H' n => ⟨ws1.length - (j + 1), by omega, rfl, n⟩, fun x1 H' yy => ?_⟩
       obtain ⟨t3, e3, hp3', B3, R3', rw3'⟩ := yl1 x1 H' yy
       subst e3
       obtain ⟨hDt3, mr3, mf3⟩ := B3.away hDt mr mf
       have m3 := RwL.aft B3 T1' _ _ m1
       have A0t3 := A0t.trans B3
       rw [List.drop_eq_getElem_cons hlt1] at p1
       rw [← hp3'] at p1
       simp only [zb3, Res.bind_assoc, turnL] at p1
       cases hG1 : G1 ws1[j] (zbp eta1 us1) with
       | none => simp only [hG1, noEr] at p1; exact p1.elim
       | some eta2 =>
        simp only [hG1, zd2, Res.bind_assoc] at p1
        obtain ⟨σ3, Sa, wa, qa⟩ := ok1.run t3 ws1[j] x1 (zbp eta1 us1) (wipe σ2 us1) eta2 R3' rw3' (sv.aft B3 T1') hG1
        refine qa _ ⟨(wa us1 hv1).trans (wipe_wipe σ2 us1), t3, eta2, rfl, R3', Sa, Go.noEr (Go.bind0 p1 A0t3 fun b bv t4 B4 R4' f4 g4' => ?_)⟩
        subst f4
        obtain ⟨hDt4, mr4, mf4⟩ := B4.away hDt3 mr3 mf3
        have m4 := RwL.aft B4 R3' _ _ m3
        have A0t4 := A0t3.trans B4
        cases b with
        | false =>
         simp only [Bool.false_eq_true, if_false, noEr, Res.bind] at g4'
         rw [if_neg Bool.false_ne_true]
         exact ⟨hlt1, t4, acc1, xs1, rfl, A0t4, R4', mr4, mf4, hDt4, m4, (fv.aft B3 T1').aft B4 R3', (sv.aft B3 T1').aft B4 R3', by omega, g4'⟩
        | true =>
         simp only [if_true, zd2, Res.bind_assoc] at g4'
         rw [if_pos rfl]
         refine ⟨t4, eta2, rfl, R4', Sa.aft B4 R3', Go.noEr (Go.bind0 g4' A0t4 fun yw yv t5 B5 R5' f5 g5' => ?_)⟩
         obtain ⟨hDt5, mr5, mf5⟩ := B5.away hDt4 mr4 mf4
         have m5 := RwL.aft B5 R4' _ _ m4
         have fv5 := ((fv.aft B3 T1').aft B4 R3').aft B5 R4'
         have sv5 := ((sv.aft B3 T1').aft B4 R3').aft B5 R4'
         have A0t5 := A0t4.trans B5
         refine ⟨xs1, hDt5, by rw [← RwL.length m5]; omega, hlt1, t5.setD D (.lst (xs1 ++ [yv])), acc1 ++ [yw], xs1 ++ [yv], rfl, A0t5.setD hD, zfh R5' mr5 mf5, mr5, mf5, upd_same, ?_, Rw.congr (s := t5) (s' := t5.setD D _) rfl Yjx (setD_k mf5) fv5, Sl.congr (s := t5) (s' := t5.setD D _) rfl Yjx (setD_k mf5) sv5, by simp; omega, ?_⟩
         ·exact RwL.append (RwL.congr (s := t5) (s' := t5.setD D _) rfl Yjx (setD_k mf5) m5) ⟨yv, [], rfl, Rw.congr (s := t5) (s' := t5.setD D _) rfl Yjx (setD_k mf5) f5, rfl⟩
         ·simp only [noEr, Res.bind] at g5'
          have e : ∀ (r : Res (List W)), (r.bind fun r h2 => (Res.ok (yw :: r) h2).bind fun r h3 => (compL2 G T Fe G1 T1 E us1 Ya6 (n + ts.length) Yeu h3).bind fun r2 h4 => fin (acc1 ++ (r ++ r2)) h4) = (r.bind fun r h3 => (compL2 G T Fe G1 T1 E us1 Ya6 (n + ts.length) Yeu h3).bind fun r2 h4 => fin ((acc1 ++ [yw]) ++ (r ++ r2)) h4) := fun r => by cases r <;> simp [Res.bind]
          have e2 := e (zb3 G1 T1 E (zbp eta1 us1) (ws1.drop (j + 1)) t5.hp)
          exact e2 ▸ g5'
      ·have e : j = ws1.length := by omega
       subst e
       refine .inl ⟨y2 rfl, hlt, n + ts.length, t, acc1, xs1, rfl, A0t, T1', mr, mf, hDt, m1, by omega, ?_⟩
       rw [List.drop_length] at p1
       simp only [zb3, Res.bind, List.nil_append] at p1
       exact p1
     ·rw [if_neg hz] at g5
      exact g5.elim
  ·have e : i = ws.length := by omega
   subst e
   refine .inl ⟨z2 rfl, ?_⟩
   rw [List.drop_length] at q1
   simp only [compL2, Res.bind, List.append_nil] at q1
   exact hf s0 s acc xs D Q A1 R1 hD nr nf hDx l1 q1
theorem ie_comp2 (hc : X.calm = true) (hN : X.N.Nodup) (hi : II X Wx tg iter Fi) (ok : BlkOk X.N X.env.scope scope own) (us1 : List Nat) (hu : ∀ i ∈ us1, i ∈ own.map (·.2))
  (hg : ∀ (s : Shared) (H : Hp) (C : Addr) (cl : List (Str × Addr)) (fp : List Addr), PG Yc tg g) (tok : TgOk X.K X.w g G vs)
  (ht : ∀ (s : Shared) (H : Hp) (C : Addr) (cl : List (Str × Addr)) (fp : List Addr), ITs Yc ifs T)
  (hi1 : ∀ (s : Shared) (H : Hp) (C : Addr) (cl : List (Str × Addr)) (fp : List Addr), IE Yc W0 iter1 Fe)
  (hg1 : ∀ (s : Shared) (H : Hp) (C : Addr) (cl : List (Str × Addr)) (fp : List Addr), PG Yc tg1 g1) (tok1 : TgOk X.K X.w g1 G1 vs1)
  (ht1 : ∀ (s : Shared) (H : Hp) (C : Addr) (cl : List (Str × Addr)) (fp : List Addr), ITs Yc ifs1 T1)
  (he : ∀ (s : Shared) (H : Hp) (C : Addr) (cl : List (Str × Addr)) (fp : List Addr), IE Yc W0 elt E) (hf : FinOk X.K X.w Wx fin) (hv : ∀ i ∈ vs, i ∈ own.map (·.2) := by decide) (hv1 : ∀ i ∈ vs1, i ∈ us1 := by decide)
  (hs : ∀ x, foldedSetIterable iter X.env x = pure x := by intro _; rfl) (hs1 : ∀ env x, foldedSetIterable iter1 env x = pure x := by intro _ _; rfl) :
  IE X Wx Ycp (mComp2 fin Fi G T Fe G1 T1 E (own.map (·.2)) us1) :=
 PE.imp (pe_lc2 (tt := tT X.K X.w W0 T) (tt1 := tT X.K X.w W0 T1) (te := tE X.K X.w W0 E) (wi1 := iSq X.K (tE X.K X.w W0 Fe)) hc hN hi ok hu hg ht (fun s H C cl fp => pi_sq (hi1 s H C cl fp)) hg1 ht1 he hs hs1) (t_comp2 _ us1 tok hv tok1 hv1 hf)
end
end Mir
namespace Mir
open PySem PySem.Spec L2
open PyProof.Rows hiding St
end Mir
namespace Mir
open PySem PySem.Spec L2
open PyProof.Rows hiding St
end Mir
namespace Mir
open PySem PySem.Spec L2
open Sem (wp)
end Mir
namespace Mir
open PySem PySem.Spec L2
open PyProof.Rows hiding St
def S4.frzD (s : S4) (i : Nat) (a : Addr) (o : HO) : S4 := ⟨s.rho, fun b => s.fz b ∨ b = a, s.hp.set i none, upd s.H a o⟩
section
variable {K : PySem.W.Frag} {ω : World} {s : S4}
theorem aft_frzD (R : Rel K ω s) {i : Nat} {a : Addr} {c0 : Cell} {o : HO} (h0 : s.hp[i]? = some (some c0)) (ha : s.rho[i]? = some a) (hv : c0.alive := by exact True.intro) : Aft s (s.frzD i a o) := by
 refine ⟨⟨[], by simp [S4.frzD], by simp⟩, fun _ f => .inl f, fun b u e nl => ?_, fun b f => ?_, fun b l => .inl (live_frz R ha (show Live (s.frz i a) b from l)).1, fun b e => ?_⟩
 ·show upd s.H a o b = some u
  rw [upd_ne Ylf]; exact e
 ·rcases f with f | f
  ·exact .inl f
  ·exact .inr (.inr (by rw [f]; exact ⟨i, c0, ⟨h0, hv⟩, ha⟩))
 ·show upd s.H a o b ≠ none
  by_cases q : b = a
  ·rw [q, upd_same]; intro z; cases z
  ·rw [upd_ne q]; exact e
theorem rel_frzD (R : Rel K ω s) {i : Nat} {a : Addr} {c0 : Cell} {o : HO} (h0 : s.hp[i]? = some (some c0)) (ha : s.rho[i]? = some a) (hv : c0.alive := by exact True.intro) : Rel K ω (s.frzD i a o) := by
 have A := aft_frzD (o := o) R h0 ha hv
 refine ⟨by simp [S4.frzD, R.len], R.nd, fun b m => A.trk b (R.trk b m), fun b f => ?_, fun b l f => ?_, fun j d b e1 e2 => ?_⟩
 ·rcases f with f | f
  ·exact A.trk b (R.ftrk b f)
  ·rw [f]; exact A.trk a (R.liveH h0 ha)
 ·obtain ⟨l1, ne⟩ := live_frz R ha (show Live (s.frz i a) b from l)
  rcases f with f | f
  ·exact R.fz b l1 f
  ·exact ne f
 ·have e1 : (s.hp.set i none)[j]? = some (some d) := e1
  have e2 : s.rho[j]? = some b := e2
  by_cases hj : i = j
  ·subst hj
   rw [List.getElem?_set_self (List.getElem?_eq_some_iff.mp h0).1] at e1; cases e1
  ·rw [List.getElem?_set_ne hj] at e1
   have ne : b ≠ a := fun z => by
    subst z
    exact hj ((List.getElem?_inj (List.getElem?_eq_some_iff.mp ha).1 R.nd).mp (ha.trans e2.symm))
   show CellOk K ω (s.frzD i a o) b d (upd s.H a o b)
   rw [upd_ne ne]
   exact (R.cell j d b e1 e2).aft A R
theorem RwK.split : ∀ {ws : List (Key × W)} {vs : List (Key × V)} {ts : List T}, RwK K s ws vs → allT (ws.map (·.2)) = some ts → RfL K s.fz s.H ts (vs.map (·.2)) ∧ vs = (ws.map (·.1)).zip (vs.map (·.2)) := by
 intro ws
 induction ws with
 | nil =>
  intro vs ts h e
  rw [show vs = [] from h]
  have e' : ts = [] := by simpa [allT] using e.symm
  subst e'
  exact ⟨by simp [RfL], rfl⟩
 | cons x xs ih =>
  intro vs ts h e
  obtain ⟨v, r, e1, a, b⟩ := h
  subst e1
  have q := zcw e
  cases ts with
  | nil => cases q
  | cons t ts =>
   simp only [List.map_cons, List.cons.injEq] at q
   obtain ⟨q1, q2⟩ := q
   have e2 : allT (xs.map (·.2)) = some ts := by
    rw [q2]
    clear e ih q2 b
    induction ts with
    | nil => rfl
    | cons u us ih => simp [allT, ih]
   obtain ⟨i1, i2⟩ := ih b e2
   rw [q1] at a
   refine ⟨?_, ?_⟩
   ·simp only [List.map_cons, RfL]
    exact ⟨v, _, rfl, a, i1⟩
   ·simp only [List.map_cons, List.zip_cons_cons]
    rw [← i2]
theorem RwK.of_zip : ∀ {ks : List Key} {ts : List T} {vs : List V}, RfL K s.fz s.H ts vs → RwK K s (ks.zip Yw) (ks.zip vs)
 | [], _, _, _ => rfl
 | k :: ks, [], vs, h => by simp only [RfL] at h; rw [h]; rfl
 | k :: ks, t :: ts, vs, h => by
  simp only [RfL] at h
  obtain ⟨v, r, e, a, b⟩ := h
  subst e
  exact ⟨v, _, rfl, a, RwK.of_zip b⟩
end
/-- the dict that an expression gives, locked for good -/
def tFrzD (t : TE) : TE := fun σ H Q => t σ H fun x H1 => ∃ d kvs, x = .ref d ∧ H1 d = some (.dK kvs) ∧ ∀ od, Q x (upd H1 d (.frz od (.dK kvs)))
theorem pe_frzD {X : Cx} {e : Expr} {t : TE} (h : PE X e t) : PE X e (tFrzD t) := by
 refine ⟨fun pins s σ H Q I q => ?_⟩
 refine thn (h.run pins s σ H _ I q) fun v s1 ⟨x, H1, I1, r, d, kvs, ex, e, q1⟩ => ?_
 obtain ⟨od, I2⟩ := I1.lock e True.intro
 exact ⟨x, _, I2, r, q1 od⟩
def freezeD (w : W) (hp : IH) : Res W := match w with
 | .r i => (match getD hp i with
  | some kvs => (match allT (kvs.map (·.2)) with | some ts => .ok (.t (.dic (kvs.map (·.1)) ts)) (hp.set i none) | none => .bad)
  | none => .bad)
 | _ => .bad
def mFrzD (F : M W) : M W := fun eta hp => (F eta hp).bind fun a h1 => freezeD a h1
section
variable {X : Cx} {Wx : WX} {e m k v : Expr} {F Fd Fk Fv : M W} {pos : Pos}
theorem ie_frzD (he : IE X Wx e F) : IE X Wx e (mFrzD F) := PE.imp (pe_frzD he) fun σ H Q h =>
 tM.bind1 (R := fun (x : V) (H1 : Hp) => ∃ d kvs, x = .ref d ∧ H1 d = some (.dK kvs) ∧ ∀ od, Q x (upd H1 d (.frz od (.dK kvs)))) (k := fun (a : W) _ hp => freezeD a hp) h fun s eta w x R1 S1 f1 g => by
  unfold freezeD at g
  split at g
  ·rename_i i
   split at g
   ·rename_i kvs hd
    split at g
    ·rename_i ts ht
     obtain ⟨a, vs, e, e1, e2, l, _⟩ := R1.dic hd f1
     subst e
     refine ⟨a, vs, rfl, e2, fun od => ?_⟩
     obtain ⟨l1, l2⟩ := l.split ht
     have A := aft_frzD (o := .frz od (.dK vs)) R1 (zfl hd) e1
     refine g (.ref a) (s.frzD i a (.frz od (.dK vs))) rfl A (rel_frzD R1 (zfl hd) e1) ?_
     simp only [Rw, Rf]
     refine ⟨a, vs.map (·.2), rfl, ⟨.inr rfl, od, ?_⟩, ?_, RfL.aft A R1 _ _ l1⟩
     ·show upd s.H a _ a = _
      rw [upd_same, ← l2]
     ·have := RfL.length l1
      rw [this, List.length_map, List.length_map, l.length]
    ·exact g.elim
   ·exact g.elim
  ·exact g.elim
def dGetT : Op2 := fun a b hp => match a, asK b with
 | .t (.dic ks ts), some k => (match valW (ks.zip Yw) k with | some w => .ok w hp | none => .bad)
 | _, _ => .bad
theorem dic_rf {K : PySem.W.Frag} {s : S4} {ks : List Key} {ts : List T} {v : V} (h : Rw K s (.t (.dic ks ts)) v) : ∃ a o vs, v = .ref a ∧ s.H a = some (.frz o (.dK (ks.zip vs))) ∧ s.fz a ∧ ks.length = ts.length ∧ RfL K s.fz s.H ts vs := by
 simp only [Rw, Rf] at h
 obtain ⟨a, vs, e, ⟨f, o, t⟩, n, l⟩ := h
 exact ⟨a, o, vs, e, t, f, n, l⟩
theorem RwK.isSome {K : PySem.W.Frag} {s : S4} (k : Key) {ws : List Yfg} {vs : List (Key × V)} (r : RwK K s ws vs) : (valV vs k).isSome = (valW ws k).isSome := by
 cases h : valW ws k with
 | none => rw [r.none k h]; rfl
 | some w => obtain ⟨v, h1, _⟩ := r.val k h; rw [h1]; rfl
theorem ie_dgetT (hu : X.A.units + 64 < cLine) (ho : IE X Wx m Fd) (hi : IE X Wx k Fk) (hs : NoSl k := by intro _ _; rfl) : IE X Wx (.Subscript m k pos) (mBin dGetT Fd Fk) :=
 PE.imp (pe_dget Yf ho hi hs) fun σ H Q h =>
  tM.bind2 (Fam' := Rw X.K) (R := fun (x y : V) (H2 : Hp) => ∃ a v, x = .ref a ∧ DGet H2 a y (some v) ∧ Q v H2) (k := fun (a b : W) _ hp => dGetT a b hp) Rw.keep h fun s eta a b a' b' R1 S1 f1 f2 g => by
   unfold dGetT at g
   split at g
   ·rename_i ks ts k hk
    split at g
    ·rename_i w hw
     obtain ⟨a, o, vs, e, e2, _, _, l⟩ := dic_rf f1
     obtain ⟨v, h3, h4⟩ := (RwK.of_zip (ks := ks) l).val k hw
     refine ⟨a, v, e, ?_, g v s rfl Yl R1 h4⟩
     exact .inl ⟨_, k, .inr ⟨o, e2⟩, asK_eq hk f2, h3.symm⟩
    ·exact g.elim
   ·exact g.elim
end
end Mir
namespace Mir
open PySem PySem.Spec L2
open PyProof.Rows hiding St
end Mir
namespace MirS
open PySem PyProof.Rows Srt SrtO
section
variable {prog : Program} {w : World} {A : Around} {E : Value → Shared → Prop} {s : Shared}
theorem collect_sq {Q : List Value → Shared → Prop} (l : Addr) {T : String} {o : Obj} {xs : Array Value} {n : Nat} (hT : T = "list" ∨ T = "tuple") (ho : s.heap.get? l = some o) (hc : o.cls = .type T) (hd : o.data = .seq xs n)
  (hq : ∀ h1, s.heap.objs.size ≤ h1.objs.size → (∀ b u, s.heap.get? b = some u → h1.get? b = some u) → Q xs.toList { s with heap := h1 }) (hz : xs.size ≤ sizeLine) : wpAny Yal A (collect (.ref l)) Q E s := by
 let G : Heap := s.heap.push { cls := .type "list", data := .seq ([] : List Value).toArray }
 let G2 : Heap := G.update s.heap.objs.size (Obj.mapSeq (· ++ xs))
 have a0 : G.get? s.heap.objs.size = some { cls := .type "list", data := .seq #[] 0 } := Heap.get?_push_size _ rfl
 have a1 := Heap.get?_update_self (Obj.mapSeq (· ++ xs)) a0 rfl
 have read : wpAny Yal A (match Value.ref s.heap.objs.size with
   | Value.ref a => do
    match (← load a).data with
     | Data.seq xs _ => pure xs.toList
     | _ => unsupported "internal:collect"
   | _ => unsupported "internal:collect") Q E { s with heap := G2 } := by
  show wpAny _ A (load s.heap.objs.size >>= _) _ _ _
  refine wpAny_bind (wpAny_load a1 (wpAny_pure ?_))
  show Q ((#[] : Array Value) ++ xs).toList _
  rw [show ((#[] : Array Value) ++ xs).toList = xs.toList by simp]
  refine hq _ (by rw [Heap.size_update, size_push']; exact Nat.le_succ _) fun b u q => ?_
  rw [Heap.get?_update_other _ _ (Nat.ne_of_gt (Heap.lt_size q))]
  exact Heap.get?_push_of_some _ q
 unfold collect
 refine wpAny_bind (wpAny_runValue (codeAny_builtin F.entry_proto_collect ?_))
 rw [Around.under_plainId F.plain_proto_collect _]
 refine wpAny_bind (m := newList []) (wpAny_newObj_type ?_)
 refine wpAny_pure ⟨plainId_quiet F.plain_list_iadd _, codeAny_builtin F.entry_list_iadd ?_⟩
 rw [Around.under_plainId F.plain_list_iadd _]
 show wpAny _ A.in1 (Builtin.List.listExtendWith Ycf (.ref l) Ycf) _ _ { s with heap := G }
 have ex := wpAny_extend_seq (prog := prog) (w := w) (hsz := hz) (A := A) (R := fun r s' => r = .ok (.ret Ycf) ∧ s' = { s with heap := G2 }) (s := { s with heap := G }) _ l _ 0 hT a0 (Heap.get?_push_of_some _ ho) hc hd ⟨rfl, rfl⟩
 refine wpAny_mono ex (fun r s' q => ?_) fun e s' q => absurd q.1 Yaw
 cases r with
 | done f =>
  obtain ⟨e, rfl⟩ := q
  cases e
  exact read
 | again c => exact ⟨q.1, codeAny_mono q.2 fun r' s'' z => by obtain ⟨rfl, rfl⟩ := z; exact read⟩
theorem sorted_seqO {l : Addr} {T : String} {o : Obj} {vs : List Value} {n : Nat} {ltv : Value → Value → Bool} {Q : Value → Shared → Prop} (O : Swo ltv) (hT : T = "list" ∨ T = "tuple") (ho : s.heap.get? l = some o) (hc : o.cls = .type T) (hd : o.data = .seq vs.toArray n) (hz : vs.length ≤ sizeLine)
  (hS : 2 ≤ vs.length → ∀ (h₁ : Heap) (a : Addr), h₁.get? a = some Y2 → (∀ b o, s.heap.get? b = some o → b ≠ a ∧ h₁.get? b = some o) → SortableO prog w A.in1.in1 { s with heap := h₁ } a vs ltv)
  (h : ∀ (h2 : Heap) (p : Addr) (out : List Value) (ep : Nat), Srtd ltv out → Stb ltv out vs → s.heap.objs.size ≤ p → (∀ b o, s.heap.get? b = some o → h2.get? b = some o) → h2.get? p = some (seqObj "list" out.toArray ep) → Q (.ref p) { s with heap := h2 }) :
  wpAny Yal A (call Ydf [.ref l]) Q E s := by
 refine Calls.call_function_entry kind_sorted plain_sorted entry_sorted (args_sorted1 _) ?_
 unfold Builtin.«sorted»
 refine wpAny_bind (m := checkCount "sorted" 1 1 _) (wpAny_pure ?_)
 refine wpAny_bind (collect_sq l hT ho hc hd (fun h1 z1 k1 => ?_) (by rw [List.size_toArray]; exact hz))
 rw [show vs.toArray.toList = vs by simp]
 refine wpAny_bind (wpAny_newList ?_ hz)
 have hoL : (h1.push Y2).get? h1.objs.size = some Y2 := Heap.get?_push_size _ rfl
 have lt1 : ∀ b o, s.heap.get? b = some o → b < h1.objs.size := fun b o q => Heap.lt_size (k1 b o q)
 have keep : ∀ b o, s.heap.get? b = some o → b ≠ h1.objs.size ∧ (h1.push Y2).get? b = some o := fun b o q =>
  ⟨Nat.ne_of_lt (lt1 b o q), Heap.get?_push_of_some _ (k1 b o q)⟩
 show wpAny _ _ _ _ _ { s with heap := h1.push Y2 }
 refine wpAny_bind (wpAny_holding (wpAny_call_entry slot_list_sort ⟨_, hoL, rfl⟩ entry_list_sort (list_sort_ord O hoL hz (fun h2 => hS h2 _ _ hoL keep) fun out hs hb => ⟨_, rfl, ?_⟩) (args_list_sort _)))
 obtain ⟨ep, he⟩ := sortedHeap_at (vs := vs) (n := 0) (out := out.toArray) hoL
 refine wpAny_pure ⟨_, rfl, h _ h1.objs.size out ep hs hb ?_ (fun b o q => ?_) he⟩
 ·exact z1
 ·rw [sortedHeap_old (keep b o q).1 (by rw [size_push']; exact Nat.lt_succ_of_lt (lt1 b o q))]
  exact (keep b o q).2
end
end MirS
namespace Mir
open PySem PySem.Spec L2
open PyProof.Rows hiding St
end Mir
namespace Mir
open PySem PySem.Spec L2
open PyProof.Rows hiding St
theorem paired_at {α β : Type} {F : α → β → Prop} : ∀ {l : List α} {m : List β} {j : Nat} {x : β}, Paired F l m → m[j]? = some x → ∃ e, l[j]? = some e ∧ F e x
 | _, _, _, _, .nil, h => by simp at h
 | _, _, 0, _, .cons h _, e => by simp only [List.getElem?_cons_zero, Option.some.injEq] at e; subst e; exact ⟨_, rfl, h⟩
 | _, _, j + 1, _, .cons _ t, e => by
  obtain ⟨y, e1, e2⟩ := paired_at (j := j) t (by simpa using e)
  exact ⟨y, by simpa using e1, e2⟩
abbrev EntV := Addr × Addr × List Key × V
def mergeT (es : List EntV) (acc : List Ye6) : List Ye6 := es.foldl (fun acc e => putK acc e.2.2.1 e.2.2.2) acc
def keyT : T → Option Key
 | .int i => some (.inl i)
 | .str x => some (.inr x)
 | _ => none
def keysT : List T → Option (List Key)
 | [] => some []
 | t :: r => match keyT t, keysT r with
  | some k, some ks => some (k :: ks)
  | _, _ => none
def putG (kvs : List Yeb) (k : List Key) (v : T) : List Yeb :=
 if (kvs.any fun kv => decide (kv.1 = k)) = true then kvs.map (fun kv => if kv.1 = k then (kv.1, v) else kv) else kvs ++ [(k, v)]
def mergeG (es acc : List Yeb) : List Yeb := es.foldl (fun acc e => putG acc e.1 e.2) acc
def valD2 (kvs : List Yeb) (k : List Key) : Option T := (kvs.find? fun kv => decide (kv.1 = k)).map (·.2)
section
variable {K : PySem.W.Frag} {ω : World} {Wx : WX} {s : S4}
abbrev RD (K : PySem.W.Frag) (fz : Addr → Prop) (H : Hp) : List Yeb → List Ye6 → Prop := Paired fun e p => p.1 = e.1 ∧ Rf K fz H e.2 p.2
theorem RD.any {fz : Addr → Prop} {H : Hp} {l : List Yeb} {kvs : List Ye6} (r : RD K fz H l kvs) (k : List Key) : (kvs.any fun kv => decide (kv.1 = k)) = l.any fun kv => decide (kv.1 = k) := by
 induction r with
 | nil => rfl
 | cons h t ih => simp only [List.any_cons, ih, h.1]
theorem RD.repl {fz : Addr → Prop} {H : Hp} {l : List Yeb} {kvs : List Ye6} (r : RD K fz H l kvs) (k : List Key) {x : T} {v : V} (h : Rf K fz H x v) :
  RD K fz H (l.map fun kv => if kv.1 = k then (kv.1, x) else kv) (kvs.map fun kv => if kv.1 = k then (kv.1, v) else kv) := by
 induction r with
 | nil => exact .nil
 | @cons e p _ _ h1 t ih =>
  rw [List.map_cons, List.map_cons]
  refine .cons ?_ ih
  by_cases q : e.1 = k
  ·rw [if_pos q, if_pos (h1.1.trans q)]; exact ⟨h1.1, h⟩
  ·rw [if_neg q, if_neg (fun z => q (h1.1.symm.trans z))]; exact h1
theorem RD.put {fz : Addr → Prop} {H : Hp} {l : List Yeb} {kvs : List Ye6} (r : RD K fz H l kvs) (k : List Key) {x : T} {v : V} (h : Rf K fz H x v) : RD K fz H (putG l k x) (putK kvs k v) := by
 unfold putG putK
 rw [r.any k]
 split
 ·exact r.repl k h
 ·exact Paired.snoc r ⟨rfl, h⟩
theorem RD.merge {fz : Addr → Prop} {H : Hp} : ∀ {es : List (List Key × T)} {fs : List EntV} {l : List (List Key × T)} {kvs : List (List Key × V)}, Paired (fun (e : List Key × T) (f : EntV) => f.2.2.1 = e.1 ∧ Rf K fz H e.2 f.2.2.2) es fs → RD K fz H l kvs → RD K fz H (mergeG es l) (mergeT fs kvs)
 | _, _, _, _, .nil, r => r
 | _, _, _, _, .cons (a := e) (b := f) h t, r => by
  refine RD.merge (l := putG _ e.1 e.2) (kvs := putK _ f.2.2.1 f.2.2.2) t ?_
  rw [h.1]
  exact r.put _ h.2
theorem RD.zip {fz : Addr → Prop} {H : Hp} {l : List Yeb} {kvs : List Ye6} (r : RD K fz H l kvs) : kvs = (l.map (·.1)).zip (kvs.map (·.2)) ∧ RfL K fz H (l.map (·.2)) (kvs.map (·.2)) := by
 induction r with
 | nil => exact ⟨rfl, by simp [RfL]⟩
 | @cons e p _ _ h t ih =>
  refine ⟨?_, ?_⟩
  ·simp only [List.map_cons, List.zip_cons_cons]
   rw [← ih.1, ← h.1]
  ·simp only [List.map_cons, RfL]
   exact ⟨_, _, rfl, h.2, ih.2⟩
theorem RD.val {fz : Addr → Prop} {H : Hp} {l : List Yeb} {kvs : List Ye6} (r : RD K fz H l kvs) (k : List Key) : (valD2 l k = none ∧ valV kvs k = none) ∨ ∃ x v, valD2 l k = some x ∧ valV kvs k = some v ∧ Rf K fz H x v := by
 induction r with
 | nil => exact .inl ⟨rfl, rfl⟩
 | @cons e p _ _ h t ih =>
  by_cases q : e.1 = k
  ·refine .inr ⟨e.2, p.2, ?_, valV_pos (h.1.trans q), h.2⟩
   simp [valD2, List.find?_cons, q]
  ·have e1 : valV (p :: _) k = valV _ k := valV_neg (r := by assumption) (fun z => q (h.1.symm.trans z))
   have e2 : ∀ r, valD2 (e :: r) k = valD2 r k := fun r => by simp [valD2, List.find?_cons, q]
   rw [e1, e2]
   exact ih
theorem keys_rf {fz : Addr → Prop} {H : Hp} : ∀ {ts : List T} {vs : List V} {ks : List Key}, keysT ts = some ks → RfL K fz H ts vs → vs = ks.map kV
 | [], vs, ks, h, r => by
  simp only [keysT, Option.some.injEq] at h
  subst h
  simp only [RfL] at r
  exact r
 | t :: ts, vs, ks, h, r => by
  unfold keysT at h
  split at h
  ·rename_i k ks' h1 h2
   cases h
   simp only [RfL] at r
   obtain ⟨v, r', rfl, a, b⟩ := r
   rw [keys_rf h2 b, List.map_cons]
   refine congrArg (· :: _) ?_
   unfold keyT at h1
   split at h1
   ·cases h1; simp only [Rf] at a; exact a
   ·cases h1; simp only [Rf] at a; exact a
   ·cases h1
  ·cases h
end
end Mir
namespace Mir
open PySem PySem.Spec L2
open PyProof.Rows hiding St
section
variable {prog : Program} {w : World} {A : Around} {E : Value → Shared → Prop} {s : Shared} {z TI TO i1 i2 T : Addr} {fp1 fp2 : List Addr} {n1 n2 i : Nat} {P1 P2 : Nat → Value → Prop} {St1 St2 : Nat → Heap → Prop} {f : Bool} {oT : Obj}
/-- the next of a zip whose last tuple is still held: two iterators of any kind -/
theorem held_item {Q : Value → Shared → Prop} (S : ZipSep2 z TI TO i1 i2 fp1 fp2) (D1 : Draws prog w A i1 fp1 n1 P1 St1) (D2 : Draws prog w A i2 fp2 n2 P2 St2)
  (hz : PySem.IsZipHeld s.heap z TI TO T f) (hT : s.heap.get? T = some oT) (hTI : IsTupOf2 s.heap TI (.ref i1) (.ref i2)) (st1 : St1 i s.heap) (st2 : St2 i s.heap) (lt1 : i < n1) (lt2 : i < n2)
  (hQ : ∀ x y h' tk, P1 i x → P2 i y → PySem.IsZipHeld h' z TI TO T true → St1 (i + 1) h' → St2 (i + 1) h' → IsTupOf2 h' s.heap.objs.size x y →
   (∀ c o, c ≠ z → c ≠ i1 → c ≠ i2 → s.heap.get? c = some o → h'.get? c = some o) → Q Ycf { s with heap := h', toks := tk }) :
  wpAny Yal A (Builtin.«zip.__next__» ⟨[.ref z], []⟩) (fun fin s' => ∃ v, fin = .done (.ret v) ∧ Q v s') E s := by
 obtain ⟨h0, g, d, t0, os⟩ := s
 show wpAny _ _ (field (.ref z) 2 >>= _) _ _ _
 refine wpAny_bind (wpAny_field hz rfl (x := .bool false) rfl ?_)
 show wpAny _ _ (field (.ref z) 3 >>= _) _ _ _
 refine wpAny_bind (wpAny_field hz rfl (x := .ref TI) rfl (wpAny_bind (wpAny_seqItems hTI rfl ?_)))
 show wpAny _ _ (Builtin.SmallTypes.ownedTupleIsFree (.ref z) >>= _) _ _ _
 refine wpAny_bind (wpAny_tupleHeld_zip hz hT fun ha za sa => ?_)
 simp only [Bool.false_eq_true, if_false]
 refine wpAny_bind ?_
 rw [← Array.forIn_toList]
 simp only [List.forIn_cons, List.forIn_nil]
 refine wpAny_bind (wpAny_bind (wpAny_holding ?_))
 show wpAny _ _ (Builtin.SmallTypes.nextOf (.ref i1) >>= _) _ _ _
 refine wpAny_bind (D1.item i _ _ _ lt1 (D1.over st1 sa S.zf1) fun x hb tb p1 u1 sb => wpAny_pure ?_)
 refine wpAny_pure (wpAny_bind (wpAny_bind (wpAny_holding ?_)))
 show wpAny _ _ (Builtin.SmallTypes.nextOf (.ref i2) >>= _) _ _ _
 refine wpAny_bind (D2.item i _ _ _ lt2 (D2.over (D2.over st2 sa S.zf2) sb S.sep1_2) fun y hc tc p2 u2 sc => wpAny_pure ?_)
 refine wpAny_pure (wpAny_pure ?_)
 show wpAny _ _ (newTuple [x, y] >>= _) _ _ _
 refine wpAny_bind (wpAny_newTuple (wpAny_pure ⟨_, rfl, ?_⟩))
 have sz : hc.objs.size = h0.objs.size := by rw [sc.1, sb.1, sa.1]
 have zc : PySem.IsZipHeld hc z TI TO T true := sc.extBut _ _ S.zi2 (sb.extBut _ _ S.zi1 za)
 have kp : ∀ c o, c ≠ z → c ≠ i1 → c ≠ i2 → h0.get? c = some o → hc.get? c = some o := fun c o c1 c2 c3 e => sc.extBut _ _ c3 (sb.extBut _ _ c2 (sa.extBut _ _ c1 e))
 have v1 : St1 (i + 1) hc := D1.over u1 sc S.sep2_1
 have up : ∀ c o, hc.get? c = some o → (hc.push { cls := .type "tuple", data := .seq #[x, y] }).get? c = some o := fun c o e => Heap.get?_push_of_some _ e
 have tp : IsTupOf2 (hc.push { cls := .type "tuple", data := .seq #[x, y] }) hc.objs.size x y := Heap.get?_push_size _ rfl
 show Q (.ref hc.objs.size) _
 rw [sz] at tp ⊢
 exact hQ x y _ _ p1 p2 (up _ _ zc) (D1.frame _ _ _ v1 fun c _ o e => up c o e) (D2.frame _ _ _ u2 fun c _ o e => up c o e) tp fun c o c1 c2 c3 e => up c o (kp c o c1 c2 c3 e)
theorem held_end {Q : Fin → Shared → Prop} (S : ZipSep2 z TI TO i1 i2 fp1 fp2) (D1 : Draws prog w A i1 fp1 n1 P1 St1) (D2 : Draws prog w A i2 fp2 n2 P2 St2)
  (hz : PySem.IsZipHeld s.heap z TI TO T f) (hT : s.heap.get? T = some oT) (hTI : IsTupOf2 s.heap TI (.ref i1) (.ref i2)) (st1 : St1 i s.heap) (st2 : St2 i s.heap) (le1 : i ≤ n1) (le2 : i ≤ n2) (hend : i = n1 ∨ i = n2)
  (hE : ∀ h' tk e, (∀ c o, c ≠ z → c ≠ i1 → c ≠ i2 → s.heap.get? c = some o → h'.get? c = some o) → (∃ o, h'.get? e = some o ∧ o.cls = .type "StopIteration") → E (.ref e) { s with heap := h', toks := tk }) :
  wpAny Yal A (Builtin.«zip.__next__» ⟨[.ref z], []⟩) Q E s := by
 obtain ⟨h0, g, d, t0, os⟩ := s
 show wpAny _ _ (field (.ref z) 2 >>= _) _ _ _
 refine wpAny_bind (wpAny_field hz rfl (x := .bool false) rfl ?_)
 show wpAny _ _ (field (.ref z) 3 >>= _) _ _ _
 refine wpAny_bind (wpAny_field hz rfl (x := .ref TI) rfl (wpAny_bind (wpAny_seqItems hTI rfl ?_)))
 show wpAny _ _ (Builtin.SmallTypes.ownedTupleIsFree (.ref z) >>= _) _ _ _
 refine wpAny_bind (wpAny_tupleHeld_zip hz hT fun ha za sa => ?_)
 simp only [Bool.false_eq_true, if_false]
 refine wpAny_bind ?_
 rw [← Array.forIn_toList]
 simp only [List.forIn_cons, List.forIn_nil]
 refine wpAny_bind (wpAny_bind (wpAny_holding ?_))
 show wpAny _ _ (Builtin.SmallTypes.nextOf (.ref i1) >>= _) _ _ _
 by_cases e1 : i = n1
 ·subst e1
  refine wpAny_bind (D1.done _ _ _ (D1.over st1 sa S.zf1) fun hb e kb he => ?_)
  exact hE hb t0 e (fun c o c1 c2 _ q => kb _ _ c2 (sa.extBut _ _ c1 q)) he
 ·have e2 : i = n2 := hend.resolve_left e1
  refine wpAny_bind (D1.item i _ _ _ Yf (D1.over st1 sa S.zf1) fun x hb tb p1 u1 sb => wpAny_pure ?_)
  refine wpAny_pure (wpAny_bind (wpAny_bind (wpAny_holding ?_)))
  show wpAny _ _ (Builtin.SmallTypes.nextOf (.ref i2) >>= _) _ _ _
  subst e2
  refine wpAny_bind (D2.done _ _ _ (D2.over (D2.over st2 sa S.zf2) sb S.sep1_2) fun hc e kc he => ?_)
  exact hE hc tb e (fun c o c1 c2 c3 q => kc _ _ c3 (sb.extBut _ _ c2 (sa.extBut _ _ c1 q))) he
theorem next_held {Q : Option Value → Shared → Prop} (S : ZipSep2 z TI TO i1 i2 fp1 fp2) (D1 : Draws prog w A.in1 i1 fp1 n1 P1 St1) (D2 : Draws prog w A.in1 i2 fp2 n2 P2 St2)
  (hz : PySem.IsZipHeld s.heap z TI TO T f) (hT : s.heap.get? T = some oT) (hTI : IsTupOf2 s.heap TI (.ref i1) (.ref i2)) (st1 : St1 i s.heap) (st2 : St2 i s.heap) (lt1 : i < n1) (lt2 : i < n2)
  (hQ : ∀ x y h' tk, P1 i x → P2 i y → PySem.IsZipHeld h' z TI TO T true → St1 (i + 1) h' → St2 (i + 1) h' → IsTupOf2 h' s.heap.objs.size x y →
   (∀ c o, c ≠ z → c ≠ i1 → c ≠ i2 → s.heap.get? c = some o → h'.get? c = some o) → Q (some Ycf) { s with heap := h', toks := tk }) :
  wpAny Yal A (pyNext (.ref z)) Q E s := by
 have ty : s.TypeIs (.ref z) "zip" := ⟨_, hz, rfl⟩
 unfold pyNext
 exact wpAny_bind (wpAny_attempt (wpAny_callSpecial?_slot (name := Str.ofString "__next__") ty F.slot_zip_next
  (wpAny_call_entry F.slot_zip_next ty F.entry_zip_next (held_item S D1 D2 hz hT hTI st1 st2 lt1 lt2 fun x y h' tk a b c d e k r => wpAny_pure (hQ x y h' tk a b c d e k r)) (F.args_zip_next_1 _))))
theorem stop_held {Q : Option Value → Shared → Prop} (S : ZipSep2 z TI TO i1 i2 fp1 fp2) (D1 : Draws prog w A.in1 i1 fp1 n1 P1 St1) (D2 : Draws prog w A.in1 i2 fp2 n2 P2 St2)
  (hz : PySem.IsZipHeld s.heap z TI TO T f) (hT : s.heap.get? T = some oT) (hTI : IsTupOf2 s.heap TI (.ref i1) (.ref i2)) (st1 : St1 i s.heap) (st2 : St2 i s.heap) (le1 : i ≤ n1) (le2 : i ≤ n2) (hend : i = n1 ∨ i = n2)
  (hQ : ∀ h' tk, (∀ c o, c ≠ z → c ≠ i1 → c ≠ i2 → s.heap.get? c = some o → h'.get? c = some o) → Q none { s with heap := h', toks := tk }) : wpAny Yal A (pyNext (.ref z)) Q E s := by
 have ty : s.TypeIs (.ref z) "zip" := ⟨_, hz, rfl⟩
 unfold pyNext
 refine wpAny_bind (wpAny_attempt (wpAny_callSpecial?_slot (name := Str.ofString "__next__") ty F.slot_zip_next
  (wpAny_call_entry F.slot_zip_next ty F.entry_zip_next (held_end S D1 D2 hz hT hTI st1 st2 le1 le2 hend fun h' tk e k he => ?_) (F.args_zip_next_1 _))))
 obtain ⟨o, ho, hc⟩ := he
 exact wpAny_bind (wpAny_isInstance (T := "StopIteration") (b := true) ⟨o, ho, hc⟩ isSubtype_stop (wpAny_pure (hQ _ _ k)))
end
section
variable {prog : Program} {w : World}
theorem SeqH.there {h : Heap} {kd : Kd} {a : Addr} {its : Array Value} (x : SeqH h kd a its) : ∃ o, h.get? a = some o := by
 cases kd with
 | l => obtain ⟨o, e, _⟩ := x; exact ⟨o, e⟩
 | t => obtain ⟨o, e, _⟩ := x; exact ⟨o, e⟩
theorem SeqH.kp {h h' : Heap} {kd : Kd} {a : Addr} {its : Array Value} (x : SeqH h kd a its) (k : ∀ o, h.get? a = some o → h'.get? a = some o) : SeqH h' kd a its := by
 cases kd with
 | l => obtain ⟨o, e, r⟩ := x; exact ⟨o, k o e, r⟩
 | t => obtain ⟨o, e, r⟩ := x; exact ⟨o, k o e, r⟩
/-- a zip as the argument of dict() -/
theorem zip_arg {k1 k2 : Kd} {a b z TI TO i1 i2 : Addr} (S : ZipSep2 z TI TO i1 i2 [i1, a] [i2, b]) (na : a ≠ i1) (nb : b ≠ i2) (xs ys : Array Value) :
  PairArg prog w "zip" z [z, TI, TO, i1, a, i2, b] [z, TO, i1, i2] (min xs.size ys.size) (fun i k v => xs[i]? = some k ∧ ys[i]? = some v)
   (fun h => IsZip h z TI TO .none ∧ IsTupOf2 h TI (.ref i1) (.ref i2) ∧ (∃ p q, IsTupOf2 h TO p q) ∧ (IterH h k1 i1 a 0 ∧ SeqH h k1 a xs) ∧ (IterH h k2 i2 b 0 ∧ SeqH h k2 b ys)) where
 type := fun s ok => ⟨_, ok.1, rfl⟩
 notDict := by decide
 keep := fun h h' ok hk => by
  obtain ⟨hz, hTI, ⟨p, q, hTO⟩, ⟨j1, q1⟩, j2, q2⟩ := ok
  exact ⟨hk _ _ hz, hk _ _ hTI, ⟨p, q, hk _ _ hTO⟩, ⟨j1.at_ fun o e => hk _ o e, q1.kp fun o e => hk _ o e⟩, j2.at_ fun o e => hk _ o e, q2.kp fun o e => hk _ o e⟩
 there := fun h ok c hc => by
  obtain ⟨hz, hTI, ⟨p, q, hTO⟩, ⟨j1, q1⟩, j2, q2⟩ := ok
  simp only [List.mem_cons, List.not_mem_nil, or_false] at hc
  rcases hc with rfl | rfl | rfl | rfl | rfl | rfl | rfl
  ·exact ⟨_, hz⟩
  ·exact ⟨_, hTI⟩
  ·exact ⟨_, hTO⟩
  ·obtain ⟨o, e, _⟩ := j1.ob; exact ⟨o, e⟩
  ·exact q1.there
  ·obtain ⟨o, e, _⟩ := j2.ob; exact ⟨o, e⟩
  ·exact q2.there
 sub := fun c hc => by simp at hc ⊢; rcases hc with rfl | rfl | rfl | rfl <;> simp
 noKeys := fun A s Q E hA ok h => getAttrOr_miss_zip ok.1 rfl rfl rfl zip_no_keys Yg hA h
 iter := fun A s d Q E hA ok hd hdf h => by
  obtain ⟨hz, hTI, ⟨p, q, hTO⟩, s1, s2⟩ := ok
  simp only [List.mem_cons, List.not_mem_nil, or_false, not_or] at hdf
  obtain ⟨dz, dTI, dTO, d1, da, d2, db⟩ := hdf
  have D1 := zfe (prog := prog) (w := w) (A := A.in1) (by simpa using hA) k1 i1 a na xs
  have D2 := zfe (prog := prog) (w := w) (A := A.in1) (by simpa using hA) k2 i2 b nb ys
  refine wpAny_pyIter_zip hz (h z [z, TO, i1, i2] (fun i h => IsTupOf2 h TI (.ref i1) (.ref i2) ∧ (IterH h k1 i1 a i ∧ SeqH h k1 a xs) ∧ (IterH h k2 i2 b i ∧ SeqH h k2 b ys) ∧
   ((IsZip h z TI TO .none ∧ ∃ p q, IsTupOf2 h TO p q) ∨ ∃ T f oT, PySem.IsZipHeld h z TI TO T f ∧ h.get? T = some oT ∧ T ≠ z ∧ T ≠ i1 ∧ T ≠ i2 ∧ T ≠ d)) s.heap s.toks ?_
   ⟨hTI, s1, s2, .inl ⟨hz, p, q, hTO⟩⟩ (fun _ _ e => e) fun c hc => .inl hc)
  exact {
   off := fun hm => by
    simp only [List.mem_cons, List.not_mem_nil, or_false] at hm
    rcases hm with e | e | e | e
    ·exact dz e
    ·exact dTO e
    ·exact d1 e
    ·exact d2 e
   frame := fun i g g' st hk => by
    obtain ⟨gTI, t1, t2, gz⟩ := st
    refine ⟨hk _ _ (Ne.symm dTI) gTI, D1.frame _ _ _ t1 fun c hc o e => hk c o (fun x => ?_) e, D2.frame _ _ _ t2 fun c hc o e => hk c o (fun x => ?_) e, ?_⟩
    ·simp only [List.mem_cons, List.not_mem_nil, or_false] at hc
     rcases hc with y | y
     ·exact d1 (x.symm.trans y)
     ·exact da (x.symm.trans y)
    ·simp only [List.mem_cons, List.not_mem_nil, or_false] at hc
     rcases hc with y | y
     ·exact d2 (x.symm.trans y)
     ·exact db (x.symm.trans y)
    ·rcases gz with ⟨gz, p, q, gTO⟩ | ⟨T, f, oT, gz, gT, r1, r2, r3, r4⟩
     ·exact .inl ⟨hk _ _ (Ne.symm dz) gz, p, q, hk _ _ (Ne.symm dTO) gTO⟩
     ·exact .inr ⟨T, f, oT, hk _ _ (Ne.symm dz) gz, hk _ _ r4 gT, r1, r2, r3, r4⟩
   item := fun i u Q1 E1 hi st hds hQ => by
    obtain ⟨gTI, t1, t2, gz⟩ := st
    have l1 : i < xs.size := Nat.lt_of_lt_of_le hi (Nat.min_le_left ..)
    have l2 : i < ys.size := Nat.lt_of_lt_of_le hi (Nat.min_le_right ..)
    have lt : ∀ {c o}, u.heap.get? c = some o → u.heap.objs.size ≠ c := fun e => Nat.ne_of_gt (Heap.lt_size e)
    have m1 : u.heap.objs.size ≠ i1 := by obtain ⟨_, e⟩ := D1.live _ _ t1; exact lt e
    have m2 : u.heap.objs.size ≠ i2 := by obtain ⟨_, e⟩ := D2.live _ _ t2; exact lt e
    rcases gz with ⟨gz, p, q, gTO⟩ | ⟨T, f, oT, gz, gT, r1, r2, r3, r4⟩
    ·refine wpAny_pyNext_zipD2_item S D1 D2 gz gTI gTO t1 t2 l1 l2 fun x y h' tk p1 p2 b1 b2 v1 v2 b5 b6 kp => ?_
     exact hQ u.heap.objs.size x y h' tk ⟨p1, p2⟩ (.inl ⟨_, b5, rfl, _, rfl⟩)
      ⟨kp _ _ S.TIz S.TITO S.TIi1 S.TIi2 gTI, v1, v2, .inr ⟨u.heap.objs.size, false, _, b1, b5, lt gz, m1, m2, Nat.ne_of_gt hds⟩⟩
      fun c o hc e => kp c o Yan Yan Yan Yan e
    ·refine next_held S D1 D2 gz gT gTI t1 t2 l1 l2 fun x y h' tk p1 p2 b1 v1 v2 b5 kp => ?_
     exact hQ u.heap.objs.size x y h' tk ⟨p1, p2⟩ (.inl ⟨_, b5, rfl, _, rfl⟩)
      ⟨kp _ _ S.TIz S.TIi1 S.TIi2 gTI, v1, v2, .inr ⟨T, true, oT, b1, kp _ _ r1 r2 r3 gT, r1, r2, r3, r4⟩⟩
      fun c o hc e => kp c o Yan Yan Yan e
   done := fun u Q1 E1 st hQ => by
    obtain ⟨gTI, t1, t2, gz⟩ := st
    have en : min xs.size ys.size = xs.size ∨ min xs.size ys.size = ys.size := by omega
    rcases gz with ⟨gz, p, q, gTO⟩ | ⟨T, f, oT, gz, gT, r1, r2, r3, r4⟩
    ·exact wpAny_pyNext_zipD2_end S D1 D2 gz gTI gTO t1 t2 (Nat.min_le_left ..) (Nat.min_le_right ..) en fun h' tk kp => hQ h' tk fun c o hc e => kp c o Yan Yan Yan Yan e
    ·exact stop_held S D1 D2 gz gT gTI t1 t2 (Nat.min_le_left ..) (Nat.min_le_right ..) en fun h' tk kp => hQ h' tk fun c o hc e => kp c o Yan Yan Yan e }
end
section
variable {X : Cx}
def tDZip (K : PySem.W.Frag) (ta : TA) : TE := fun σ H Q => ta σ H fun vs H1 => ∃ (k1 k2 : Kd) (a b : Addr) (ks : List Key) (ys : List V), vs = [.ref a, .ref b] ∧ Sq K H1 k1 a (ks.map kV) ∧ Sq K H1 k2 b ys ∧ ks.length ≤ 16777216 ∧ ∀ p, H1 p = none → Q (.ref p) (upd H1 p Yfs)
theorem kv_zip : ∀ {ks : List Key} {ys : List V} {us : List Value}, Vals ys us → KV (ks.zip ys) (ks.zip us)
 | [], _, _, _ => .nil
 | k :: ks, [], _, r => by cases r; exact .nil
 | k :: ks, y :: ys, _, r => by
  cases r with
  | cons h t => exact .cons ⟨rfl, h⟩ (kv_zip t)
theorem pe_dzip {e e2 : Expr} {ta : TA} {p p2 q pos : Pos} (hc : X.calm = true) (hg : Gl X "dict") (hm : X.mg "dict" = none) (hg2 : Gl X "zip") (hm2 : X.mg "zip" = none) (ha : PA X [e, e2] ta)
  (hs : starEach [e, e2] X.env = (false, eval e X.env) :: starEach [e2] X.env := by rfl) (hpl : (backTo q (starEach [e2] X.env)).any (·.1) = false := by rfl)
  (na : starEach [Expr.Call (.Name "zip" p2) [e, e2] [] q] X.env = (false, eval (Expr.Call (.Name "zip" p2) [e, e2] [] q) X.env) :: starEach [] X.env := by rfl) :
  PE X Yjy (tDZip X.K ta) := ⟨fun pins s σ H Q I h => by
 refine Call_ (ld_blt I hg hm boot_dict (callWith_type1 (args_cons (Call_ (ld_blt I hg2 hm2 boot_zip (PyProof.Rows.callWith_type1 (thn (ha.run q pins s σ H _ I h) ?_) hs hpl))) na) na rfl))
 rintro us s1 ⟨vs, H1, I1, r1, k1, k2, a, b, ks, ys, ex, hqx, hqy, hz0, qq⟩
 subst ex
 obtain ⟨w1, w2, rfl, rfl, rfl⟩ := r1.two
 obtain ⟨xs, rv, p1⟩ := Inv_sq I1 hqx
 obtain ⟨zs, rv2, p2'⟩ := Inv_sq I1 hqy
 have la := p1.lt
 have lb := p2'.lt
 refine zip_begins2 (zfu k1 a xs.toArray) (zfu k2 b zs.toArray) p1 p2' fun h' hz hTI hTO h1 h2 hsz hk => ?_
 have lx : xs.length = ks.length := by rw [← rv.length, List.length_map]
 have ml : (mergeK [] (ks.zip ys)).length ≤ sizeLine := by
  refine Nat.le_trans (length_mergeK _ []) ?_
  rw [List.length_nil, Nat.zero_add, List.length_zip, sizeLine_eq]
  omega
 refine args_nil (call_dict_pairs (s := { s1 with heap := h' }) (knd := mixKind X.prog X.w) (kvs := ks.zip zs) (zip_arg (zip_sep2 (fp1 := [a]) (fp2 := [b]) (by simpa using la) (by simpa using lb)) (Nat.ne_of_lt la) (Nat.ne_of_lt (Nat.lt_succ_of_lt lb)) xs.toArray zs.toArray) (I1.ok.hd hc)
  ⟨hz, hTI, ⟨_, _, hTO⟩, ⟨IterH.new h1, p1.kp fun o e => hk _ o e⟩, IterH.new h2, p2'.kp fun o e => hk _ o e⟩ ⟨by simp [lx], ?_⟩ (by simp [lx, sizeLine_eq]; omega) fun g tk hd' kp => ?_)
 ·rintro i key v ⟨ek, ev⟩
  have ek : xs[i]? = some key := by simpa using ek
  have ev : zs[i]? = some v := by simpa using ev
  have li : i < ks.length := by
   have := (List.getElem?_eq_some_iff.mp ek).1
   omega
  obtain ⟨u, e1, r⟩ := Vals.get rv (i := i) (x := kV ks[i]) (by rw [List.getElem?_map, List.getElem?_eq_getElem li]; rfl)
  rw [ek] at e1
  cases e1
  refine ⟨ks[i], ?_, kV_is (P := X.prog) (w := X.w) r⟩
  rw [List.getElem?_zip_eq_some]
  exact ⟨List.getElem?_eq_getElem li, ev⟩
 ·have keep : ∀ c o, s1.heap.get? c = some o → g.get? c = some o := fun c o e => kp c o (fun hm => by
   have lt := Heap.lt_size e
   have e' : c = s1.heap.objs.size + 4 ∨ c = s1.heap.objs.size + 3 ∨ c = s1.heap.objs.size ∨ c = s1.heap.objs.size + 1 := by simpa using hm
   have nl : ∀ n : Nat, c = s1.heap.objs.size + n → False := fun n z => absurd lt (by rw [z]; exact Nat.not_lt.mpr (Nat.le_add_right _ _))
   rcases e' with z | z | z | z
   ·exact nl 4 z
   ·exact nl 3 z
   ·exact nl 0 z
   ·exact nl 1 z) (hk c o e)
  have le : s1.heap.objs.size ≤ h'.objs.size := by rw [hsz]; exact Nat.le_add_right _ _
  have ns : (h'.objs.size == sysModules) = false := beq_eq_false_iff_ne.mpr (Nat.ne_of_gt (Nat.lt_of_lt_of_le I1.big le))
  exact ⟨.ref h'.objs.size, upd H1 h'.objs.size Yfs, I1.laid (t' := tk) keep le (show ObjOk X.prog X.w _ _ _ Yfs from ⟨ml, ns, merged [] (ks.zip zs), KV.merge (kv_zip rv2) .nil, hd'⟩), rfl, qq _ (I1.hok.fresh le)⟩⟩
end
/-- dict(zip(keys, values)): a live dict -/
def dzipE : OpN := fun ws hp => match ws with
 | [x, y] => match seqT x, seqT y with
  | some us, some ts => match keysT us with
   | some ks => if ks.length ≤ 16777216 then .ok Ydp (hp ++ [some (.dic (zf0 [] (ks.zip Yw)))]) else .bad
   | none => .bad
  | _, _ => .bad
 | _ => .bad
section
variable {X : Cx} {Wx : WX} {e e2 : Expr} {Fs : M (List W)} {p p2 q pos : Pos}
theorem ie_dzip (hc : X.calm = true) (hm : X.mg "dict" = none) (hm2 : X.mg "zip" = none) (ha : IA X Wx [e, e2] Fs) (hg : Gl X "dict" := by rfl) (hg2 : Gl X "zip" := by rfl)
  (hs : starEach [e, e2] X.env = (false, eval e X.env) :: starEach [e2] X.env := by rfl) (hpl : (backTo q (starEach [e2] X.env)).any (·.1) = false := by rfl)
  (na : starEach [Expr.Call (.Name "zip" p2) [e, e2] [] q] X.env = (false, eval (Expr.Call (.Name "zip" p2) [e, e2] [] q) X.env) :: starEach [] X.env := by rfl) :
  IE X Wx Yjy (mApp dzipE Fs) :=
 PE.imp (pe_dzip hc hg hm hg2 hm2 ha hs hpl na) fun σ H Q h =>
  tM.bind1 (R := fun (vs : List V) (H1 : Hp) => ∃ (k1 k2 : Kd) (a b : Addr) (ks : List Key) (ys : List V), vs = [.ref a, .ref b] ∧ Sq X.K H1 k1 a (ks.map kV) ∧ Sq X.K H1 k2 b ys ∧ ks.length ≤ 16777216 ∧ ∀ p, H1 p = none → Q (.ref p) (upd H1 p Yfs))
   (k := fun (ws : List W) _ h => dzipE ws h) h fun s eta ws vs R1 S1 f1 g => by
   unfold dzipE at g
   split at g
   ·rename_i x y
    split at g
    ·rename_i us ts h1 h2
     split at g
     ·rename_i ks hk
      split at g
      ·rename_i hz
       obtain ⟨v1, v2, rfl, r1, r2⟩ := RwL.two f1
       obtain ⟨k1, a, rfl, xs, q1, l1, _⟩ := fsq R1 h1 r1
       obtain ⟨k2, b, rfl, ys, q2, l2, _⟩ := fsq R1 h2 r2
       have ex := keys_rf hk l1
       subst ex
       exact ⟨k1, k2, a, b, ks, ys, rfl, q1, q2, hz, fun p np => g (.ref p) (s.addL p (.dic (zf0 [] (ks.zip Yw))) Yfs) rfl (zen R1 np) (zff R1 np ⟨_, rfl, RwK.merge (RwK.of_zip l2) (show RwK X.K s [] [] from rfl)⟩) (addL_r R1)⟩
      ·exact g.elim
     ·exact g.elim
    ·exact g.elim
   ·exact g.elim
end
end Mir
namespace Mir
open PySem PySem.Spec L2
open PyProof.Rows hiding St
section
variable {A B : Type} {eta : IS} {hp : IH}
@[simp] theorem zao {a : A} {k : A → IH → Res B} : (Res.ok a hp).bind k = k a hp := rfl
@[simp] theorem bind_bad {k : A → IH → Res B} : (Res.bad : Res A).bind k = .bad := rfl
@[simp] theorem bind_er {e : Ex} {k : A → IH → Res B} : (Res.er e eta hp : Res A).bind k = .er e eta hp := rfl
@[simp] theorem zc7 {a : A} : noEr (Res.ok a hp) = Res.ok a hp := rfl
@[simp] theorem noEr_bad : noEr (Res.bad : Res A) = .bad := rfl
@[simp] theorem then_nx {S : M Fl} {e : IS} : thenF S (.nx e) hp = S e hp := rfl
@[simp] theorem then_rt {S : M Fl} {w : W} : thenF S (.rt w) hp = .ok (.rt w) hp := rfl
@[simp] theorem then_bk {S : M Fl} {e : IS} : thenF S (.bk e) hp = .ok (.bk e) hp := rfl
@[simp] theorem then_ct {S : M Fl} {e : IS} : thenF S (.ct e) hp = .ok (.ct e) hp := rfl
@[simp] theorem p_var {i : Nat} : mVar i eta hp = (match eta[i]? with | some (some w) => .ok w hp | _ => .bad) := rfl
@[simp] theorem p_c {x : T} : mC x eta hp = (.ok (.t x) hp) := rfl
@[simp] theorem p_bin {f : Op2} {Fa Fb : M W} : mBin f Fa Fb eta hp = ((Fa eta hp).bind fun a h1 => (Fb eta h1).bind fun b h2 => f a b h2) := rfl
@[simp] theorem p_un {f : Op1} {Fa : M W} : mUn f Fa eta hp = ((Fa eta hp).bind fun a h1 => f a h1) := rfl
@[simp] theorem p_nil  : mNil eta hp = (.ok [] hp) := rfl
@[simp] theorem p_cons {Fa : M W} {Fr : M (List W)} : zac Fa Fr eta hp = ((Fa eta hp).bind fun a h1 => (Fr eta h1).bind fun r h2 => .ok (a :: r) h2) := rfl
@[simp] theorem p_star {Fa : M W} {Fr : M (List W)} : mStar Fa Fr eta hp = ((Fa eta hp).bind fun a h1 => match items h1 a with | some ws => (Fr eta h1).bind fun r h2 => .ok (ws ++ r) h2 | none => .bad) := rfl
@[simp] theorem p_app {f : OpN} {Fs : M (List W)} : mApp f Fs eta hp = ((Fs eta hp).bind fun a h1 => f a h1) := rfl
@[simp] theorem p_frz {F : M W} : mFrz F eta hp = ((F eta hp).bind fun a h1 => zdi a h1) := rfl
@[simp] theorem zci {f : W → IH → Res Bool} {F : M W} : zah f F eta hp = ((F eta hp).bind fun a h1 => f a h1) := rfl
@[simp] theorem p_and {U V : M Bool} : mAnd U V eta hp = ((U eta hp).bind fun a h1 => if a then V eta h1 else .ok false h1) := rfl
@[simp] theorem p_or {U V : M Bool} : mOr U V eta hp = ((U eta hp).bind fun a h1 => if a then .ok true h1 else V eta h1) := rfl
@[simp] theorem p_not {U : M Bool} : mNot U eta hp = ((U eta hp).bind fun a h1 => .ok (!a) h1) := rfl
@[simp] theorem p_if {A : Type} {U : M Bool} {F G : M A} : mIf U F G eta hp = ((U eta hp).bind fun b h1 => if b then F eta h1 else G eta h1) := rfl
@[simp] theorem p_andV {Fa Fb : M W} : mAndV Fa Fb eta hp = ((Fa eta hp).bind fun a h1 => match a with | .t (.bl true) => Fb eta h1 | .t (.bl false) => .ok (.t Yo) h1 | _ => .bad) := rfl
@[simp] theorem p_orV {Fa Fb : M W} : mOrV Fa Fb eta hp = ((Fa eta hp).bind fun a h1 => match a with | .t (.bl true) => .ok (.t Yae) h1 | .t (.bl false) => Fb eta h1 | _ => .bad) := rfl
@[simp] theorem p_notV {Fa : M W} : mNotV Fa eta hp = ((Fa eta hp).bind fun a h1 => match a with | .t (.bl b) => .ok (.t (.bl (!b))) h1 | _ => .bad) := rfl
@[simp] theorem p_chain {f g : Op2} {Fa Fb Fc : M W} : mChain f g Fa Fb Fc eta hp = ((Fa eta hp).bind fun a h1 => (Fb eta h1).bind fun b h2 => (f a b h2).bind fun z h3 => match z with | .t (.bl true) => (Fc eta h3).bind fun c h4 => g b c h4 | .t (.bl false) => .ok (.t Yo) h3 | _ => .bad) := rfl
@[simp] theorem p_skip  : za8 eta hp = (.ok Yhm hp) := rfl
@[simp] theorem p_seq {S R : M Fl} : mSeq S R eta hp = ((S eta hp).bind (thenF R)) := rfl
@[simp] theorem zfm {F : M W} : mRet F eta hp = ((F eta hp).bind fun a h1 => .ok (.rt a) h1) := rfl
@[simp] theorem p_retN  : mRetN eta hp = (.ok (.rt Ya0) hp) := rfl
@[simp] theorem p_drop {F : M W} : mDrop F eta hp = ((F eta hp).bind fun _ h1 => .ok Yhm h1) := rfl
@[simp] theorem p_brk  : mBrk eta hp = (.ok (.bk eta) hp) := rfl
@[simp] theorem p_cnt  : mCnt eta hp = (.ok (.ct eta) hp) := rfl
@[simp] theorem p_asg {F : M W} {G : W → IS → Option IS} : mAsg F G eta hp = ((F eta hp).bind fun a h1 => match G a eta with | some e => .ok (.nx e) h1 | none => .bad) := rfl
@[simp] theorem p_set {i : Nat} {F : M W} : mSet i F eta hp = ((F eta hp).bind fun a h1 => .ok (.nx Yf2) h1) := rfl
@[simp] theorem p_par {is : List Nat} {Fs : M (List W)} : mPar is Fs eta hp = ((Fs eta hp).bind fun ws h1 => if ws.length = is.length then .ok Yky h1 else .bad) := rfl
@[simp] theorem p_parG {n : Nat} {Fs : M (List W)} {Gs : List W → IS → Option IS} : mParG n Fs Gs eta hp = ((Fs eta hp).bind fun ws h1 => if ws.length = n ∧ n ≤ 16777216 then (match Gs ws eta with | some e => .ok (.nx e) h1 | none => .bad) else .bad) := rfl
@[simp] theorem p_aug {i : Nat} {f : Op2} {F : M W} : mAug i f F eta hp = (match eta[i]? with | some (some x) => (F eta hp).bind fun y h1 => (f x y h1).bind fun z h2 => .ok (.nx (eta.set i (some z))) h2 | _ => .bad) := rfl
@[simp] theorem p_for {Fi : M (List W)} {G : W → IS → Option IS} {S : M Fl} : mFor Fi G S eta hp = ((Fi eta hp).bind fun ws h1 => forL G S ws eta h1) := rfl
@[simp] theorem p_while {n : Nat} {U : M Bool} {S : M Fl} : mWhile n U S eta hp = (whileL U S n eta hp) := rfl
@[simp] theorem p_comp {fin : OpN} {Fi : M (List W)} {G : W → IS → Option IS} {U : M Bool} {E : M W} {vs : List Nat} : zba fin Fi G U E vs eta hp = ((Fi eta hp).bind fun ws h1 => if ws.length ≤ 16777216 then (zb3 G U E (zbp eta vs) ws h1).bind fun r h2 => fin r h2 else .bad) := rfl
@[simp] theorem p_sq {F : M W} : mSq F eta hp = ((F eta hp).bind sqI) := rfl
@[simp] theorem p_src {f : List W → IH → Res (List W)} {Fs : M (List W)} : mSrc f Fs eta hp = ((Fs eta hp).bind f) := rfl
@[simp] theorem p_yes  : mYes eta hp = (.ok true hp) := rfl
@[simp] theorem p_call {f : OpN} {ds : List T} {Fs : M (List W)} : zar f ds Fs eta hp = ((Fs eta hp).bind fun ws h1 => noEr (f (ws ++ ds.map W.t) h1)) := rfl
@[simp] theorem p_meth0 {ty : W → IH → Bool} {f : OpM} {Fo : M W} : mMeth0 ty f Fo eta hp = ((Fo eta hp).bind fun w h1 => if ty w h1 = true then f w [] h1 else .bad) := rfl
@[simp] theorem p_meth {ty : W → IH → Bool} {f : OpM} {Fo : M W} {Fs : M (List W)} : mMeth ty f Fo Fs eta hp = ((Fo eta hp).bind fun w h1 => if ty w h1 = true then (Fs eta h1).bind fun ws h2 => f w ws h2 else .bad) := rfl
@[simp] theorem p_sl {Fa : M W} {Fl Fh : MO} : mSl Fa Fl Fh eta hp = ((Fa eta hp).bind fun a h1 => (Fl eta h1).bind fun l h2 => (Fh eta h2).bind fun h h3 => slW a l h h3) := rfl
@[simp] theorem p_noPart  : zca eta hp = (.ok none hp) := rfl
@[simp] theorem p_part {F : M W} : ze8 F eta hp = ((F eta hp).bind fun a h1 => match a with | .t (.int i) => .ok (some i) h1 | _ => .bad) := rfl
@[simp] theorem p_disp {ps : List (Key × M W)} : mDisp ps eta hp = ((mVals ps eta (hp ++ [some (.dic [])])).bind fun kvs h1 => match getD h1 hp.length with | some [] => if kvs.length ≤ 15 then .ok Ydp (h1.set hp.length (some (.dic (zf0 [] kvs)))) else .bad | _ => .bad) := rfl
@[simp] theorem p_dput {Fd Fk Fv : M W} : mDPut Fd Fk Fv eta hp = ((Fv eta hp).bind fun v h1 => (Fd eta h1).bind fun d h2 => (Fk eta h2).bind fun k h3 => match d, asK k with | .r i, some k => (match getD h3 i with | some kvs => if kvs.length < 16777216 then .ok Yhm Yi8 else .bad | none => .bad) | _, _ => .bad) := rfl
@[simp] theorem p_fz {i : Nat} {S : M Fl} : mFz i S eta hp = (match eta[i]? with | some (some w) => (zdi w hp).bind fun w' h1 => S (eta.set i (some w')) h1 | _ => .bad) := rfl
@[simp] theorem p_gN {i : Nat} {w : W} : gN i w eta = some Yjp := rfl
@[simp] theorem p_gsN : gsN [] eta = some eta := rfl
@[simp] theorem p_gsC {G : W → IS → Option IS} {Gs : List W → IS → Option IS} {w : W} {ws : List W} : gsC G Gs (w :: ws) eta = (G w eta).bind fun e => Gs ws e := rfl
@[simp] theorem p_gTp {n : Nat} {Gs : List W → IS → Option IS} {ts : List T} : gT n Gs (.t (.pr ts)) eta = if ts.length = n then Gs Yw eta else none := rfl
@[simp] theorem p_gTt {n : Nat} {Gs : List W → IS → Option IS} {ts : List T} : gT n Gs Yaq eta = if ts.length = n then Gs Yw eta else none := rfl
@[simp] theorem p_gAp {n : Nat} {Gs : List W → IS → Option IS} {ts : List T} : gA n Gs (.t (.pr ts)) eta = if ts.length = n then Gs Yw eta else none := rfl
@[simp] theorem p_gAt {n : Nat} {Gs : List W → IS → Option IS} {ts : List T} : gA n Gs Yaq eta = if ts.length = n then Gs Yw eta else none := rfl
@[simp] theorem p_gAl {n : Nat} {Gs : List W → IS → Option IS} {ts : List T} : gA n Gs Yas eta = if ts.length = n then Gs Yw eta else none := rfl
@[simp] theorem p_forN {G : W → IS → Option IS} {S : M Fl} : forL G S [] eta hp = .ok Yhm hp := rfl
@[simp] theorem p_compN {G : W → IS → Option IS} {U : M Bool} {E : M W} : zb3 G U E eta [] hp = .ok [] hp := rfl
@[simp] theorem zd3 {ts : List T} : allT Yw = some ts := by
 induction ts with
 | nil => rfl
 | cons t ts ih => simp [allT, ih]
@[simp] theorem seqT_t {ts : List T} : seqT Yaq = some ts := rfl
@[simp] theorem seqT_l {ts : List T} : seqT Yas = some ts := rfl
@[simp] theorem seqT_s {ts : List T} : seqT (.t (.scr ts)) = some ts := rfl
@[simp] theorem items_t {ts : List T} : items hp Yaq = some Yw := rfl
@[simp] theorem items_l {ts : List T} : items hp Yas = some Yw := rfl
@[simp] theorem items_s {ts : List T} : items hp (.t (.scr ts)) = some Yw := rfl
@[simp] theorem items_r {i : Nat} : items hp (.r i) = getL hp i := rfl
@[simp] theorem litems_l {ts : List T} : ze3 hp Yas = some Yw := rfl
@[simp] theorem litems_s {ts : List T} : ze3 hp (.t (.scr ts)) = some Yw := rfl
@[simp] theorem litems_r {i : Nat} : ze3 hp (.r i) = getL hp i := rfl
@[simp] theorem hitems_l {ts : List T} : hitems hp Yas = some Yw := rfl
@[simp] theorem hitems_r {i : Nat} : hitems hp (.r i) = getL hp i := rfl
@[simp] theorem asT_t {x : T} : asT hp (.t x) = some x := rfl
@[simp] theorem asT_r {i : Nat} : asT hp (.r i) = ((getL hp i).bind allT).map T.lst := rfl
@[simp] theorem getL_new {ws : List W} : getL (hp ++ [some Yhl]) hp.length = some ws := by simp [getL]
@[simp] theorem zeq {i : Nat} {ws : List W} (h : i < hp.length) : getL (hp.set i (some Yhl)) i = some ws := by simp [getL, h]
theorem getL_lt {i : Nat} {ws : List W} (h : getL hp i = some ws) : i < hp.length := (List.getElem?_eq_some_iff.mp (zc5 h)).1
theorem getD_lt {i : Nat} {ws : List Yfg} (h : getD hp i = some ws) : i < hp.length := (List.getElem?_eq_some_iff.mp (zfl h)).1
end
@[simp] theorem allI_map : ∀ {ns : List Int}, allW asI (ns.map fun n => W.t (.int n)) = some ns
 | [] => rfl
 | n :: ns => by simp [allW, asI, allI_map (ns := ns)]
@[simp] theorem allS_map : ∀ {ns : List Str}, allW asS (ns.map fun n => W.t (.str n)) = some ns
 | [] => rfl
 | n :: ns => by simp [allW, asS, allS_map (ns := ns)]
@[simp] theorem allB_map : ∀ {ns : List Bool}, allW asBl (ns.map fun n => W.t (.bl n)) = some ns
 | [] => rfl
 | n :: ns => by simp [allW, asBl, allB_map (ns := ns)]
section
variable {hp : IH} {i j : Int} {b c neg : Bool} {x y : Str} {u v : T}
@[simp] theorem asB_bl : asB Ye9 hp = .ok b hp := rfl
@[simp] theorem truW_bl : truW Ye9 hp = .ok b hp := rfl
@[simp] theorem iNeg_i : iNeg Ybf hp = .ok (.t (.int (-i))) hp := rfl
@[simp] theorem opI_ii {C : Int → Int → Bool} {g : Int → Int → Int} : opI C g Ybf Yd3 hp = if C i j = true then .ok (.t (.int (g i j))) hp else .bad := rfl
@[simp] theorem opC_ii {g : Int → Int → Bool} : opC g Ybf Yd3 hp = .ok (.t (.bl (g i j))) hp := rfl
@[simp] theorem cYes_t : cYes i j = true := rfl
@[simp] theorem wLt_ii : wLt Ybf Yd3 hp = .ok (.t (.bl (decide (i < j)))) hp := rfl
@[simp] theorem wLt_ss : wLt (.t (.str x)) (.t (.str y)) hp = .ok (.t (.bl (ltCps x.cps.toList y.cps.toList))) hp := rfl
@[simp] theorem wAdd_ii : wAdd Ybf Yd3 hp = .ok (.t (.int (i + j))) hp := rfl
@[simp] theorem wAdd_tt {xs ys : List T} : wAdd (.t (.tup xs)) (.t (.tup ys)) hp = if xs.length + ys.length ≤ 16777216 then .ok (.t (.tup (xs ++ ys))) hp else .bad := rfl
@[simp] theorem wAdd_ll {xs ys : List T} : wAdd (.t Yib) (.t (.lst ys)) hp = if xs.length + ys.length ≤ 16777216 then .ok Yll hp else .bad := by simp [wAdd]
@[simp] theorem wMul_ii : wMul Ybf Yd3 hp = if cMul i j = true then .ok (.t (.int (i * j))) hp else .bad := rfl
@[simp] theorem wMul_li {xs : List T} : wMul (.t Yib) Yd3 hp = if -(2 ^ 63) ≤ j ∧ j < 2 ^ 63 ∧ xs.length * j.toNat ≤ 16777216 then .ok (.t (.lst (repT j.toNat xs))) hp else .bad := by simp [wMul]
@[simp] theorem eqW_tt : eqW neg (.t u) (.t v) hp = if fit u 60 = true ∧ fit v 60 = true then .ok (.t (.bl (if neg then !Mir.eqT u v else Mir.eqT u v))) hp else .bad := rfl
@[simp] theorem isN_n : isN neg Ya0 Ya0 hp = .ok (.t (.bl (!neg))) hp := rfl
@[simp] theorem isN_i : isN neg Ybf Ya0 hp = .ok (.t (.bl neg)) hp := rfl
@[simp] theorem isN_b : isN neg Ye9 Ya0 hp = .ok (.t (.bl neg)) hp := rfl
@[simp] theorem isN_t {ts : List T} : isN neg Yaq Ya0 hp = .ok (.t (.bl neg)) hp := rfl
@[simp] theorem isB_bb : isB neg Ye9 (.t (.bl c)) hp = .ok Yln hp := rfl
@[simp] theorem ixW_l {ts : List T} : ixW Yas Ybf hp = (match atI Yw i with | some w => .ok w hp | none => .bad) := rfl
@[simp] theorem ixW_t {ts : List T} : ixW Yaq Ybf hp = (match atI Yw i with | some w => .ok w hp | none => .bad) := rfl
@[simp] theorem ixW_r {k : Nat} : ixW (.r k) Ybf hp = (match (getL hp k).bind fun ws => atI ws i with | some w => .ok w hp | none => .bad) := rfl
@[simp] theorem oInt_i : oInt [.t (.int i)] hp = .ok Ybf hp := rfl
@[simp] theorem oAbs_i : oAbs [.t (.int i)] hp = .ok (.t Ylg) hp := rfl
@[simp] theorem oMax2_i : oMax2 [.t (.int i), .t (.int j)] hp = .ok (.t (.int (if j > i then j else i))) hp := rfl
@[simp] theorem oMin2_i : oMin2 [.t (.int i), .t (.int j)] hp = .ok (.t (.int (if j < i then j else i))) hp := rfl
@[simp] theorem oLen_l {ts : List T} : oLen [.t (.lst ts)] hp = .ok (.t (.int ts.length)) hp := by simp [oLen]
@[simp] theorem oLen_t {ts : List T} : oLen [.t Yjz] hp = .ok (.t (.int ts.length)) hp := by simp [oLen]
@[simp] theorem oLen_r {k : Nat} : oLen [.r k] hp = (match getL hp k with | some xs => .ok (.t (.int xs.length)) hp | none => .bad) := rfl
@[simp] theorem oTup_t {ts : List T} : oTup [.t Yjz] hp = .ok Yaq hp := rfl
@[simp] theorem oTup_l {ts : List T} : oTup [.t (.lst ts)] hp = .ok Yaq hp := by simp [oTup]
@[simp] theorem oListF_l {ts : List T} : oListF [.t (.lst ts)] hp = .ok Yas hp := by simp [oListF]
@[simp] theorem oListF_t {ts : List T} : oListF [.t Yjz] hp = .ok Yas hp := by simp [oListF]
@[simp] theorem oListL_l {ts : List T} : oListL [.t (.lst ts)] hp = .ok Ydp (hp ++ [some (.lst Yw)]) := rfl
@[simp] theorem oListL_t {ts : List T} : oListL [.t Yjz] hp = .ok Ydp (hp ++ [some (.lst Yw)]) := rfl
@[simp] theorem sqI_l {ts : List T} : sqI Yas hp = .ok Yw hp := rfl
@[simp] theorem sqI_t {ts : List T} : sqI Yaq hp = .ok Yw hp := rfl
@[simp] theorem sqI_s {ts : List T} : sqI (.t (.scr ts)) hp = .ok Yw hp := rfl
@[simp] theorem rng1_i : rng1 [.t (.int i)] hp = if -(2 ^ 62) ≤ i ∧ i < 2 ^ 62 then .ok ((List.range i.toNat).map fun k => W.t (.int (0 + (k : Nat)))) hp else .bad := rfl
@[simp] theorem rng2_i : rng2 [.t (.int i), .t (.int j)] hp = if -(2 ^ 62) ≤ i ∧ i < 2 ^ 62 ∧ -(2 ^ 62) ≤ j ∧ j < 2 ^ 62 then .ok Yka hp else .bad := rfl
@[simp] theorem enum1_1 {a : W} : enum1 [a] hp = (match seqT a with | some ts => .ok (zga 0 ts) hp | none => .bad) := rfl
@[simp] theorem zip2_2 {a b : W} : zip2 [a, b] hp = (match seqT a, seqT b with | some ts, some us => .ok (zipT ts us) hp | _, _ => .bad) := rfl
@[simp] theorem isL_r {k : Nat} : isL (.r k) hp = (getL hp k).isSome := rfl
@[simp] theorem isL_l {ts : List T} : isL Yas hp = true := rfl
@[simp] theorem isTp_t {ts : List T} : isTp Yaq hp = true := rfl
@[simp] theorem freeze_t : zdi (.t u) hp = .ok (.t u) hp := rfl
@[simp] theorem freeze_r {k : Nat} : zdi (.r k) hp = (match (getL hp k).bind allT with | some ts => .ok Yas (hp.set k none) | none => .bad) := rfl
@[simp] theorem fit_n {n : Nat} : fit .non n = true := by cases n <;> rfl
@[simp] theorem fit_b {n : Nat} : fit (.bl b) n = true := by cases n <;> rfl
@[simp] theorem fit_i {n : Nat} : fit (.int i) n = true := by cases n <;> rfl
@[simp] theorem fit_s {n : Nat} : fit (.str x) n = true := by cases n <;> rfl
@[simp] theorem fit_t {n : Nat} {ts : List T} : fit Yjz (n + 1) = fitL ts n := rfl
@[simp] theorem fit_l {n : Nat} {ts : List T} : fit (.lst ts) (n + 1) = fitL ts n := rfl
@[simp] theorem fitL_n {n : Nat} : fitL [] n = true := by cases n <;> rfl
@[simp] theorem fitL_c {n : Nat} {ts : List T} : fitL (u :: ts) n = (fit u n && fitL ts n) := by cases n <;> rfl
@[simp] theorem eqT_nn : Mir.eqT .non .non = true := by simp [Mir.eqT]
@[simp] theorem eqT_ii : Mir.eqT (.int i) (.int j) = (i == j) := by simp [Mir.eqT]
@[simp] theorem eqT_bb : Mir.eqT (.bl b) (.bl c) = (b == c) := by simp [Mir.eqT]
@[simp] theorem eqT_ss : Mir.eqT (.str x) (.str y) = (x == y) := by simp [Mir.eqT]
@[simp] theorem eqT_tt {ts us : List T} : Mir.eqT Yjz (.tup us) = eqTL ts us := by simp [Mir.eqT]
@[simp] theorem eqT_ll {ts us : List T} : Mir.eqT (.lst ts) (.lst us) = eqTL ts us := by simp [Mir.eqT]
@[simp] theorem eqTL_nn : eqTL [] [] = true := by simp [eqTL]
@[simp] theorem eqTL_cn {ts : List T} : eqTL (u :: ts) [] = false := by simp [eqTL]
@[simp] theorem eqTL_nc {ts : List T} : eqTL [] (u :: ts) = false := by simp [eqTL]
@[simp] theorem eqTL_cc {ts us : List T} : eqTL (u :: ts) (v :: us) = (Mir.eqT u v && eqTL ts us) := by simp [eqTL]
@[simp] theorem allT_n : allT [] = some [] := rfl
@[simp] theorem allT_c {ws : List W} : allT (.t u :: ws) = (allT ws).map (u :: ·) := rfl
@[simp] theorem lstOf_e {ws : List W} : zay ws hp = (match allT ws with | some ts => if ts.length ≤ 16777216 then .ok Yas hp else .bad | none => .bad) := rfl
@[simp] theorem tupOf_e {ws : List W} : zaw ws hp = (match allT ws with | some ts => if ts.length ≤ 16777216 then .ok Yaq hp else .bad | none => .bad) := rfl
@[simp] theorem newL_e {ws : List W} : newL ws hp = if ws.length ≤ 16777216 then .ok Ydp (hp ++ [some Yhl]) else .bad := rfl
@[simp] theorem oAppend_r {k : Nat} {w : W} : zec (.r k) [w] hp = (match getL hp k with | some xs => if xs.length < 16777216 then .ok Ya0 (hp.set k (some (.lst (xs ++ [w])))) else .bad | none => .bad) := rfl
@[simp] theorem oPop_r {k : Nat} : oPop (.r k) [] hp = (match getL hp k with | some xs => (match xs[xs.length - 1]? with | some y => .ok y (hp.set k (some (.lst xs.dropLast))) | none => .bad) | none => .bad) := rfl
@[simp] theorem asK_i : asK Ybf = some (.inl i) := rfl
@[simp] theorem asK_s : asK (.t (.str x)) = some (.inr x) := rfl
@[simp] theorem dGet_s {k : Nat} {w : W} : dGet (.r k) w hp = (match asK w with | some q => (match (getD hp k).bind fun kvs => valW kvs q with | some w => .ok w hp | none => .bad) | none => .bad) := by
 unfold dGet
 cases asK w <;> rfl
end
theorem fitL_ints {ns : List Int} {n : Nat} : fitL Ybx n = true := by
 induction ns with
 | nil => simp
 | cons x xs ih => simp [ih]
theorem fitL_strs {ns : List Str} {n : Nat} : fitL Yij n = true := by
 induction ns with
 | nil => simp
 | cons x xs ih => simp [ih]
theorem bin_ok {f : Op2} {Fa Fb : M W} {eta : IS} {hp h1 h2 : IH} {a b : W} {r : Res W} (ha : Fa eta hp = .ok a h1) (hb : Fb eta h1 = .ok b h2) (h : f a b h2 = r) : mBin f Fa Fb eta hp = r := by
 rw [p_bin, ha, zao, hb, zao]
 exact h
theorem zbb {Fa : M W} {Fs : M (List W)} {eta : IS} {hp h1 h2 : IH} {a : W} {as : List W} (ha : Fa eta hp = .ok a h1) (hs : Fs eta h1 = .ok as h2) : zac Fa Fs eta hp = .ok (a :: as) h2 := by
 rw [p_cons, ha, zao, hs, zao]
theorem zbh {f : OpN} {Fs : M (List W)} {eta : IS} {hp h1 h2 : IH} {w : W} {ws : List W} (hs : Fs eta hp = .ok ws h1) (h : f ws h1 = .ok w h2) : zar f [] Fs eta hp = .ok w h2 := by
 rw [p_call, hs, zao, List.map_nil, List.append_nil, h, zc7]
theorem test_ok {F : M W} {eta : IS} {hp h1 : IH} {b : Bool} (h : F eta hp = .ok Ye9 h1) : zah asB F eta hp = .ok b h1 := by
 rw [zci, h, zao, asB_bl]
theorem if_no {A : Type} {U : M Bool} {F G : M A} {eta : IS} {hp h1 : IH} (h : U eta hp = .ok false h1) : mIf U F G eta hp = G eta h1 := by
 rw [p_if, h, zao, if_neg Bool.false_ne_true]
theorem if_yes {A : Type} {U : M Bool} {F G : M A} {eta : IS} {hp h1 : IH} (h : U eta hp = .ok true h1) : mIf U F G eta hp = F eta h1 := by
 rw [p_if, h, zao, if_pos rfl]
theorem za0 {S R : M Fl} {eta e1 : IS} {hp h1 : IH} {r : Res Fl} (h : S eta hp = .ok (.nx e1) h1) (g : R e1 h1 = r) : mSeq S R eta hp = r := by
 rw [p_seq, h, zao, then_nx]
 exact g
theorem zfj {i : Nat} {F : M W} {eta : IS} {hp h1 : IH} {w : W} (h : F eta hp = .ok w h1) : mSet i F eta hp = .ok (.nx Yjp) h1 := by
 rw [p_set, h, zao]
theorem zch {n nn : Nat} {B : M Fl} {ts : List T} {hp h1 : IH} {x : T} {eta : IS} (hl : ts.length = n) (he : (ts.map W.t).map some ++ List.replicate (nn - n) none = eta) (h : B eta [] = .ok (.rt (.t x)) h1) : fnP n nn B Yw hp = .ok (.t x) hp := by
 unfold fnP
 rw [if_pos ⟨by rw [List.length_map]; exact hl, by rw [zd3]; rfl⟩, he, h]
theorem fnM_ok {n nn : Nat} {B : M Fl} {ws : List W} {hp h1 : IH} {x : W} {eta : IS} (hl : ws.length = n) (he : ws.map some ++ List.replicate (nn - n) none = eta) (h : B eta hp = .ok (.rt x) h1) : fnM n nn B ws hp = .ok x h1 := by
 unfold fnM
 rw [if_pos hl, he, h]
end Mir
namespace Mir
open PySem PySem.Spec L2
open PyProof.Rows hiding St
theorem fitL_all {n : Nat} : ∀ {xs : List T}, (∀ x ∈ xs, fit x n = true) → fitL xs n = true
 | [], _ => by simp
 | x :: xs, h => by simp only [fitL_c, h x Yv, fitL_all fun y hy => h y (List.mem_cons_of_mem _ hy), Bool.and_self]
theorem app1_ok {f : OpN} {F : M W} {eta : IS} {hp h1 : IH} {a : W} {r : Res W} (h : F eta hp = .ok a h1) (g : f [a] h1 = r) : mApp f (zac F mNil) eta hp = r := by
 rw [p_app, zbb h rfl, zao]
 exact g
end Mir
namespace Mir
open PySem PySem.Spec L2
open PyProof.Rows hiding St
abbrev wI (n : Int) : W := .t (.int n)
theorem allT_ints (ns : List Int) : allT (ns.map wI) = some Ybx := by
 have : ns.map wI = (ns.map T.int).map W.t := by simp [wI]
 rw [this, zd3]
theorem atI_end {A : Type} {xs : List A} {x : A} : atI (xs ++ [x]) (-1) = some x := by
 have h : ixN (xs.length + 1) (-1) = some xs.length := by
  unfold ixN
  rw [if_neg Yf, if_pos Yf]
  congr 1
  omega
 simp [atI, h]
theorem set_same {hp : IH} {j : Nat} {c : Option Cell} (h : hp[j]? = some c) : hp.set j c = hp := by
 apply List.ext_getElem?
 intro k
 by_cases hk : j = k
 ·subst hk
  rw [List.getElem?_set_self (List.getElem?_eq_some_iff.mp h).1, h]
 ·rw [List.getElem?_set_ne hk]
theorem getD_set {hp : IH} {i : Nat} {kvs : List Yfg} (h : i < hp.length) : getD (hp.set i (some (.dic kvs))) i = some kvs := by simp [getD, h]
theorem getD_ne {hp : IH} {i j : Nat} {c : Option Cell} (h : j ≠ i) : getD (hp.set j c) i = getD hp i := by simp [getD, List.getElem?_set_ne h]
theorem getL_ne {hp : IH} {i j : Nat} {c : Option Cell} (h : j ≠ i) : getL (hp.set j c) i = getL hp i := by simp [getL, List.getElem?_set_ne h]
theorem cDiv_ok {x wide : Int} (hw : 0 < wide) (hw2 : wide < 2 ^ 64) : cDiv x wide = true := by
 simp only [cDiv, decide_eq_true_eq]
 refine ⟨hw, ?_⟩
 have : wide.natAbs.log2 < 64 := (Nat.log2_lt Yf).mpr Yf
 omega
theorem cMod_ok {x wide : Int} (hw : 0 < wide) : cMod x wide = true := by simpa [cMod] using hw
theorem cMul_ok {x y : Int} (hx : x.natAbs < 2 ^ 64) (hy : y.natAbs < 2 ^ 64) : cMul x y = true := by
 have h : ∀ n : Nat, n < 2 ^ 64 → n.log2 < 64 := fun n h => by
  by_cases h0 : n = 0
  ·subst h0; decide
  ·exact (Nat.log2_lt h0).mpr h
 simp only [cMul, decide_eq_true_eq]
 have := h _ hx
 have := h _ hy
 omega
theorem atI_nn {A : Type} {xs : List A} {n : Int} (h0 : 0 ≤ n) (h1 : n < xs.length) : atI xs n = xs[n.toNat]? := by
 unfold atI ixN
 rw [if_pos h0, if_pos h1]
 rfl
theorem getD_app {hp : IH} {k : Nat} {c : List (Option Cell)} (h : k < hp.length) : getD (hp ++ c) k = getD hp k := by unfold getD; rw [List.getElem?_append_left h]
theorem comp_map {i : Nat} {E : M W} {f : T → T} {eta : IS} {hp : IH} : ∀ {ts : List T}, (∀ t ∈ ts, E (eta.set i (some (.t t))) hp = .ok (.t (f t)) hp) → zb3 (gN i) mYes E eta Yw hp = .ok ((ts.map f).map W.t) hp
 | [], _ => rfl
 | t :: ts, h => by
  have h1 := h t Yv
  have ih := comp_map (i := i) (eta := eta) (ts := ts) fun u hu => h u Ydg
  simp [zb3, turnL, h1, ih]
theorem comp_filter {i : Nat} {U : M Bool} {E : M W} {f : T → T} {p : T → Bool} {eta : IS} {hp : IH} : ∀ {ts : List T}, (∀ t ∈ ts, U (eta.set i (some (.t t))) hp = .ok (p t) hp) → (∀ t ∈ ts, p t = true → E (eta.set i (some (.t t))) hp = .ok (.t (f t)) hp) →
  zb3 (gN i) U E eta Yw hp = .ok (((ts.filter p).map f).map W.t) hp
 | [], _, _ => rfl
 | t :: ts, h, g => by
  have h1 := h t Yv
  have ih := comp_filter (i := i) (eta := eta) (ts := ts) (fun u hu => h u Ydg) fun u hu => g u Ydg
  cases hp1 : p t with
  | true =>
   have g1 := g t Yv hp1
   simp [zb3, turnL, h1, ih, hp1, g1]
  | false => simp [zb3, turnL, h1, ih, hp1]
theorem cutL_map {A B : Type} (f : A → B) (xs : List A) (lo hi : Option Int) : cutL (xs.map f) lo hi = (cutL xs lo hi).map f := by
 unfold cutL
 rw [List.length_map, List.map_take, List.map_drop]
theorem cutL_len {A : Type} (xs : List A) (lo hi : Option Int) : (cutL xs lo hi).length ≤ xs.length := by
 unfold cutL
 rw [List.length_take, List.length_drop]
 omega
def oT : Option Int → T | none => .non | some i => .int i
/-- a list or a tuple -/
def sqT (b : Bool) (ts : List T) : T := if b then .tup ts else .lst ts
def pos (w : List Str) (x : Str) : Nat := w.idxOf x
theorem ixW_sq {b : Bool} {ts : List T} {n : Nat} {hp : IH} (h : n < ts.length) : ixW (.t (sqT b ts)) (.t (.int n)) hp = .ok (.t ts[n]) hp := by
 have e : atI Yw (n : Int) = some (.t ts[n]) := by
  rw [atI_nn Yf (by simpa using h)]
  simp [h]
 cases b <;> simp [sqT, e]
def natW (k : Nat) : W := .t (.int (0 + (k : Nat)))
theorem rng_is {n : Nat} {hp : IH} (hn : n < 100000) : rng1 [.t (.int n)] hp = .ok ((List.range n).map natW) hp := by
 have c : -(2 ^ 62) ≤ (n : Int) ∧ (n : Int) < 2 ^ 62 := ⟨by omega, by omega⟩
 rw [rng1_i, if_pos c, Int.toNat_natCast]
 rfl
theorem src_ok {f : List W → IH → Res (List W)} {Fs : M (List W)} {eta : IS} {hp h1 : IH} {ws : List W} {r : Res (List W)} (h : Fs eta hp = .ok ws h1) (h2 : f ws h1 = r) : mSrc f Fs eta hp = r := by
 rw [p_src, h]
 exact h2
theorem for_ok {Fi : M (List W)} {G : W → IS → Option IS} {S : M Fl} {eta : IS} {hp h1 : IH} {ws : List W} (h : Fi eta hp = .ok ws h1) : mFor Fi G S eta hp = forL G S ws eta h1 := by
 rw [p_for, h]
 rfl
theorem zef {fin : OpN} {Fi : M (List W)} {G : W → IS → Option IS} {U : M Bool} {E : M W} {vs : List Nat} {eta : IS} {hp h1 h2 : IH} {ws ys : List W} {r : Res W} (h : Fi eta hp = .ok ws h1) (hl : ws.length ≤ 16777216) (hc : zb3 G U E (zbp eta vs) ws h1 = .ok ys h2) (hf : fin ys h2 = r) :
  zba fin Fi G U E vs eta hp = r := by
 rw [p_comp, h, zao, if_pos hl, hc, zao]
 exact hf
end Mir
namespace Mir
open PySem PySem.Spec L2
open PyProof.Rows hiding St
theorem binP {f : Op2} {Fa Fb : M W} {eta : IS} {hp : IH} {a b : W} {r : Res W} (ha : Fa eta hp = .ok a hp) (hb : Fb eta hp = .ok b hp) (h : f a b hp = r) : mBin f Fa Fb eta hp = r := bin_ok ha hb h
theorem zex {F : M W} {eta : IS} {hp : IH} {b : Bool} (h : F eta hp = .ok Ye9 hp) : zah asB F eta hp = .ok b hp := test_ok h
theorem zgh {f : OpN} {F : M W} {eta : IS} {hp : IH} {a : W} {r : Res W} (h : F eta hp = .ok a hp) (g : f [a] hp = r) : mApp f (zac F mNil) eta hp = r := app1_ok h g
theorem varP {i : Nat} {eta : IS} {hp : IH} {w : W} (h : eta[i]? = some (some w)) : mVar i eta hp = .ok w hp := by rw [p_var, h]
theorem iGt_ii {i j : Int} {hp : IH} : iGt Ybf Yd3 hp = .ok (.t (.bl (decide (j < i)))) hp := rfl
theorem iGe_ii {i j : Int} {hp : IH} : iGe Ybf Yd3 hp = .ok (.t (.bl (decide (j ≤ i)))) hp := rfl
theorem iGt_yes {i j : Int} {hp : IH} (h : j < i) : iGt Ybf Yd3 hp = .ok (.t Yae) hp := by rw [iGt_ii, decide_eq_true h]
theorem frz_ok {k : Nat} {ts : List T} {hp : IH} (h : getL hp k = some Yw) : zdi (.r k) hp = .ok Yas (hp.set k none) := by
 rw [freeze_r, h, Option.bind_some, zd3]
theorem any_str {x : Str} : ∀ {l : List Str}, (l.map T.str).any (fun y => Mir.eqT y (.str x)) = decide (x ∈ l)
 | [] => by simp
 | y :: l => by
  have ih := any_str (x := x) (l := l)
  simp only [List.map_cons, List.any_cons, ih, eqT_ss]
  by_cases h : y = x
  ·subst h; simp
  ·have : ¬ x = y := fun e => h e.symm
   simp [h, this]
theorem bools_all {l : List Bool} {hp : IH} : oAll [.t (.lst (l.map T.bl))] hp = .ok (.t (.bl (l.all id))) hp := by
 have al : allW asBl ((l.map T.bl).map W.t) = some l := by rw [List.map_map]; exact allB_map
 simp only [oOnL, litems_l, Option.bind_some, al]
theorem sqI_sq {b : Bool} {ts : List T} {hp : IH} : sqI (.t (sqT b ts)) hp = .ok Yw hp := by cases b <;> rfl
theorem oTup_sq {b : Bool} {ts : List T} {hp : IH} : oTup [.t (sqT b ts)] hp = .ok Yaq hp := by cases b <;> simp [sqT]
end Mir
namespace Mir
open PySem PySem.Spec L2
open PyProof.Rows hiding St
section
variable {hp : IH} {i j : Int} {x y z u v : T} {ts us : List T} {w : W} {b c : Bool} {s r : Str}
theorem ev_for0 {G : W → IS → Option IS} {S : M Fl} {eta : IS} : forL G S [] eta hp = .ok Yhm hp := rfl
theorem ev_for1 {G : W → IS → Option IS} {S : M Fl} {eta : IS} {ws : List W} : forL G S (w :: ws) eta hp = (match G w eta with | none => .bad | some e1 => (S e1 hp).bind fun f h1 => match f with | .nx e2 => forL G S ws e2 h1 | .ct e2 => forL G S ws e2 h1 | .bk e2 => .ok (.nx e2) h1 | .rt w => .ok (.rt w) h1) := rfl
theorem ev_atl0 {A : Type} {a : A} {l : List A} : atI (a :: l) 0 = some a := by rw [atI_nn Yf (by rw [List.length_cons]; omega)]; rfl
theorem ev_atl1 {A : Type} {a a1 : A} {l : List A} : atI (a :: a1 :: l) 1 = some a1 := by rw [atI_nn Yf (by rw [List.length_cons, List.length_cons]; omega)]; rfl
theorem ev_atl2 {A : Type} {a a1 a2 : A} {l : List A} : atI (a :: a1 :: a2 :: l) 2 = some a2 := by rw [atI_nn Yf Yi2]; rfl
theorem ev_atl3 {A : Type} {a a1 a2 a3 : A} {l : List A} : atI (a :: a1 :: a2 :: a3 :: l) 3 = some a3 := by rw [atI_nn Yf Yi2]; rfl
theorem ev_ixl0 {a0 : T} : ixW (.t (.lst (a0 :: ts))) Ycn hp = .ok (.t a0) hp := by rw [ixW_l]; simp only [List.map_cons, ev_atl0]
theorem ev_ixt0 {a0 : T} : ixW (.t (.tup (a0 :: ts))) Ycn hp = .ok (.t a0) hp := by rw [ixW_t]; simp only [List.map_cons, ev_atl0]
theorem ev_ixl1 {a0 a1 : T} : ixW (.t (.lst (a0 :: a1 :: ts))) Ye2 hp = .ok (.t a1) hp := by rw [ixW_l]; simp only [List.map_cons, ev_atl1]
theorem ev_ixt1 {a0 a1 : T} : ixW (.t (.tup (a0 :: a1 :: ts))) Ye2 hp = .ok (.t a1) hp := by rw [ixW_t]; simp only [List.map_cons, ev_atl1]
theorem ev_ixl2 {a0 a1 a2 : T} : ixW (.t (.lst (a0 :: a1 :: a2 :: ts))) (.t (.int 2)) hp = .ok (.t a2) hp := by rw [ixW_l]; simp only [List.map_cons, ev_atl2]
theorem ev_ixt2 {a0 a1 a2 : T} : ixW (.t (.tup (a0 :: a1 :: a2 :: ts))) (.t (.int 2)) hp = .ok (.t a2) hp := by rw [ixW_t]; simp only [List.map_cons, ev_atl2]
theorem ev_ixl3 {a0 a1 a2 a3 : T} : ixW (.t (.lst (a0 :: a1 :: a2 :: a3 :: ts))) (.t (.int 3)) hp = .ok (.t a3) hp := by rw [ixW_l]; simp only [List.map_cons, ev_atl3]
theorem ev_ixt3 {a0 a1 a2 a3 : T} : ixW (.t (.tup (a0 :: a1 :: a2 :: a3 :: ts))) (.t (.int 3)) hp = .ok (.t a3) hp := by rw [ixW_t]; simp only [List.map_cons, ev_atl3]
theorem ev_atl4 {A : Type} {a a1 a2 a3 a4 : A} {l : List A} : atI (a :: a1 :: a2 :: a3 :: a4 :: l) 4 = some a4 := by rw [atI_nn Yf Yi2]; rfl
theorem ev_ixl4 {a0 a1 a2 a3 a4 : T} : ixW (.t (.lst (a0 :: a1 :: a2 :: a3 :: a4 :: ts))) (.t (.int 4)) hp = .ok (.t a4) hp := by rw [ixW_l]; simp only [List.map_cons, ev_atl4]
theorem ev_ixt4 {a0 a1 a2 a3 a4 : T} : ixW (.t (.tup (a0 :: a1 :: a2 :: a3 :: a4 :: ts))) (.t (.int 4)) hp = .ok (.t a4) hp := by rw [ixW_t]; simp only [List.map_cons, ev_atl4]
theorem ev_gt : iGt Ybf Yd3 hp = .ok (.t (.bl (decide (j < i)))) hp := rfl
theorem ev_ge : iGe Ybf Yd3 hp = .ok (.t (.bl (decide (j ≤ i)))) hp := rfl
theorem ev_le : iLe Ybf Yd3 hp = .ok (.t (.bl (decide (i ≤ j)))) hp := rfl
theorem ev_sub : iSub Ybf Yd3 hp = .ok (.t (.int (i - j))) hp := rfl
theorem ev_eqi {neg : Bool} : eqW neg Ybf Yd3 hp = .ok Ylk hp := by
 rw [eqW_tt, if_pos ⟨rfl, rfl⟩]
 rfl
theorem ev_eqs {neg : Bool} : eqW neg (.t (.str s)) (.t (.str r)) hp = .ok (.t (.bl (if neg then !decide (s = r) else decide (s = r)))) hp := by
 have h : (s == r) = decide (s = r) := by
  by_cases q : s = r
  ·subst q; simp
  ·simp [q]
 rw [eqW_tt, if_pos ⟨by simp, by simp⟩, eqT_ss, h]
theorem ev_eqb {neg : Bool} : eqW neg Ye9 (.t (.bl c)) hp = .ok Yln hp := by
 rw [eqW_tt, if_pos ⟨by simp, by simp⟩, eqT_bb]
 cases neg <;> cases b <;> cases c <;> rfl
theorem ev_wipe0 {eta : IS} : zbp eta [] = eta := rfl
theorem ev_wipe1 {eta : IS} {k : Nat} {l : List Nat} : zbp eta (k :: l) = (zbp eta l).set k none := rfl
theorem ev_comp1 {G : W → IS → Option IS} {U : M Bool} {E : M W} {eta : IS} {ws : List W} : zb3 G U E eta (w :: ws) hp = (noEr (match G w eta with | none => .bad | some e1 => (U e1 hp).bind fun b h1 => if b then (E e1 h1).bind fun y h2 => .ok (some y) h2 else .ok none h1)).bind fun o h1 => (zb3 G U E eta ws h1).bind fun r h2 => .ok (match o with | some y => y :: r | none => r) h2 := rfl
end
end Mir
namespace Mir
open PySem PySem.Spec L2
open PyProof.Rows hiding St
section
variable {X : Cx} {CX : CXT} {k : Nat} {f C g p1 : Addr} {fd : FuncData} {ps : List Str} {sp : Sp} {dvs : List V} {ds : List Value} {E : XK} {x m fl : Str} {p pos apos : Pos} {e o : Expr} {es : List Expr} {ta : TE} {t : TA} {pl : Sem Bool}
theorem pe_methG (he : PE X o ta) (c : Cls X.K C) (hm : Meth X.K C m f) (F : FnG X.prog X.w X.K X.mg X.base CX k f fd ps sp) (hr : Room k X.A) (hgd : X.A.guards = some []) (hb : Binds X.K fd ps ds) (hd : Vals dvs ds) (hx : Passes CX X E) (ha : PA X Yam t)
  (hst : starEach Yam X.env = (false, eval e X.env) :: starEach es X.env := by rfl) (hpl : (backTo pos Ybi).any (·.1) = false := by rfl)
  (ht : eval Yez X.env = (do let ov ← eval o X.env; standAt apos.atName; let (f, first) ← holding [ov] (getMethod ov m pl); callWith pos f first (backTo pos Yjr) (backToKw pos Yep)) := by rfl) : PE X Yez (tMeth C m sp dvs E ta t) :=
 ⟨fun pins s σ H Q I h => by
  refine PySem.W.methodCall_KW (pl := pl) (thn Yeo ?_) ht
  rintro u s1 ⟨x, H1, I1, rx, a, dx, fs, rfl, ea, l, q⟩
  cases rx
  refine getmeth_ok I1 ea c hm l (PySem.W.callWith_K (first := [.ref a]) (h₀ := X.base) I.ok.mod.kin hm.kp (thn (ha.run pos pins s1 σ H1 _ I1 q) ?_) hst hpl)
  rintro us s2 ⟨vs, H2, I2, r, q2⟩
  exact ⟨I2.kIn, runG (us := .ref a :: us) (vs := .ref a :: vs) F hr hgd hb hd hx I2 (.cons rfl r) q2⟩⟩
theorem getpropG {pins : List Ya9} {σ : L2.St} {H : Hp} {s : Shared} {a dx : Addr} {fs : List Ygz} {Q : VK} {b : Bool} {E' : Value → Shared → Prop} (I : Inv X pins σ H s) (ea : H a = some (.ins C dx fs)) (c : Cls X.K C) (hp : PropOf X.K C fl p1 g)
  (F : FnG X.prog X.w X.K X.mg X.base CX k g fd ps sp) (hr : Room (k + 1) X.A) (hgd : X.A.guards = some []) (hb : Binds X.K fd ps ds) (hd : Vals dvs ds) (hx : Passes CX X.nox E) (h : sp (.ref a :: dvs) H Q E) : wpAny Ym X.A (getAttr (.ref a) fl b) (EP X pins σ Q) E' s := by
 obtain ⟨mA, O, _, _, _, _⟩ := ins_get I.hok ea
 obtain ⟨od, J, _⟩ := O.look
 obtain ⟨rest, hrec⟩ := hp.rec_
 have I1 := I.tok (s.toks + 1)
 have el : ([Value.ref a] ++ ds).length = ps.length := by
  have e1 : dvs.length + 1 = ps.length := F.len _ _ _ _ h
  show ds.length + 1 = ps.length
  rw [← e1, hd.length]
 obtain ⟨cd, hcd, _⟩ := PySem.W.any_some c.hd
 refine PySem.W.get_bind I.kIn J (PySem.W.plainGet_of (c.get fl)).1 (PySem.W.findObj_data (by rw [hcd]; rfl) hp.at_ hp.get hp.tak) (PySem.W.plainGet_of (c.get fl)).2 (wpAny_call (PySem.W.prop_get (s := { s with toks := s.toks + 1 }) I.kIn hrec ?_))
 refine codeAny_mono (F.run X.A.in1 X.stack { s with toks := s.toks + 1 } H ⟨[.ref a], []⟩ (.ref a :: ds) (.ref a :: dvs) Q E hr.in1 hgd I1.env0.in1 (hb _ [.ref a] I1.kIn el) (.cons rfl hd) h) ?_
 rintro (er | fl) s' q
 ·exact (hx pins σ H { s with toks := s.toks + 1 } er s' (I1.wish _) q).elim
 ·cases fl with
  | ret u =>
   obtain ⟨v, H', I3, rv, q3⟩ := I1.after q
   show wpAny _ _ (handedOut u) _ _ _
   rw [PySem.W.handedOut_of (handed_of rv)]
   exact wpAny_pure ⟨v, H', I3, rv, q3⟩
  | next => exact (show False from q).elim
  | brk => exact (show False from q).elim
  | cont => exact (show False from q).elim
theorem pe_propG (he : PE X e ta) (c : Cls X.K C) (hp : PropOf X.K C fl p1 g) (F : FnG X.prog X.w X.K X.mg X.base CX k g fd ps sp) (hr : Room (k + 1) X.A) (hgd : X.A.guards = some []) (hb : Binds X.K fd ps ds) (hd : Vals dvs ds) (hx : Passes CX X.nox E)
  (hab : attributeBase e fl X.env (eval e X.env) = eval e X.env := by rfl) : PE X (.Attribute e fl pos) (tProp C sp dvs E ta) :=
 ⟨fun pins s σ H Q I h => attr_of hab (thn Yeo fun u s1 ⟨x, H1, I1, rx, a, dx, fs, ex, ea, q⟩ => by
  subst ex
  cases rx
  exact getpropG I1 ea c hp F hr hgd hb hd hx q)⟩
end
theorem CN.inj {K : PySem.W.Frag} {c : Str} {C D : Addr} (h : CN K c C) (g : CN K c D) : C = D := by
 have e : some (some (Value.ref C)) = some (some (Value.ref D)) := h.symm.trans g
 cases e
 rfl
def insOf (hp : IH) : W → Option (Str × List Yii)
 | .t (.ins c ns vs) => some (c, ns.zip (vs.map W.t))
 | .r i => (match hp[i]? with | some (some (.ins c fs)) => some (c, fs) | _ => none)
 | _ => none
section
variable {K : PySem.W.Frag} {ω : World} {s : S4}
theorem RwF.of_zip : ∀ {ns : List Str} {ts : List T} {vs : List V}, RfL K s.fz s.H ts vs → RwF K s (ns.zip Yw) (ns.zip vs)
 | [], _, _, _ => by rw [List.zip_nil_left, List.zip_nil_left]; rfl
 | _ :: _, [], vs, h => by simp only [RfL] at h; subst h; rfl
 | n :: ns, t :: ts, vs, h => by
  simp only [RfL] at h
  obtain ⟨v, r, rfl, a, b⟩ := h
  exact ⟨v, ns.zip r, rfl, a, RwF.of_zip b⟩
theorem RwF.look (f : Str) : ∀ {fs : List (Str × W)} {vs : List (Str × V)}, RwF K s fs vs → (∀ w, fs.lookup f = some w → ∃ v, vs.lookup f = some v ∧ Rw K s w v) ∧ (fs.lookup f = none → vs.lookup f = none)
 | [], vs, h => by rw [show vs = [] from h]; exact ⟨fun w e => by simp at e, fun _ => rfl⟩
 | (g, w) :: fs, vs, h => by
  obtain ⟨v, r, rfl, a, b⟩ := h
  obtain ⟨i1, i2⟩ := RwF.look f b
  by_cases e : f = g
  ·have hb : (f == g) = true := beq_iff_eq.mpr e
   exact ⟨fun u q => by
    simp only [List.lookup, hb, Option.some.injEq] at q ⊢
    subst q
    exact ⟨v, rfl, a⟩, fun q => by simp [List.lookup, hb] at q⟩
  ·have hb : (f == g) = false := beq_eq_false_iff_ne.mpr e
   exact ⟨fun u q => by
    simp only [List.lookup, hb] at q ⊢
    exact i1 u q, fun q => by
    simp only [List.lookup, hb] at q ⊢
    exact i2 q⟩
theorem RwF.names : ∀ {fs : List (Str × W)} {vs : List (Str × V)}, RwF K s fs vs → vs.map (·.1) = fs.map (·.1)
 | [], vs, h => by rw [show vs = [] from h]; rfl
 | (g, w) :: fs, vs, h => by
  obtain ⟨v, r, rfl, a, b⟩ := h
  rw [List.map_cons, List.map_cons, RwF.names b]
theorem RwF.length {fs : List Yii} {vs : List Ygz} (h : RwF K s fs vs) : fs.length = vs.length := by
 have := congrArg List.length h.names
 rw [List.length_map, List.length_map] at this
 exact this.symm
theorem ins_at (R : Rel K ω s) {w : W} {v : V} {c : Str} {fs : List Yii} (h : insOf s.hp w = some (c, fs)) (r : Rw K s w v) : ∃ a C dx vs, v = .ref a ∧ s.H a = some (.ins C dx vs) ∧ CN K c C ∧ RwF K s fs vs := by
 cases w with
 | r i =>
  obtain ⟨a, e1, e2⟩ := r
  simp only [insOf] at h
  split at h
  ·rename_i c' fs' hc
   simp only [Option.some.injEq, Prod.mk.injEq] at h
   obtain ⟨rfl, rfl⟩ := h
   obtain ⟨C, dx, vs, h1, h2, h3⟩ := R.cell i _ a hc e1
   exact ⟨a, C, dx, vs, e2, h1, h2, h3⟩
  ·cases h
 | t x =>
  unfold insOf at h
  split at h
  ·rename_i c' ns ts hx
   cases hx
   simp only [Option.some.injEq, Prod.mk.injEq] at h
   obtain ⟨rfl, rfl⟩ := h
   simp only [Rw, Rf] at r
   obtain ⟨a, C, vs, e, cn, t, _, l⟩ := r
   obtain ⟨_, dx, hH⟩ := t
   exact ⟨a, C, dx, _, e, hH, cn, RwF.of_zip l⟩
  ·rename_i hx
   cases hx
  ·cases h
end
/-- f may be read of, stored in an instance of the class c: no class of it has the name -/
structure FldOk (K : PySem.W.Frag) (c f : Str) : Prop where
 ex : ∃ C, CN K c C ∧ Cls K C ∧ NoAttr K C f
theorem FldOk.at_ {K : PySem.W.Frag} {c f : Str} {C : Addr} (h : FldOk K c f) (n : CN K c C) : Cls K C ∧ NoAttr K C f := by
 obtain ⟨D, n', h1, h2⟩ := h.ex
 cases n.inj n'
 exact ⟨h1, h2⟩
def fldW (cs : List Str) (f : Str) (w : W) (hp : IH) : Res W := match insOf hp w with
 | some (c, fs) => if c ∈ cs then (match fs.lookup f with | some x => .ok x hp | none => .bad) else .bad
 | none => .bad
def mFld (cs : List Str) (f : Str) (F : M W) : M W := fun eta hp => (F eta hp).bind fun a h1 => fldW cs f a h1
def putA (f : Str) (w : W) : List Yii → List Yii
 | [] => [(f, w)]
 | (g, x) :: r => if g = f then (g, w) :: r else (g, x) :: putA f w r
def fldSet (cs : List Str) (f : Str) (eta : IS) (o v : W) (hp : IH) : Res Fl := match o with
 | .r i => (match hp[i]? with
  | some (some (.ins c fs)) => if c ∈ cs ∧ fs.length < 1000 then .ok Yhm (hp.set i (some Ylo)) else .bad
  | _ => .bad)
 | _ => .bad
def zdt (cs : List Str) (f : Str) (Fo Fv : M W) : M Fl := fun eta hp => (Fv eta hp).bind fun v h1 => (Fo eta h1).bind fun o h2 => fldSet cs f eta o v h2
theorem RwF.put {K : PySem.W.Frag} {s : S4} {f : Str} {w : W} {v : V} (r : Rw K s w v) : ∀ {fs : List (Str × W)} {vs : List (Str × V)}, RwF K s fs vs → RwF K s (putA f w fs) (putF f v vs)
 | [], vs, h => by rw [show vs = [] from h]; exact ⟨v, [], rfl, r, rfl⟩
 | (g, x) :: fs, vs, h => by
  obtain ⟨u, q, rfl, a, b⟩ := h
  unfold putA putF
  by_cases e : g = f
  ·rw [if_pos e, if_pos e]
   exact ⟨v, q, rfl, r, b⟩
  ·rw [if_neg e, if_neg e]
   exact ⟨u, _, rfl, a, RwF.put r b⟩
section
variable {X : Cx} {Wx : WX} {e o val : Expr} {F Fo Fv : M W} {cs : List Str} {f : Str} {pos pos' : Pos}
theorem zbn (h : ∀ c ∈ cs, FldOk X.K c f) (he : IE X Wx e F) (hab : attributeBase e f X.env (eval e X.env) = eval e X.env := by rfl) : IE X Wx (.Attribute e f pos) (mFld cs f F) :=
 PE.imp (pe_fld he hab) fun σ H Q q => tM.bind1 (R := fun (x : V) (H1 : Hp) => ∃ a C dx fs v, x = .ref a ∧ H1 a = some (.ins C dx fs) ∧ Cls X.K C ∧ NoAttr X.K C f ∧ fs.lookup f = some v ∧ Q v H1) (k := fun (a : W) _ h1 => fldW cs f a h1) q fun s eta w v R1 S1 f1 g => by
  unfold fldW at g
  split at g
  ·rename_i c fs hi
   split at g
   ·rename_i hc
    split at g
    ·rename_i x hx
     obtain ⟨a, C, dx, vs, e, hH, cn, l⟩ := ins_at R1 hi f1
     obtain ⟨c1, c2⟩ := (h c hc).at_ cn
     obtain ⟨u, hu, ru⟩ := (l.look f).1 x hx
     exact ⟨a, C, dx, vs, u, e, hH, c1, c2, hu, g u s rfl Yl R1 ru⟩
    ·exact g.elim
   ·exact g.elim
  ·exact g.elim
theorem st_fld (h : ∀ c ∈ cs, FldOk X.K c f) (ho : IE X Wx o Fo) (hv : IE X Wx val Fv) (hs : swapsWith val (some (.Attribute o f pos')) pos.line X.env = pure false := by rfl) : ISt X Wx (.Assign [.Attribute o f pos'] val pos) (zdt cs f Fo Fv) :=
 PS.imp (ps_fld ho hv hs) fun D σ H q => by
  obtain ⟨s0, eta, e1, R0, S0, g0⟩ := q
  refine ⟨s0, eta, e1, R0, S0, Go.bind g0 fun v vv s1 A1 R1 f1 _ g1 => ?_⟩
  refine ⟨s1, eta, rfl, R1, S0.aft A1 R0, Go.bind g1 fun w ov s2 A2 R2 f2 eok g2 => ?_⟩
  clear eok
  have f1' := f1.aft A2 R1
  have S2 := (S0.aft A1 R0).aft A2 R1
  unfold fldSet at g2
  split at g2
  ·rename_i i
   split at g2
   ·rename_i c fs hc
    split at g2
    ·rename_i hh
     obtain ⟨a, e1, e2⟩ := f2
     obtain ⟨C, dx, vs, h1, h2, h3⟩ := R2.cell i _ a hc e1
     obtain ⟨c1, c2⟩ := (h c hh.1).at_ h2
     have ok : CellOk X.K X.w s2 a Ylo (some (.ins C dx (putF f vv vs))) := ⟨C, dx, _, rfl, h2, h3.put f1'⟩
     refine ⟨a, C, dx, vs, e2, h1, c1, c2, by rw [← h3.length]; exact hh.2, ?_⟩
     have A := zgc (c := .ins c (putA f v fs)) (o := .ins C dx (putF f vv vs)) R2 hc e1
     exact g2 (.nx σ) (s2.setL i a Ylo (.ins C dx (putF f vv vs))) rfl A (rel_setL R2 hc e1 ok) (S2.aft A R2)
    ·exact g2.elim
   ·exact g2.elim
  ·exact g2.elim
end
def frzAll : List Yii → IH → Res (List T)
 | [], hp => .ok [] hp
 | x :: r, hp => (zdi x.2 hp).bind fun w h1 => match w with
  | .t t => (frzAll r h1).bind fun ts h2 => .ok (t :: ts) h2
  | .r _ => .bad
def freezeI (w : W) (hp : IH) : Res W := match w with
 | .r i => (match hp[i]? with
  | some (some (.ins c fs)) => (frzAll fs hp).bind fun ts h1 => (match h1[i]? with | some (some (.ins _ _)) => .ok (.t (.ins c (fs.map (·.1)) ts)) (h1.set i none) | _ => .bad)
  | _ => .bad)
 | _ => .bad
def mFrzI (F : M W) : M W := fun eta hp => (F eta hp).bind fun w h1 => freezeI w h1
section
variable {K : PySem.W.Frag} {ω : World} {Wx : WX}
theorem frz_one {s : S4} {w : W} {v : V} {x : W} {h1 : IH} (R : Rel K ω s) (r : Rw K s w v) (g : zdi w s.hp = .ok x h1) : ∃ s', s'.H = s.H ∧ s'.hp = h1 ∧ s'.rho = s.rho ∧ Aft s s' ∧ Rel K ω s' ∧ Rw K s' x v := by
 cases w with
 | t t =>
  simp only [zdi, Res.ok.injEq] at g
  obtain ⟨rfl, rfl⟩ := g
  exact ⟨s, rfl, rfl, rfl, Aft.refl s, R, r⟩
 | r i =>
  simp only [zdi] at g
  cases hq : (getL s.hp i).bind allT with
  | none => simp only [hq] at g; cases g
  | some ts =>
   simp only [hq, Res.ok.injEq] at g
   obtain ⟨rfl, rfl⟩ := g
   rw [Option.bind_eq_some_iff] at hq
   obtain ⟨ws, h1, h2⟩ := hq
   obtain ⟨a, vs, e, e1, e2, l, nf⟩ := R.lst h1 r
   subst e
   have A := aft_frz R (zc5 h1) e1
   refine ⟨s.frz i a, rfl, rfl, rfl, A, rel_frz R (zc5 h1) e1, ?_⟩
   rw [zcw h2] at l
   simp only [Rw, Rf]
   exact ⟨a, vs, rfl, ⟨.inr rfl, e2⟩, RfL.aft A R _ _ Ygh⟩
theorem frz_all : ∀ (fs : List (Str × W)) {s : S4} {vs : List (Str × V)} {ts : List T} {h1 : IH}, Rel K ω s → RwF K s fs vs → frzAll fs s.hp = .ok ts h1 → ∃ s', s'.H = s.H ∧ s'.hp = h1 ∧ s'.rho = s.rho ∧ Aft s s' ∧ Rel K ω s' ∧ RfL K s'.fz s'.H ts (vs.map (·.2)) ∧ ts.length = fs.length
 | [], s, vs, ts, h1, R, l, g => by
  simp only [frzAll, Res.ok.injEq] at g
  obtain ⟨rfl, rfl⟩ := g
  rw [show vs = [] from l]
  exact ⟨s, rfl, rfl, rfl, Aft.refl s, R, by simp [RfL], rfl⟩
 | (n, w) :: fs, s, vs, ts, h1, R, l, g => by
  obtain ⟨v, r, rfl, a, b⟩ := l
  simp only [frzAll] at g
  cases hf : zdi w s.hp with
  | bad => rw [hf] at g; cases g
  | er _ _ _ => rw [hf] at g; cases g
  | ok x h2 =>
   rw [hf] at g
   obtain ⟨s2, e1, e2, e3, A2, R2, r2⟩ := frz_one R a hf
   cases x with
   | r _ => cases g
   | t t =>
    subst e2
    simp only [Res.bind] at g
    cases hg : frzAll fs s2.hp with
    | bad => rw [hg] at g; cases g
    | er _ _ _ => rw [hg] at g; cases g
    | ok us h3 =>
     rw [hg] at g
     simp only [Res.ok.injEq] at g
     obtain ⟨rfl, rfl⟩ := g
     obtain ⟨s3, q1, q2, q3, A3, R3, l3, n3⟩ := frz_all fs R2 (RwF.aft A2 R _ _ b) hg
     refine ⟨s3, q1.trans e1, q2, q3.trans e3, A2.trans A3, R3, ?_, by rw [List.length_cons, List.length_cons, n3]⟩
     rw [List.map_cons]
     simp only [RfL]
     exact ⟨v, _, rfl, Rf.aft A3 R2 _ _ r2, l3⟩
theorem zip_parts {A B : Type} : ∀ l : List (A × B), (l.map (·.1)).zip (l.map (·.2)) = l
 | [] => rfl
 | x :: l => by rw [List.map_cons, List.map_cons, List.zip_cons_cons, zip_parts l]
theorem go_freezeI {s : S4} {w : W} {v : V} {Q : VK} (R : Rel K ω s) (r : Rw K s w v) (g : Go K ω Wx (Rw K) s (freezeI w s.hp) Q) : Q v s.H := by
 unfold freezeI at g
 split at g
 ·rename_i i
  split at g
  ·rename_i c fs hc
   obtain ⟨a, e1, e2⟩ := r
   obtain ⟨C, dx, vs, h1, h2, h3⟩ := R.cell i _ a hc e1
   cases hg : frzAll fs s.hp with
   | bad => rw [hg] at g; exact g.elim
   | er _ _ _ =>
    exfalso
    have : ∀ (fs : List (Str × W)) (hp : IH) e eta h, frzAll fs hp ≠ .er e eta h := by
     intro fs
     induction fs with
     | nil => intro hp e eta h z; cases z
     | cons x fs ih =>
      intro hp e eta h z
      simp only [frzAll] at z
      cases hf : zdi x.2 hp with
      | bad => rw [hf] at z; cases z
      | er _ _ _ =>
       cases hx : x.2 with
       | t t => rw [hx] at hf; cases hf
       | r j =>
        rw [hx] at hf
        simp only [zdi] at hf
        split at hf <;> cases hf
      | ok y h2 =>
       rw [hf] at z
       cases y with
       | r _ => cases z
       | t t =>
        simp only [Res.bind] at z
        cases hg : frzAll fs h2 with
        | bad => rw [hg] at z; cases z
        | ok _ _ => rw [hg] at z; cases z
        | er _ _ _ => exact ih _ _ _ _ hg
    exact this _ _ _ _ _ hg
   | ok ts h5 =>
    rw [hg] at g
    obtain ⟨s2, q1, q2, q3, A2, R2, l2, n2⟩ := frz_all fs R h3 hg
    subst q2
    simp only [Res.bind] at g
    split at g
    ·rename_i c' fs' hc'
     have ha : s2.rho[i]? = some a := by rw [q3]; exact e1
     have A3 := aft_frz R2 hc' ha
     have R3 := rel_frz R2 hc' ha
     have fin := g v (s2.frz i a) rfl (A2.trans A3) R3 (by
      simp only [Rw, Rf]
      refine ⟨a, C, vs.map (·.2), e2, h2, ⟨.inr rfl, dx, ?_⟩, by rw [List.length_map, n2], RfL.aft A3 R2 _ _ l2⟩
      rw [← h3.names, zip_parts]
      show s2.H a = _
      rw [q1]
      exact h1)
     have eH : (s2.frz i a).H = s.H := q1
     rw [eH] at fin
     exact fin
    ·exact g.elim
  ·exact g.elim
 ·exact g.elim
theorem ie_frzI {X : Cx} {e : Expr} {F : M W} (he : IE X Wx e F) : IE X Wx e (mFrzI F) := PE.imp he fun σ H Q h => by
 obtain ⟨s, eta, e1, R1, S1, g⟩ := h
 exact ⟨s, eta, e1, R1, S1, Go.bind g fun a b s' A' R' f' _ g' => go_freezeI R' f' g'⟩
end
def mMethC (c m : Str) (f : OpN) (ds : List T) (Fo : M W) (Fs : M (List W)) : M W := fun eta hp => (Fo eta hp).bind fun o h1 => match insOf h1 o with
 | some (c', fs) => if c' = c ∧ fs.lookup m = none then (Fs eta h1).bind fun ws h2 => noEr (f (o :: (ws ++ ds.map W.t)) h2) else .bad
 | none => .bad
def mProp (c : Str) (f : OpN) (Fo : M W) : M W := fun eta hp => (Fo eta hp).bind fun o h1 => match insOf h1 o with
 | some (c', _) => if c' = c then noEr (f [o] h1) else .bad
 | none => .bad
section
variable {X : Cx} {Wx : WX} {k : Nat} {f C g p1 : Addr} {fd : FuncData} {ps : List Str} {m : OpN} {n : Nat} {c x mn fl : Str} {p pos apos : Pos} {e o : Expr} {es : List Expr} {Fo : M W} {Fs : M (List W)} {dvs : List V} {ds : List Value} {dts : List T} {pl : Sem Bool}
theorem zdq (cn : CN X.K c C) (cl : Cls X.K C) (hm : Meth X.K C mn f) (Fk : FnG X.prog X.w X.K X.mg X.base Yea k f fd ps Yhq) (hr : Room k X.A) (hgd : X.A.guards = some []) (hb : Binds X.K fd ps ds) (hd : Vals dvs ds) (hdt : ∀ s, RwL X.K s (dts.map W.t) dvs) (hl : ∀ ws hp, ws.length ≠ n → m ws hp = .bad) (ho : IE X Wx o Fo) (ha : IA X Wx Yam Fs)
  (hst : starEach Yam X.env = (false, eval e X.env) :: starEach es X.env := by rfl) (hpl : (backTo pos Ybi).any (·.1) = false := by rfl)
  (ht : eval Yeq X.env = (do let ov ← eval o X.env; standAt apos.atName; let (f, first) ← holding [ov] (getMethod ov mn pl); callWith pos f first (backTo pos Yjr) (backToKw pos Yep)) := by rfl) : IE X Wx Yeq (mMethC c mn m dts Fo Fs) :=
 PE.imp (pe_methG (pl := pl) ho cl hm Fk hr hgd hb hd passL ha hst hpl ht) fun σ H Q h => by
  obtain ⟨s0, eta, e1, R0, S0, g0⟩ := h
  refine ⟨s0, eta, e1, R0, S0, Go.bind g0 fun w v s1 A1 R1 f1 eok g1 => ?_⟩
  clear eok
  split at g1
  ·rename_i c' fs hi
   split at g1
   ·rename_i hc
    obtain ⟨rfl, hlk⟩ := hc
    obtain ⟨a, C', dx, vs, e, hH, cn', l⟩ := ins_at R1 hi f1
    cases cn.inj cn'
    refine ⟨a, dx, vs, e, hH, (l.look mn).2 hlk, s1, eta, rfl, R1, S0.aft A1 R0, Go.bind g1 fun ws us s2 A2 R2 f2 eok g2 => ?_⟩
    clear eok
    refine ⟨s2, w :: (ws ++ dts.map W.t), rfl, R2, ⟨v, _, rfl, f1.aft A2 R1, RwL.append f2 (hdt s2)⟩, ?_, ?_⟩
    ·by_cases q : (w :: (ws ++ dts.map W.t)).length = n
     ·exact q
     ·rw [hl _ _ q] at g2; exact g2.elim
    ·cases hq : m (w :: (ws ++ dts.map W.t)) s2.hp with
     | ok a h => rw [hq] at g2; exact g2
     | er _ _ _ => rw [hq] at g2; exact g2.elim
     | bad => rw [hq] at g2; exact g2.elim
   ·exact g1.elim
  ·exact g1.elim
theorem ie_prop (cn : CN X.K c C) (cl : Cls X.K C) (hp : PropOf X.K C fl p1 g) (Fk : FnG X.prog X.w X.K X.mg X.base Yea k g fd ps Yhq) (hr : Room (k + 1) X.A) (hgd : X.A.guards = some []) (hb : Binds X.K fd ps []) (hl : ∀ ws hp, ws.length ≠ n → m ws hp = .bad) (ho : IE X Wx e Fo)
  (hab : attributeBase e fl X.env (eval e X.env) = eval e X.env := by rfl) : IE X Wx (.Attribute e fl pos) (mProp c m Fo) :=
 PE.imp (pe_propG ho cl hp Fk hr hgd hb .nil (passL (X := X.nox)) hab) fun σ H Q h => by
  obtain ⟨s0, eta, e1, R0, S0, g0⟩ := h
  refine ⟨s0, eta, e1, R0, S0, Go.bind g0 fun w v s1 A1 R1 f1 eok g1 => ?_⟩
  clear eok
  split at g1
  ·rename_i c' fs hi
   split at g1
   ·rename_i hc
    subst hc
    obtain ⟨a, C', dx, vs, e, hH, cn', l⟩ := ins_at R1 hi f1
    cases cn.inj cn'
    subst e
    refine ⟨a, dx, vs, rfl, hH, s1, [w], rfl, R1, ⟨.ref a, [], rfl, f1, rfl⟩, ?_, ?_⟩
    ·by_cases q : [w].length = n
     ·exact q
     ·rw [hl _ _ q] at g1; exact g1.elim
    ·cases hq : m [w] s1.hp with
     | ok a h => rw [hq] at g1; exact g1
     | er _ _ _ => rw [hq] at g1; exact g1.elim
     | bad => rw [hq] at g1; exact g1.elim
   ·exact g1.elim
  ·exact g1.elim
end
end Mir
namespace Mir
open PySem PySem.Spec L2
open PyProof.Rows hiding St
section
variable {prog : Program} {w : World} {A : Around} {E : Value → Shared → Prop} {h : Heap} {g : Array GenState} {d : Drawn} {t : Nat} {os : OsState}
variable {nm q : Str} {C N : Addr} {bs bm : List Value} {hdct : Bool} {sn : List Str} {sub : List Value} {ab : Bool} {col : Option Bool} {dd : Option Addr} {k0 k1 k2 k3 k5 : Option Value}
/-- the built-in __init__ bound to the exception, called -/
theorem call_mw {B newId i : String} {bmB : List Value} (FB : PySem.ExcBaseFacts B newId i bmB) {u e t0 : Addr} {rest : List Value} {Q : Value → Shared → Prop}
  (hC : h.get? C = some (excClassObj nm q C N bs bm hdct sn sub ab col dd k0 k1 k2 k3 k5 newId)) (he : h.get? e = some (PySem.HandSPX.excO C t0)) (hu : h.get? u = some (PySem.W.kxs_mw i e)) (hrest : rest.length ≤ sizeLine)
  (hq : ∀ h' t1, (∀ b o, b ≠ e → h.get? b = some o → h'.get? b = some o) → h'.get? e = some (PySem.HandSPX.excO C t1) → Q .none ⟨h', g, d, t, os⟩) :
  wpAny Yal A (call (.ref u) rest) Q E ⟨h, g, d, t, os⟩ := by
 refine wpAny_call (codeAny_of_tree ?_)
 show wpAny _ A.in1 (callAny (.ref u) ⟨rest, []⟩) _ _ _
 simp only [callAny]
 refine wpAny_bind (wpAny_load hu ?_)
 simp only [PySem.W.kxs_mw, show (Value.type "method-wrapper" == Value.type "method" || Value.type "method-wrapper" == Value.type "builtin_function_or_method" || Value.type "method-wrapper" == Value.type "method-wrapper") = true by decide, if_true]
 refine PySem.W.KFB.if_so Yct ?_
 refine wpAny_bind (PySem.W.check_bound_init FB.toExcCallFacts hC he rfl ?_)
 refine wpAny_bind (wpAny_pure (wpAny_pure ?_))
 refine ⟨plainId_quiet FB.init.plain _, codeAny_builtin FB.initEntry ?_⟩
 rw [Around.under_plainId FB.init.plain _]
 wp_walk
 refine hq _ h.objs.size (fun b o hb ho => ?_) ?_
 ·rw [Heap.get?_update_other _ _ (Ne.symm hb)]
  exact Heap.get?_push_of_some _ ho
 ·rw [Heap.get?_update_self _ (Heap.get?_push_of_some _ he) rfl]
  rfl
end
theorem ldL' {M : Model} {A : Around} {E : Value → Shared → Prop} {s : Shared} {env : Env} {m : Str → Option Value} {x : Str} {pos : Pos} {v : Value} {Q : Value → Shared → Prop} (hn : s.heap.Ns env.locals m) (hv : m x = some v) (h : Q v s)
  (hk : env.scope.kind = .function) (hl : env.kindOf x = some .local) (hd : (x == ("__debug__" : Str)) = false) : wpAny M A (eval Ykw env) Q E s := wpAny_Name (wpAny_loadName_local hk hl hn hv h) hd
/-- what the written part says of such a class -/
structure XIni (P : Program) (K : PySem.W.Frag) (C fI : Addr) (qual fld : Str) (params : Arguments) (body : List Stmt) (scope : Scope) (fd : FuncData) : Prop where
 T : OexC K C
 ex : ∃ (oc : Value) (od : Option Addr) (kV doc pm : Value) (an : Option Addr) (cda : Addr) (ct : Value) (cc : Addr) (osl : Array Ybs) (ccl : Value) (cdd : Option Addr) (vs : Array Value) (ccs : Array Ybs) (file : Str) (tf : Tok) (cl : Value) (cld : Option Addr) (csl : Array Ybs),
  fd = PySem.W.ksFn "__init__" qual params body scope .none kV doc pm an Yik ct cc ∧ K.lookup fI = some ⟨oc, od, .func fd, osl⟩ ∧ PySem.W.codeIn K Yik qual = true ∧
  K.lookup cda = some ⟨ccl, cdd, .fields vs, ccs⟩ ∧ vs[2]? = some (.str file tf) ∧ ((P.main.file : Str) == file) = true ∧ K.lookup cc = some ⟨cl, cld, .cell (some (.ref C)), csl⟩
 iC : PySem.W.findIn K (.ref C) "__init__" = some (some Yj0)
 tI : PySem.W.typeIn K Yj0 = some Yfh
 sup : PySem.W.ks_superIn K C C "__init__" = some Ydh
 sub : PySem.W.subIn K (.ref C) (.type "ValueError") = some true
 mro : PySem.W.mroIn K C (.ref C) = some true
 gs : PySem.W.nsIn K mainGlobals "super" = some none
 ta : PySem.W.nsIn K PySem.cStatics "thirdparty.any" = some none
 fl : PySem.W.findIn K (.ref C) fld = some none
 top : (P.main.scope.names.lookup ("super" : Str)).isSome = false
/-- .. and its scope -/
structure XSc (par : Str) (ar : Arg) (params : Arguments) (scope : Scope) : Prop where
 hp : (params.posonlyargs ++ params.args).head? = some ar
 ha : ar.arg = ("self" : Str)
 ks : scope.names.lookup ("super" : Str) = some .globalImplicit
 kc : scope.names.lookup ("__class__" : Str) = some .free
 kself : scope.names.lookup Yil = some .local
 kpar : scope.names.lookup par = some .local
 kind : scope.kind = .function
 co : scope.isCoroutine = false
 gen : scope.isGenerator = false
 cell : ∀ x ∈ scope.names, x.2 ≠ .cell
 ne : par ≠ ("self" : Str)
 db : (par == ("__debug__" : Str)) = false
section
variable {P : Program} {w : World} {K : PySem.W.Frag} {mg mb : Str → Option Value} {A : Around} {R : Result → Shared → Prop} {hp : Heap} {g : Array GenState} {d : Drawn} {t : Nat} {os : OsState}
theorem xini_code {C fI e t0 : Addr} {qual fld par txt : Str} {params : Arguments} {scope : Scope} {fd : FuncData} {ar : Arg} {args : Args} {u : Value} {p0 p1 p2 p3 p4 p5 p6 p7 p8 p9 : Pos} {j : Nat}
  (X : XIni P K C fI qual fld params [.Expr Yi p5, .Assign [.Attribute (.Name "self" p6) fld p7] (.Name par p8) p9] scope fd) (S : XSc par ar params scope)
  (KX : K.In hp) (Gg : hp.Ns mainGlobals mg) (Gb : hp.Ns builtinsNs mb) (Gbb : ∀ x : Str, x ≠ "__name__" → mb x = bootBuiltins x) (nl : hp.NoLimit) (hroom : A.depth < recursionLimit)
  (Ke : K.lookup e = none) (he : hp.get? e = some (PySem.HandSPX.excO C t0)) (hbind : BindsTo ⟨hp, g, d, t, os⟩ fd args [("self", .ref e), (par, u)])
  (hq : ∀ h' tk' dx t1, (∀ b o, b ≠ e → hp.get? b = some o → h'.get? b = some o) → hp.objs.size ≤ dx → dx ≠ e → h'.get? e = some ({ cls := .ref C, dict := some dx, data := .fields #[.ref t1, .none, .none, .none, .bool false, .none] } : Obj) →
   h'.Ns1 dx (fun y => if y = fld then some u else none) → R (.ok (.ret .none)) ⟨h', g, d, tk', os⟩)
  (hev : ∀ env : Env, eval Yi env = (do
   let ov ← attributeBase Yc0 "__init__" env (eval Yc0 env)
   standAt p2.atName
   let (f, first) ← holding [ov] Yap
   callWith p4 f first (backTo p4 Yem) [])) :
  codeAny Yd9 A (.call Yj0 args) R ⟨hp, g, d, t, os⟩ := by
 obtain ⟨oc, od, kV, doc, pm, an, cda, ct, cc, osl, ccl, cdd, vs, ccs, file, tf, cl, cld, csl, rfl, lk, hcd, hcode, hvs, hfile, hcell⟩ := X.ex
 obtain ⟨nm, q, N, bs, bm, sn, sub, ab, col, dd, k0, k1, k2, k3, k5, hC, hbm⟩ := X.T.cls
 have hcl : PySem.W.clsIn K C = some { name := nm, bases := bs, mro := .ref C :: bm, ns := N, qualname := q, hasDict := true, slotNames := sn, subclasses := sub, abstract := ab, collection := col, hasDel := false } := by unfold PySem.W.clsIn; rw [hC] <;> rfl
 have kn : PySem.HandSPX.excO C t0 = PySem.HandSPX.excO C t0 := rfl
 refine PySem.ks_codeAny_call_defAt (binds := [("self", .ref e), (par, u)]) hroom (KX _ _ lk) rfl nl (PySem.W.codeRec_of KX hcd) rfl hbind S.cell ?_ (fun h₁ hns k1' => ?_) S.co S.gen S.kind
 ·intro x hx
  simp only [List.mem_cons, List.not_mem_nil, or_false] at hx
  rcases hx with rfl | rfl
  ·exact S.kself
  ·exact S.kpar
 have X1 : K.In h₁ := KX.keeps k1'
 have he1 := k1' _ _ he
 have hb1 : ([Yft, (par, u)] : List (Str × Value)).reverse.lookup Yil = some (Value.ref e) := by
  have : ((("self" : Str) == par)) = false := beq_eq_false_iff_ne.mpr (Ne.symm S.ne)
  show List.lookup Yil [(par, u), Yft] = _
  rw [List.lookup_cons, this]
  show List.lookup Yil [Yft] = _
  rw [List.lookup_cons, beq_self_eq_true]
 have hb2 : ([Yft, (par, u)] : List (Str × Value)).reverse.lookup par = some u := by
  show List.lookup par [(par, u), Yft] = _
  rw [List.lookup_cons, beq_self_eq_true]
 have hCg := X1 _ _ hC
 have heC : e ≠ C := by
  intro z
  rw [z, hCg] at he1
  cases he1
 have hal : PySem.W.alongIn K "__init__" bm = some Ydh := by
  have q := X.sup
  unfold PySem.W.ks_superIn at q
  rw [hcl] at q
  have z : (((Value.ref C) :: bm).dropWhile (· != .ref C)).drop 1 = bm := by simp [List.dropWhile_cons]
  rw [← z]
  exact q
 have hi : interactive (PySem.W.ksEnv qual scope hp.objs.size fI Yik cc) = false := by simp [interactive, S.kind]
 have FB := PySem.F.excBase_ValueError
 refine PySem.ks_wpAt_execs_cons (PySem.ks_wpAt_Expr_any (env := PySem.W.ksEnv qual scope hp.objs.size fI Yik cc) (PySem.ks_wpAt_MethodCall ?_ (hev _)) hi)
 refine PySem.ks_wpAt_super_base (env := PySem.W.ksEnv qual scope hp.objs.size fI Yik cc) S.ks S.kc Yct rfl (X1 _ _ lk) rfl S.hp rfl (X1 _ _ hcode) rfl hvs hfile X.top ?_
 refine PySem.W.ks_loadName_global (env := PySem.W.ksEnv qual scope hp.objs.size fI Yik cc) S.kind S.ks (PySem.Calls.loadGlobal_builtin (env := PySem.W.ksEnv qual scope hp.objs.size fI Yik cc) (Gg.keeps k1') (PySem.W.mg_none_of KX Gg X.gs) (Gb.keeps k1') ((Gbb _ Yg).trans Yg) ⟨rfl, ?_⟩)
 refine wpAny_loadName_free (env := PySem.W.ksEnv qual scope hp.objs.size fI Yik cc) S.kind S.kc rfl ⟨_, X1 _ _ hcell, rfl⟩ ?_
 rw [S.ha]
 refine wpAny_loadName_local (env := PySem.W.ksEnv qual scope hp.objs.size fI Yik cc) S.kind S.kself hns hb1 ?_
 refine PySem.ks_wpAny_isType_cls hCg rfl ⟨rfl, ?_⟩
 refine PySem.ks_wpAny_call_super hCg rfl he1 rfl (fun c z => by cases z) (PySem.W.looks_mroIn X1 X.mro) (fun h2 e2 k2 => ?_)
 have X2 := X1.keeps k2
 have he2 := k2 _ _ he1
 refine PySem.W.kxs_getMethod PySem.W.kxs_ValueError e2 (PySem.W.looks_opaque X2 X.ta) (l₀ := .ref C :: bm) ((PySem.W.looks_clsIn X2 hcl).andThen .now) (l := bm) (by simp [List.dropWhile_cons]) X2 hal ?_ heC Yct ?_
 ·exact (⟨he2, rfl, rfl, trivial⟩ : PySem.W.InstAt h2 e (PySem.HandSPX.excO C t0) C none).type.andThen (PySem.W.looks_subIn X2 X.sub)
 have k3 : ∀ b o, h2.get? b = some o → (h2.push Yi3).get? b = some o := fun b o q => Heap.get?_push_of_some _ q
 have hu : (h2.push Yi3).get? h2.objs.size = some Yi3 := Heap.get?_push_at rfl rfl
 have X3 := X2.keeps k3
 have he3 := k3 _ _ he2
 refine PySem.W.kxs_callWith (i := "ValueError.__init__") (x := e) rfl (Calls.evalArgs_plain (x := eval (.Constant (.str txt) j p3) (PySem.W.ksEnv qual scope hp.objs.size fI Yik cc)) (rest := []) (Calls.spliced_cons (Calls.Constant_str (Calls.spliced_nil ⟨hu, ?_⟩))))
 refine call_mw (rest := [_]) FB (X3 _ _ hC) he3 hu (by rw [sizeLine_eq]; simp) fun h4 t1 k4 he4 => ?_
 -- self.fld = par
 have k14 : ∀ b o, b ≠ e → h₁.get? b = some o → h4.get? b = some o := fun b o hb q => k4 b o hb (k3 _ _ (k2 _ _ q))
 have X4 : K.In h4 := fun b o q => k4 b o (fun z => by rw [z, Ke] at q; cases q) (X3 b o q)
 have hL : e ≠ hp.objs.size := Nat.ne_of_lt (Heap.lt_size he)
 have hns4 : h4.Ns hp.objs.size _ := hns.at fun o q => k14 _ o (Ne.symm hL) q
 refine PySem.ks_wpAt_execs_cons (PySem.ks_wpAt_Assign_Attr (wpAt_of_wpAny (ldL' (env := PySem.W.ksEnv qual scope hp.objs.size fI Yik cc) hns4 hb2 (ldL' (env := PySem.W.ksEnv qual scope hp.objs.size fI Yik cc) hns4 hb1 ?_ S.kind S.kself Yct) S.kind S.kpar S.db)))
 refine PySem.W.set_plain X4 (ox := { cls := .ref C, dict := none, data := .fields #[.ref t1, .none, .none, .none, .bool false, .none] }) (od := none) ⟨he4, rfl, rfl, trivial⟩ X.T.sa ?_
 refine PySem.HandSPX.exc_osa X4 he4 hcl (show PySem.HandSPX.refsVE (.ref C :: bm) = true from hbm) rfl X.fl (fun h5 tk5 dx k5' dn dne hx hn => ?_)
 refine wpAt_of_wpAny (wpAny_execs_nil ?_)
 refine hq h5 tk5 dx t1 (fun b o hb q => k5' b o hb (k14 b o hb (k1' b o q))) ?_ dne hx hn
 have : hp.objs.size ≤ h4.objs.size := by
  obtain ⟨oL, es, ep, hL2, _⟩ := hns4
  exact Nat.le_of_lt (Heap.lt_size hL2)
 exact Nat.le_trans this dn
end
/-- the promise of such an __init__ -/
def spI (C : Addr) (fld : Str) : Sp := fun vs H Q _ => ∃ (e : Addr) (y : V), vs = [.ref e, y] ∧ H e = some (exo e C none) ∧ ∀ dx, H dx = none → dx ≠ e → Q .non (upd (upd H dx (exd dx [(fld, y)])) e (exo e C (some dx)))
section
variable {P : Program} {w : World} {K : PySem.W.Frag} {mg : Str → Option Value} {base : Heap} {CX : CXT} {C fI : Addr} {qual fld par txt : Str} {params : Arguments} {scope : Scope} {fd : FuncData} {ar : Arg} {p0 p1 p2 p3 p4 p5 p6 p7 p8 p9 : Pos} {j : Nat}
theorem xini_run (X : XIni P K C fI qual fld params [.Expr Yi p5, .Assign [.Attribute (.Name "self" p6) fld p7] (.Name par p8) p9] scope fd) (S : XSc par ar params scope)
  (hev : ∀ env : Env, eval Yi env = (do
   let ov ← attributeBase Yc0 "__init__" env (eval Yc0 env)
   standAt p2.atName
   let (f, first) ← holding [ov] Yap
   callWith p4 f first (backTo p4 Yem) []))
  {A : Around} {outer : List Env} {s : Shared} {H : Hp} {args : Args} {us : List Value} {vs : List V} {Q : VK} {E : XK} (hroom : A.depth < recursionLimit) (e0 : Env0 P w K mg base A outer s H) (hb : BindsTo s fd args (([Yil, par] : List Str).zip us)) (r : Vals vs us) (h : spI C fld vs H Q E) :
  codeAny Yd9 A (.call Yj0 args) (CR CX outer P w H s Q E) s := by
 obtain ⟨e, y, rfl, he, q⟩ := h
 cases r with
 | @cons _ u0 _ ur ra rb =>
  cases rb with
  | @cons _ u _ ur2 ry rc =>
   cases rc
   obtain rfl : u0 = Value.ref e := ra
   obtain ⟨t0, ho⟩ := exo_at e0.hok he
   have keep : ∀ b o, base.get? b = some o → s.heap.get? b = some o := fun b o z => (e0.bs b o z).1
   have Ke : K.lookup e = none := by
    cases z : K.lookup e with
    | none => rfl
    | some o =>
     have z1 := (e0.bs e o (e0.mod.kin _ _ z)).2
     rw [he] at z1
     cases z1
   obtain ⟨mb, Gb, Gbb⟩ := e0.mod.blt
   have ok := e0.hok
   have bare := e0.bare
   have KX := e0.mod.kin.keeps keep
   have Gg : s.heap.Ns mainGlobals mg := e0.mod.glob.at fun o z => keep _ _ z
   have Gb' : s.heap.Ns builtinsNs mb := Gb.at fun o z => keep _ _ z
   have nl : s.heap.NoLimit := e0.mod.nolimit.keeps keep
   clear e0
   obtain ⟨hp, g, d, t, os⟩ := s
   refine xini_code X S KX Gg Gb' Gbb nl hroom Ke ho hb (fun h' tk' dx t1 k dn dne hx hn => ?_) hev
   have hnd : H dx = none := ok.fresh dn
   have nd : ∀ {b : Addr} {o : Obj}, hp.get? b = some o → b ≠ dx := fun {b o} q => Nat.ne_of_lt (Nat.lt_of_lt_of_le (Heap.lt_size q) dn)
   have na : ∀ {b : Addr}, H b = none → b ≠ e := fun {b} n z => by
    rw [z, he] at n
    cases n
   refine ⟨.non, upd (upd H dx (exd dx [(fld, y)])) e (exo e C (some dx)), rfl, bare, ?_, ?_, rfl, q dx hnd dne⟩
   ·exact {
     keep := fun b o q n _ _ => k b o (na n) q
     slot := fun b o q n _ _ => ⟨o.slots, k b o (na n) q⟩
     free := fun b o q n _ => by rw [upd_ne (na n), upd_ne (nd q)]; exact n
     there := fun b o q _ => by
      by_cases hb : b = e
      ·exact ⟨_, by rw [hb]; exact hx⟩
      ·exact ⟨o, k b o hb q⟩
     tups := fun b xs q => by rw [upd_ne (at_ne he q exo_tup), upd_ne (ne_of_none q hnd)]; exact q
     frzs := fun b o v q => by rw [upd_ne (at_ne he q exo_frz), upd_ne (ne_of_none q hnd)]; exact q
     tbls := fun b ps q => ⟨#[], by rw [upd_ne (at_ne he q exo_tbl), upd_ne (ne_of_none q hnd), q]; simp⟩ }
   ·intro b o q
    by_cases hb : b = e
    ·subst hb
     rw [upd_same] at q
     cases q
     exact exo_ok hx
    ·rw [upd_ne hb] at q
     by_cases hd : b = dx
     ·subst hd
      rw [upd_same] at q
      cases q
      exact exd_ok hn (relO_put (fs := []) ry fun g => True.intro)
     ·rw [upd_ne hd] at q
      exact (ok b o q).stay (fun c v hc z => k c v (by
        rcases hc with hc | hc
        ·rw [hc]
         exact hb
        ·exact at_ne he hc exo_own) z)
       (fun c hc => by rw [upd_ne (at_ne he hc exo_own), upd_ne (ne_of_none hc hnd)]; exact hc) (fun c xs hc => by rw [upd_ne (at_ne he hc exo_tup), upd_ne (ne_of_none hc hnd)]; exact hc)
theorem spI_len {vs : List V} {H : Hp} {Q : VK} {E : XK} (h : spI C fld vs H Q E) : vs.length = ([Yil, par] : List Str).length := by
 obtain ⟨e, y, rfl, _⟩ := h
 rfl
theorem xini_ok (X : XIni P K C fI qual fld params [.Expr Yi p5, .Assign [.Attribute (.Name "self" p6) fld p7] (.Name par p8) p9] scope fd) (S : XSc par ar params scope)
  (hev : ∀ env : Env, eval Yi env = (do
   let ov ← attributeBase Yc0 "__init__" env (eval Yc0 env)
   standAt p2.atName
   let (f, first) ← holding [ov] Yap
   callWith p4 f first (backTo p4 Yem) [])) : FnOk P w K mg base CX 1 fI fd [Yil, par] (spI C fld) :=
 ⟨fun vs H Q E h => spI_len h, fun A outer s H args us vs Q E hr e0 hb r h => xini_run X S hev hr.depth e0 hb r h⟩
theorem xini_hot (X : XIni P K C fI qual fld params [.Expr Yi p5, .Assign [.Attribute (.Name "self" p6) fld p7] (.Name par p8) p9] scope fd) (S : XSc par ar params scope)
  (hev : ∀ env : Env, eval Yi env = (do
   let ov ← attributeBase Yc0 "__init__" env (eval Yc0 env)
   standAt p2.atName
   let (f, first) ← holding [ov] Yap
   callWith p4 f first (backTo p4 Yem) [])) : L2H.FnH P w K mg base CX 1 fI fd [Yil, par] (spI C fld) :=
 ⟨fun vs H Q E h => spI_len h, fun A outer s H args us vs Q E p hr _ _ e0 hb r h => xini_run X S hev hr.depth e0 hb r h⟩
end
end Mir
namespace Mir
open PySem PySem.Spec L2
open PyProof.Rows hiding St
section
variable {X : Cx} {CX : CXT} {k : Nat} {f C g p1 : Addr} {fd : FuncData} {ps : List Str} {sp : Sp} {dvs : List V} {ds : List Value} {E : L2.St → XK} {x m fl : Str} {p pos apos : Pos} {e o : Expr} {es : List Expr} {ta : TE} {t : TA} {pl : Sem Bool} {mc : Value}
theorem run_makeX {pins : List Ya9} {σ : L2.St} {H : Hp} {s : Shared} {Q : VK} {us : List Value} {vs : List V} (M : Mk X.K C f) (F : FnG X.prog X.w X.K X.mg X.base CX k f fd ps sp) (hr : Room (k + 1) X.A) (hgd : X.A.guards = some []) (hb : Binds X.K fd ps ds) (hd : Vals dvs ds) (hx : PassesAt CX X σ (E σ)) (I : Inv X pins σ H s) (r : Vals vs us)
  (h : ∀ x dx, H x = none → H dx = none → dx ≠ x → sp Yk0 (upd (upd H dx (.own x)) x Yj1) Ye0 (E σ)) : wpAny Ym X.A (call (.ref C) us) (EP X pins σ Q) X.xe s := by
 have q0 := h Ybh s.heap.objs.size (I.hok.fresh (Nat.le_succ _)) (I.hok.fresh Ye7) (Nat.ne_of_lt Yjs)
 have J := Inv.made (C := C) I
 have r2 : Vals (V.ref Ybh :: (vs ++ dvs)) (Value.ref Ybh :: (us ++ ds)) := .cons rfl (r.append hd)
 have el : (Value.ref Ybh :: us ++ ds).length = ps.length := (show _ = _ from r2.length.symm).trans (F.len _ _ _ _ q0)
 have cod := F.run (X.A.under (.builtin "type.__call__" ⟨.ref C :: us, []⟩)) X.stack _ _ ⟨Value.ref Ybh :: us, []⟩ (Value.ref Ybh :: (us ++ ds)) _ _ (E σ) (hr.make C us []) hgd (J.env0.make C us []) (hb _ (Value.ref Ybh :: us) J.kIn el) r2 q0
 refine wpAny_call (make_map (f := f) I.kIn M.makes M.init (beq_iff_eq.mp M.fn) (codeAny_mono cod ?_))
 rintro (er | fl) s' q
 ·exact hx pins _ _ er s' J q
 ·cases fl with
  | ret u =>
   obtain ⟨v, H', J2, rv, ev, q3⟩ := J.after q
   subst ev
   exact ⟨rv, V.ref Ybh, H', J2, rfl, q3⟩
  | next => exact (show False from q).elim
  | brk => exact (show False from q).elim
  | cont => exact (show False from q).elim
def tMakeX (C : Addr) (sp : Sp) (dvs : List V) (E : L2.St → XK) (t : TA) : TE := fun σ H Q => t σ H fun vs H1 => ∀ x dx, H1 x = none → H1 dx = none → dx ≠ x → sp Yk0 (upd (upd H1 dx (.own x)) x Yj1) Ye0 (E σ)
/-- cls(..), cls the i-th slot -/
def tMakeL (i : Nat) (C : Addr) (sp : Sp) (dvs : List V) (E : L2.St → XK) (t : TA) : TE := fun σ H Q => σ[i]? = some (some (.ref C)) ∧ tMakeX C sp dvs E t σ H Q
theorem pe_makeL {i : Nat} (M : Mk X.K C f) (F : FnG X.prog X.w X.K X.mg X.base CX k f fd ps sp) (hr : Room (k + 1) X.A) (hgd : X.A.guards = some []) (hN : X.N[i]? = some x) (hv : Vis X.env.scope x) (hb : Binds X.K fd ps ds) (hd : Vals dvs ds) (hx : ∀ σ, PassesAt CX X σ (E σ)) (ha : PA X Yam t)
  (hdb : (x == ("__debug__" : Str)) = false := by decide) (hcd : (x == ("__classdict__" : Str)) = false := by decide) (he : starEach Yam X.env = (false, eval e X.env) :: starEach es X.env := by rfl) (hpl : (backTo pos Ybi).any (·.1) = false := by rfl) : PE X Yc2 (tMakeL i C sp dvs E t) :=
 ⟨fun pins s σ H Q I h => by
  obtain ⟨hs, ht⟩ := h
  refine wpAny_Call_Name_kw (thn ((pe_var (pos := p) hN hv hdb hcd).run pins s σ H (fun v H1 => v = .ref C ∧ H1 = H) I ⟨.ref C, hs, rfl, rfl⟩) ?_)
  rintro u s1 ⟨v, H1, I1, r1, rfl, rfl⟩
  cases r1
  exact PySem.W.callWith_K (h₀ := X.base) I.ok.mod.kin M.kp (thn (ha.run pos pins s1 σ _ _ I1 ht) fun us s2 ⟨vs, H2, I2, r, q⟩ => ⟨I2.kIn, run_makeX M F hr hgd hb hd (hx σ) I2 r q⟩) he hpl⟩
/-- C.m(..), m a classmethod -/
def tCMethX (C : Addr) (sp : Sp) (dvs : List V) (E : L2.St → XK) (ta : TE) (t : TA) : TE := fun σ H Q => ta σ H fun x H1 => x = .ref C ∧ t σ H1 fun vs H2 => sp (.ref C :: (vs ++ dvs)) H2 Q (E σ)
theorem pe_cmethX (he : PE X o ta) (r : ClX.CRead X.K C mc) (c : ClX.CMet X.K C mc m p1 g) (F : FnG X.prog X.w X.K X.mg X.base CX k g fd ps sp) (hr : Room k X.A) (hgd : X.A.guards = some []) (hb : Binds X.K fd ps ds) (hd : Vals dvs ds) (hx : ∀ σ, PassesAt CX X σ (E σ)) (ha : PA X Yam t)
  (hst : starEach Yam X.env = (false, eval e X.env) :: starEach es X.env := by rfl) (hpl : (backTo pos Ybi).any (·.1) = false := by rfl)
  (ht : eval Yez X.env = (do let ov ← eval o X.env; standAt apos.atName; let (f, first) ← holding [ov] (getMethod ov m pl); callWith pos f first (backTo pos Yjr) (backToKw pos Yep)) := by rfl) :
  PE X Yez (tCMethX C sp dvs E ta t) := by
 refine ⟨fun pins s σ H Q I h => ?_⟩
 refine PySem.W.methodCall_KW (pl := pl) (thn Yeo fun u s1 ⟨x, H1, I1, rx, ex, q⟩ => ?_) ht
 subst ex
 obtain rfl : u = Value.ref C := rx
 refine ClX.getmethcm_ok I1 r c fun s2 I2 => ?_
 refine ClX.callwith_cm I2 (ClX.base_none I1 Ye7) c.fi (thn (ha.run pos _ s2 σ H1 _ I2 q) fun us s3 ⟨vs, H2, I3, rv, q2⟩ => ⟨⟨ClX.pin_at I3, I3.kIn⟩, ?_⟩) hst hpl
 have r1 : Vals (V.ref C :: vs) (Value.ref C :: us) := .cons rfl rv
 have r2 : Vals (V.ref C :: vs ++ dvs) (Value.ref C :: us ++ ds) := r1.append hd
 have hl : (Value.ref C :: us ++ ds).length = ps.length := r2.length.symm.trans (F.len _ _ _ _ q2)
 refine thn (Q := EP X ((s1.heap.objs.size, PySem.W.methodObj (.ref g) (.ref C)) :: pins) σ Q) (wpAny_call (PySem.W.method_call (ClX.pin_at I3) (codeAny_mono (F.run X.A X.stack s3 H2 ⟨Value.ref C :: us, []⟩ (Value.ref C :: us ++ ds) (V.ref C :: vs ++ dvs) Q (E σ) hr hgd I3.env0 (hb s3 (Value.ref C :: us) I3.kIn hl) r2 q2) ?_))) fun _ _ y => ClX.unpinE y
 rintro (er | fl) s' hq
 ·exact hx σ _ H2 s3 er s' I3 hq
 ·cases fl with
  | ret u => exact I3.after hq
  | next => exact (show False from hq).elim
  | brk => exact (show False from hq).elim
  | cont => exact (show False from hq).elim
end
def reEr {A : Type} (eta : IS) (r : Res A) : Res A := match r with
 | .er e _ h => .er e eta h
 | r => r
def spX (K : PySem.W.Frag) (ω : World) (f : OpN) (n : Nat) : Sp := fun vs H Q E => ∃ (s : S4) (ws : List W), s.H = H ∧ Rel K ω s ∧ RwL K s ws vs ∧ ws.length = n ∧ Go K ω (fun cls d _ H' => E cls d H') (Rw K) s (f ws s.hp) Q
theorem Go.reEr {A B : Type} {K : PySem.W.Frag} {ω : World} {Wx : WX} {Fam : S4 → A → B → Prop} {s : S4} {eta : IS} {σ : L2.St} {r : Res A} {Q : B → Hp → Prop} (R : Rel K ω s) (S : Sl K s eta σ) (g : Go K ω Wx Fam s (reEr eta r) Q) : Go K ω (fun cls d _ H' => Wx cls d σ H') Fam s r Q := by
 cases r with
 | ok a h => exact g
 | er e eta' h => exact fun s' σ' cls d h1 h2 h3 h4 h5 => g s' σ cls d h1 h2 h3 (S.aft h2 R) h5
 | bad => exact g
/-- a def's function: exceptions go on; its cells stay -/
def fnX (n nn : Nat) (B : M Fl) : OpN := fun ws hp => if ws.length = n then (match B Yhp hp with
  | .ok (.rt w) h => .ok w h
  | .ok (.nx _) h => .ok Ya0 h
  | .er e _ h => .er e [] h
  | _ => .bad) else .bad
theorem zf7 {n nn : Nat} {B : M Fl} : ∀ ws hp, ws.length ≠ n → fnX n nn B ws hp = .bad := fun ws hp h => by unfold fnX; rw [if_neg h]
section
variable {K : PySem.W.Frag} {ω : World}
theorem spX_len {f : OpN} {n : Nat} {vs : List V} {H : Hp} {Q : VK} {E : XK} (h : spX K ω f n vs H Q E) : vs.length = n := by
 obtain ⟨s, ws, _, _, l, e, _⟩ := h
 rw [← RwL.length l, e]
variable {P : Program} {w : World} {mg : Str → Option Value} {base : Heap} {CX : CXT}
theorem okX {x qual : Str} {st : Stmt} {f : Addr} {fd : FuncData} {N ps : List Str} {k : Nat} {B : M Fl} {dfs : List V} {kws : List Ygz} (F : FunD K x qual (defArgs st) Ykk Ycg dfs kws f fd) (S : FnScope N ps Ycg)
  (hb : ∀ (cdv : Value) (A : Around) (outer : List Env) (s : Shared) (H : Hp) (E : XK), Room k Ybz → A.guards = some [] → ISs Yf3 (fun cls d _ H' => E cls d H') Ykk B) :
  FnG P w K mg base CX (k + 1) f fd ps (spX K w (fnX ps.length N.length B) ps.length) := by
 refine Fun.okG F S (fun vs H Q E h => spX_len h) fun cdv A outer s H vs Q E hr hgd h => ⟨_, hb cdv A outer s H E hr hgd, ?_⟩
 obtain ⟨s0, ws, e1, R1, l, el, g⟩ := h
 refine ⟨s0, _, e1, R1, sl_start l, ?_⟩
 unfold fnX at g
 rw [if_pos el] at g
 rw [el]
 cases hB : B (ws.map some ++ List.replicate (N.length - ps.length) none) s0.hp with
 | ok fl hp =>
  rw [hB] at g
  cases fl with
  | rt wr => exact fun b s' h1 h2 h3 h4 => by cases b <;> first | exact h4.elim | exact g _ s' h1 h2 h3 h4
  | nx e => exact fun b s' h1 h2 h3 h4 => by cases b <;> first | exact h4.elim | exact g .non s' h1 h2 h3 (by simp [Rw, Rf])
  | bk e => exact g.elim
  | ct e => exact g.elim
 | er e eta hp =>
  rw [hB] at g
  exact fun s' σ' cls d h1 h2 h3 h4 h5 => g s' [] cls d h1 h2 h3 ⟨rfl, fun i w z => by simp at z⟩ h5
 | bad => rw [hB] at g; exact g.elim
end
def mMakeX (c : Str) (f : OpN) (ds : List T) (Fs : M (List W)) : M W := fun eta hp => (Fs eta hp).bind fun ws h1 => (reEr eta (f (.r h1.length :: (ws ++ ds.map W.t)) (h1 ++ [some (.ins c [])]))).bind fun w h2 => match w with
 | .t .non => .ok (.r h1.length) h2
 | _ => .bad
def zfx (c : Str) (f : OpN) (ds : List T) (Fo : M W) (Fs : M (List W)) : M W := fun eta hp => (Fo eta hp).bind fun o h1 => match o with
 | .t (.cls c') => if c' = c then (Fs eta h1).bind fun ws h2 => reEr eta (f (o :: (ws ++ ds.map W.t)) h2) else .bad
 | _ => .bad
def mMakeL (i : Nat) (c : Str) (f : OpN) (ds : List T) (Fs : M (List W)) : M W := fun eta hp => match eta[i]? with
 | some (some (.t (.cls c'))) => if c' = c then mMakeX c f ds Fs eta hp else .bad
 | _ => .bad
section
variable {X : Cx} {Wx : WX} {CX : CXT} {k : Nat} {f C g p1 : Addr} {fd : FuncData} {ps : List Str} {m : OpN} {n : Nat} {c x mn fl : Str} {p pos apos : Pos} {e o : Expr} {es : List Expr} {Fo : M W} {Fs : M (List W)} {dvs : List V} {ds : List Value} {dts : List T} {pl : Sem Bool} {mc : Value}
theorem go_X {s : S4} {eta : IS} {σ : L2.St} {ws : List W} {vs : List V} {H : Hp} {Q : VK} (e1 : s.H = H) (R : Rel X.K X.w s) (S : Sl X.K s eta σ) (l : RwL X.K s ws vs) (hdt : ∀ s, RwL X.K s (dts.map W.t) dvs) (hl : ∀ ws hp, ws.length ≠ n → m ws hp = .bad)
  (g : Go X.K X.w Wx (Rw X.K) s (reEr eta (m (ws ++ dts.map W.t) s.hp)) Q) : spX X.K X.w m n (vs ++ dvs) H Q (WE Wx σ) := by
 refine ⟨s, ws ++ dts.map W.t, e1, R, RwL.append l (hdt s), ?_, Go.reEr R S g⟩
 by_cases q : (ws ++ dts.map W.t).length = n
 ·exact q
 ·rw [hl _ _ q] at g; exact g.elim
theorem go_madeX {s : S4} {eta : IS} {σ : L2.St} {x dx : Addr} {ws : List W} {vs : List V} {Q : VK} (R : Rel X.K X.w s) (S : Sl X.K s eta σ) (cn : CN X.K c C) (f1 : RwL X.K s ws vs) (hdt : ∀ s, RwL X.K s (dts.map W.t) dvs) (hl : ∀ ws hp, ws.length ≠ n → m ws hp = .bad) (nx : s.H x = none) (ndx : s.H dx = none) (ne : dx ≠ x)
  (g : Go X.K X.w Wx (Rw X.K) s ((reEr eta Yjn).bind fun w h2 => match w with | .t .non => .ok (.r s.hp.length) h2 | _ => .bad) Q) :
  spX X.K X.w m n Yk0 (upd (upd s.H dx (.own x)) x Yj1) Ye0 (WE Wx σ) := by
 have A0 := (Aft.refl s).setD (D := dx) (o' := .own x) ndx
 have R0 : Rel X.K X.w (s.setD dx (.own x)) := zfh R (R.fresh ndx).1 (R.fresh ndx).2
 have nx0 : (s.setD dx (.own x)).H x = none := by show upd s.H dx (.own x) x = none; rw [upd_ne (Ne.symm ne)]; exact nx
 have ok0 : CellOk X.K X.w (s.setD dx (.own x)) x (.ins c []) (some Yj1) := ⟨C, dx, [], rfl, cn, rfl⟩
 have A1 := zen (c := .ins c []) (o := .ins C dx []) R0 nx0
 have R1 := zff R0 nx0 ok0
 have A := A0.trans A1
 refine ⟨(s.setD dx (.own x)).addL x (.ins c []) Yj1, .r s.hp.length :: (ws ++ dts.map W.t), rfl, R1, ?_, ?_, ?_⟩
 ·exact ⟨.ref x, _, rfl, addL_r (s := s.setD dx (.own x)) R0, RwL.append (RwL.aft A R _ _ f1) (hdt _)⟩
 ·by_cases q : (W.r s.hp.length :: (ws ++ dts.map W.t)).length = n
  ·exact q
  ·rw [hl _ _ q] at g; exact g.elim
 ·have g' := Go.aft g A
  show Go X.K X.w (fun cls d _ H' => Wx cls d σ H') (Rw X.K) _ Yjn _
  cases hq : m (.r s.hp.length :: (ws ++ dts.map W.t)) (s.hp ++ [some (.ins c [])]) with
  | er e1 eta1 h1 =>
   rw [hq] at g'
   exact fun s' σ' cls d q1 q2 q3 q4 q5 => g' s' σ cls d q1 q2 q3 (S.aft (A.trans q2) R) q5
  | bad => rw [hq] at g'; exact g'.elim
  | ok a h =>
   rw [hq] at g'
   intro b s' e1 e2 e3 e4
   simp only [Mir.reEr, Res.bind] at g'
   split at g'
   ·have hb : b = .non := by simpa only [Rw, Rf] using e4
    refine ⟨hb, g' (.ref x) s' e1 e2 e3 ?_⟩
    obtain ⟨ex, pre, _⟩ := e2.pre
    refine ⟨x, ?_, rfl⟩
    rw [pre]
    have h0 : ((s.setD dx (.own x)).addL x (.ins c []) Yj1).rho[s.hp.length]? = some x := by
     obtain ⟨a, q1, q2⟩ := addL_r (K := X.K) (p := x) (c := .ins c []) (o := .ins C dx []) (s := s.setD dx (.own x)) R0
     cases q2
     exact q1
    rw [List.getElem?_append_left (List.getElem?_eq_some_iff.mp h0).1]
    exact h0
   ·exact g'.elim
theorem ie_makeL {i : Nat} (M : Mk X.K C f) (cn : CN X.K c C) (Fk : FnG X.prog X.w X.K X.mg X.base CX k f fd ps (spX X.K X.w m n)) (hr : Room (k + 1) X.A) (hgd : X.A.guards = some []) (hN : X.N[i]? = some x) (hv : Vis X.env.scope x) (hb : Binds X.K fd ps ds) (hd : Vals dvs ds) (hdt : ∀ s, RwL X.K s (dts.map W.t) dvs) (hl : ∀ ws hp, ws.length ≠ n → m ws hp = .bad)
  (hx : ∀ σ, PassesAt CX X σ (WE Wx σ)) (ha : IA X Wx Yam Fs)
  (hdb : (x == ("__debug__" : Str)) = false := by decide) (hcd : (x == ("__classdict__" : Str)) = false := by decide) (he : starEach Yam X.env = (false, eval e X.env) :: starEach es X.env := by rfl) (hpl : (backTo pos Ybi).any (·.1) = false := by rfl) : IE X Wx Yc2 (mMakeL i c m dts Fs) :=
 PE.imp (pe_makeL (i := i) (E := WE Wx) M Fk hr hgd hN hv hb hd hx ha hdb hcd he hpl) fun σ H Q h => by
  obtain ⟨s, eta, e1, R1, S1, g⟩ := h
  unfold mMakeL at g
  split at g
  ·rename_i c' q
   split at g
   ·rename_i hc
    subst hc
    obtain ⟨v, h1, h2⟩ := S1.2 i _ q
    simp only [Rw, Rf] at h2
    obtain ⟨C', ev, cn'⟩ := h2
    subst ev
    cases cn.inj cn'
    refine ⟨h1, ?_⟩
    have h' : tE X.K X.w Wx (mMakeX c' m dts Fs) σ H Q := ⟨s, eta, e1, R1, S1, g⟩
    exact tM.bind1 (R := fun (vs : List V) (H1 : Hp) => ∀ x dx, H1 x = none → H1 dx = none → dx ≠ x → spX X.K X.w m n Yk0 (upd (upd H1 dx (.own x)) x Yj1) Ye0 (WE Wx σ))
     (C := W) (k := fun (ws : List W) (eta : IS) (h1 : IH) => (reEr eta (m (W.r h1.length :: (ws ++ dts.map W.t)) (h1 ++ [some (Cell.ins c' [])]))).bind fun w h2 => match w with | .t .non => (Res.ok (W.r h1.length) h2 : Res W) | _ => .bad) h' fun s eta ws vs R1 S1 f1 g x dx nx ndx ne => go_madeX R1 S1 cn f1 hdt hl nx ndx ne g
   ·exact g.elim
  ·exact g.elim
theorem ie_cmeth (cn : CN X.K c C) (rd : ClX.CRead X.K C mc) (cm : ClX.CMet X.K C mc mn p1 g) (Fk : FnG X.prog X.w X.K X.mg X.base CX k g fd ps (spX X.K X.w m n)) (hr : Room k X.A) (hgd : X.A.guards = some []) (hb : Binds X.K fd ps ds) (hd : Vals dvs ds) (hdt : ∀ s, RwL X.K s (dts.map W.t) dvs) (hl : ∀ ws hp, ws.length ≠ n → m ws hp = .bad) (hx : ∀ σ, PassesAt CX X σ (WE Wx σ)) (ho : IE X Wx o Fo) (ha : IA X Wx Yam Fs)
  (hst : starEach Yam X.env = (false, eval e X.env) :: starEach es X.env := by rfl) (hpl : (backTo pos Ybi).any (·.1) = false := by rfl)
  (ht : eval Yeq X.env = (do let ov ← eval o X.env; standAt apos.atName; let (f, first) ← holding [ov] (getMethod ov mn pl); callWith pos f first (backTo pos Yjr) (backToKw pos Yep)) := by rfl) : IE X Wx Yeq (zfx c m dts Fo Fs) :=
 PE.imp (pe_cmethX (pl := pl) (E := WE Wx) ho rd cm Fk hr hgd hb hd hx ha hst hpl ht) fun σ H Q h => by
  obtain ⟨s0, eta, e1, R0, S0, g0⟩ := h
  refine ⟨s0, eta, e1, R0, S0, Go.bind g0 fun w v s1 A1 R1 f1 eok g1 => ?_⟩
  clear eok
  split at g1
  ·rename_i c'
   split at g1
   ·rename_i hc
    subst hc
    have f1' := f1
    simp only [Rw, Rf] at f1'
    obtain ⟨C', ev, cn'⟩ := f1'
    cases cn.inj cn'
    refine ⟨ev, s1, eta, rfl, R1, S0.aft A1 R0, Go.bind g1 fun ws us s2 A2 R2 f2 eok g2 => ?_⟩
    clear eok
    subst ev
    exact go_X (ws := .t (.cls c') :: ws) (vs := .ref C :: us) rfl R2 ((S0.aft A1 R0).aft A2 R1) ⟨.ref C, _, rfl, f1.aft A2 R1, f2⟩ hdt hl g2
   ·exact g1.elim
  ·exact g1.elim
end
end Mir
namespace Mir
open PySem PySem.Spec L2
open PyProof.Rows hiding St
/-- .. which a context that takes any takes -/
theorem takesN {X : Cx} {W : WX} (t : L2.Takes X W) : L2N.Takes X W := fun u s' ⟨a, B, sI, pins, σ, H, cls, d, e, I, nb, up, sky, na, os, ag, w⟩ =>
 t u s' ⟨a, B, sI, pins, σ, H, cls, d, e, I, nb, up, by
  rcases sky with ⟨h1, h2, h3, oe, vs, h4, h5, h6⟩ | h | ⟨h1, h2, h3, h4⟩
  ·exact .inl ⟨h1, h2, h3, oe, vs, h4, h5.zc, h6⟩
  ·exact .inr (.inl (L2H.flyingZ_imp (fun o z => z.zc) h))
  ·exact .inr (.inr ⟨h1, h2, h3, L2H.tracedZ_imp (fun o z => z.zc) h4⟩), na, os, ag, w⟩
theorem pmk_oexN {X : Cx} {CX : CXT} {x : Str} {e : Expr} {es : List Expr} {ta : TA} {p pos : Pos} {C fI : Addr} {k : Nat} {fd : FuncData} {ps : List Str} {sp : Sp} (T : OexC X.K C) (iC : PySem.W.findIn X.K (.ref C) "__init__" = some (some Yj0)) (tI : PySem.W.typeIn X.K Yj0 = some Yfh)
  (F1 : FnOk X.prog X.w X.K X.mg X.base CX k fI fd ps sp) (hr : Room (k + 1) X.A) (hb : Binds X.K fd ps []) (hx : Passes CX X Yhj) (hg : Gl X x) (hm : X.mg x = some (.ref C)) (ha : PA X Yam ta)
  (hdb : (x == ("__debug__" : Str)) = false := by decide) (he : starEach Yam X.env = (false, eval e X.env) :: starEach es X.env := by rfl) (hpl : (backTo pos Ybi).any (·.1) = false := by rfl) :
  L2N.PMk X Yc2 (tMkO C sp [] ta) := by
 intro pins s σ H Q I h
 obtain ⟨nm, q, N, bs, bm, sn, sub, ab, col, dd, k0, k1, k2, k3, k5, hC, hbm⟩ := T.cls
 refine wpAny_Call_Name_kw (ld_glob I hg hm ?_ hdb)
 refine PySem.W.callWith_K (h₀ := X.base) I.ok.mod.kin T.kC (thn Yh1 fun us s1 ⟨vs, H1, I1, r1, hz, q1⟩ => ⟨I1.kIn, ?_⟩) he hpl
 show wpAny _ _ (call (.ref C) us) _ _ _
 obtain ⟨hp, g, dr, tk, os⟩ := s1
 have hsz : hp.objs.size ≤ hp.objs.size + 1 := Nat.le_succ _
 have hn : H1 Yb7 = none := I1.hok.fresh hsz
 have hq := q1 Yb7 hn
 rw [List.append_nil] at hq
 have kk : ∀ b o, hp.get? b = some o → ((hp.push (PySem.W.kdv_tup us)).push Yd4).get? b = some o := fun b o e => Heap.get?_push_of_some _ (Heap.get?_push_of_some _ e)
 have hget : ((hp.push (PySem.W.kdv_tup us)).push Yd4).get? Yb7 = some Yd4 := by heap_get
 have I2 : Inv X pins σ (upd H1 Yb7 (exo Yb7 C none)) ⟨(hp.push (PySem.W.kdv_tup us)).push Yd4, g, dr, tk, os⟩ :=
  I1.laid (t' := tk) (a := hp.objs.size + 1) (o := exo Yb7 C none) (h' := (hp.push (PySem.W.kdv_tup us)).push Yd4) kk hsz (exo_ok hget)
 have r2 : Vals (V.ref Yb7 :: vs) (Value.ref Yb7 :: us) := .cons rfl r1
 have hl : (Value.ref Yb7 :: us ++ []).length = ps.length := by
  have e := r2.length
  rw [F1.len _ _ _ _ hq] at e
  rw [List.append_nil]
  exact e.symm
 have hus : us.length ≤ sizeLine := by
  rw [← Paired.length r1, sizeLine_eq]
  omega
 have b2 := hb _ (Value.ref Yb7 :: us) I2.kIn hl
 rw [List.append_nil] at b2
 refine wpAny_call (PySem.HandSPX.call_own F.excBase_ValueError (fun Y => PySem.HandSPX.refsVE_contains Y bm hbm) (I1.kIn _ _ hC) (PySem.W.looks_findIn I1.kIn iC) (fun self => PySem.W.bind_fn I1.kIn self tI) hus
  (codeAny_mono (F1.run _ X.stack _ _ ⟨Value.ref Yb7 :: us, []⟩ (Value.ref Yb7 :: us) _ _ Yhj (hr.make C us []) (I2.env0.make C us []) b2 r2 hq) fun r s' hq' => ?_))
 cases r with
 | error er => exact hx pins σ _ _ er s' I2 hq'
 | ok fl =>
  cases fl with
  | ret u =>
   obtain ⟨v, H2, os2, bare2, un2, hok2, rv, ev, d, fs, ea, ed, hd1, q2⟩ := hq'
   subst ev
   obtain ⟨h2, g2, d2, t2, os'⟩ := s'
   obtain ⟨t0, G, J, kG, ge, hoe, na⟩ := mk_end0 (d2 := d2) (t2 := t2) I1 hsz kk un2 hok2 os2 bare2 ea ed hd1
   exact ⟨rv, hp.objs.size + 1, _, _, ⟨G, g2, d2, t2, os'⟩, _, .ref C, some d, rfl, J, kG, ge, hoe, ⟨rfl, rfl, fun vs hv => by cases hv; rfl⟩, rfl, rfl, na, rfl, bare2, raises_own T.exC T.tyC, q2⟩
  | next => exact False.elim hq'
  | brk => exact False.elim hq'
  | cont => exact False.elim hq'
/-- the mirror's exceptions -/
def ExF (K : PySem.W.Frag) (s : S4) (a : Ex) (b : Value × Option Addr) : Prop := ExR K s a b.1 b.2
abbrev tX (K : PySem.W.Frag) (ω : World) (Wx : WX) (F : M Ex) : L2.St → Hp → XK → Prop := fun σ H Q => tM K ω Wx (ExF K) F σ H (fun b H' => Q b.1 b.2 H')
def mExc (c fld : Str) (Fs : M (List W)) : M Ex := fun eta hp => (Fs eta hp).bind fun ws h => match ws with
 | [w] => .ok ⟨c, [(fld, w)]⟩ h
 | _ => .bad
def mRaise (F : M Ex) : M Fl := fun eta hp => (F eta hp).bind fun e h => .er e eta h
section
variable {X : Cx} {Wx : WX} {C : Addr} {c fld : Str} {Fs : M (List W)} {F : M Ex} {e : Expr} {pos : Pos}
theorem tmk_of (cn : CN X.K c C) : ∀ σ H Q, tX X.K X.w Wx (mExc c fld Fs) σ H Q → tMkO C (spI C fld) [] (tA X.K X.w Wx Fs) σ H Q := fun σ H Q h => by
 refine tM.bind1 (R := fun (vs : List V) (H1 : Hp) => vs.length ≤ 1000 ∧ ∀ a, H1 a = none → spI C fld (.ref a :: (vs ++ [])) (upd H1 a (exo a C none)) (fun v H2 => v = .non ∧ ∃ (d : Addr) (fs : List Ygz), H2 a = some (exo a C (some d)) ∧ H2 d = some (exd d fs) ∧ H1 d = none ∧ Q (.ref C) (some d) (upd (del H2 a) d (.xd fs))) Yhj)
  (C := Ex) (k := fun (ws : List W) (_ : IS) (h : IH) => match ws with | [w] => (Res.ok (⟨c, [(fld, w)]⟩ : Ex) h : Res Ex) | _ => .bad) h fun s eta ws vs R1 S1 f1 g => ?_
 split at g
 ·rename_i w
  obtain ⟨v, r, e1, f2, e2⟩ := f1
  subst e1
  cases (show r = [] from e2)
  refine ⟨by simp, fun a na => ⟨a, v, rfl, upd_same, fun dx hdx hne => ⟨rfl, dx, [(fld, v)], upd_same, ?_, ?_, ?_⟩⟩⟩
  ·rw [upd_ne hne, upd_same]
  ·rw [upd_ne hne] at hdx
   exact hdx
  ·rw [upd_ne hne] at hdx
   have eH : upd (del (upd (upd (upd s.H a (exo a C none)) dx (exd dx [(fld, v)])) a (exo a C (some dx))) a) dx (.xd [(fld, v)]) = upd s.H dx (.xd [(fld, v)]) := by
    funext b
    by_cases h1 : b = dx
    ·rw [h1, upd_same, upd_same]
    ·rw [upd_ne h1, upd_ne h1]
     by_cases h2 : b = a
     ·rw [h2, del_same, na]
     ·rw [del_ne h2, upd_ne h2, upd_ne h1, upd_ne h2]
   rw [eH]
   have A := (Aft.refl s).setD (D := dx) (o' := .xd [(fld, v)]) hdx
   have R' : Rel X.K X.w (s.setD dx (.xd [(fld, v)])) := zfh R1 (R1.fresh hdx).1 (R1.fresh hdx).2
   exact g (.ref C, some dx) (s.setD dx (.xd [(fld, v)])) rfl A R' ⟨C, rfl, cn, .inr ⟨dx, _, rfl, upd_same, v, [], rfl, f2.aft A R1, rfl⟩⟩
 ·exact g.elim
/-- raise C(e) -/
theorem st_raise (hc : X.calm = true) (tk : L2N.Takes X Wx) (he : L2N.PMk X e (tX X.K X.w Wx F)) : ISt X Wx (.Raise (some e) none pos) (mRaise F) := PS.imp (L2N.ps_raise hc tk he) fun D σ H h => by
 obtain ⟨s, eta, e1, R1, S1, g⟩ := h
 refine ⟨s, eta, e1, R1, S1, Go.bind g fun a b s' A R f _ g' => ?_⟩
 exact g' s' σ b.1 b.2 rfl (Aft.refl s') R (S1.aft A R1) f
end
end Mir
namespace Mir
open PySem PySem.Spec L2
open PyProof.Rows hiding St
open HotX (HotAt)
/-- the cause is stored -/
def zb9 (v : Value) (h : Heap) (a : Addr) : Heap := (h.update a (Obj.mapFields (·.setIfInBounds 3 v))).update a (Obj.mapFields (·.setIfInBounds 4 (.bool true)))
theorem causeFrom_at {v : Value} {h : Heap} {a : Addr} {oe : Obj} {vs : Array Value} (ha : h.get? a = some oe) (hd : oe.data = .fields vs) :
  (zb9 v h a).get? a = some ((oe.mapFields (·.setIfInBounds 3 v)).mapFields (·.setIfInBounds 4 (.bool true))) ∧ ((oe.mapFields (·.setIfInBounds 3 v)).mapFields (·.setIfInBounds 4 (.bool true))).data = .fields ((vs.setIfInBounds 3 v).setIfInBounds 4 (.bool true)) := by
 have hd3 := Obj.data_mapFields hd (·.setIfInBounds 3 v)
 have ha3 := Heap.get?_update_self (Obj.mapFields (·.setIfInBounds 3 v)) ha (Obj.isFreed_of_fields hd3)
 have hd4 := Obj.data_mapFields hd3 (·.setIfInBounds 4 (.bool true))
 exact ⟨Heap.get?_update_self (Obj.mapFields (·.setIfInBounds 4 (.bool true))) ha3 (Obj.isFreed_of_fields hd4), hd4⟩
theorem causeFrom_other {v : Value} {h : Heap} {a b : Addr} (hne : a ≠ b) : (zb9 v h a).get? b = h.get? b := by
 unfold zb9
 rw [Heap.get?_update_other _ _ hne, Heap.get?_update_other _ _ hne]
theorem raise_made_hotF {prog : Program} {w : World} {A : Around} {E : Value → Shared → Prop} {env : Env} {s : Shared} {x c : Sem Value} {Q : Flow → Shared → Prop} {x1 : Addr}
  (h : wpAny Yal A x (fun v s₁ => ∃ a oe vs cls cls1, v = .ref a ∧ s₁.heap.get? a = some oe ∧ oe.cls = cls ∧ oe.data = .fields vs ∧ vs[1]? = some .none ∧ 4 < vs.size ∧ x1 ≠ a ∧ HotAt A x1 s₁.heap ∧
   (∀ Q' : Value → Shared → Prop, Q' Yht s₁ → wpAny Yal A c Q' E s₁) ∧ (∃ o1, s₁.heap.get? x1 = some o1 ∧ o1.cls = cls1) ∧ PySem.W.Looks Yal s₁.heap (isSubtype cls1 Ya3) true ∧
   PySem.W.Looks Yal s₁.heap (isSubtype cls Ya3) true ∧ PySem.W.Looks Yal (zb9 Yht s₁.heap a) (typeOf cls) Yb8 ∧
   E (.ref a) { s₁ with heap := (zb9 Yht s₁.heap a).update a (Obj.mapFields (·.setIfInBounds 2 Yht)) }) E s) :
  wpAny Yal A (raiseStmt env (some x) (some c)) Q E s := by
 unfold raiseStmt
 dsimp only
 refine wpAny_bind (wpAny_mono h (fun v s₁ h₁ => ?_) fun _ _ x => x)
 obtain ⟨a, oe, vs, cls, cls1, rfl, ha, hcls, hd, h1, hi, hne, hot, hcs, ⟨o1, ho1, hc1⟩, L1c, L1, L3, hE⟩ := h₁
 have LT : PySem.W.Looks Yal s₁.heap (typeOf (.ref a)) cls := fun A Q E s k q => wpAny_typeOf_ref (k _ _ ha) (by rw [hcls]; exact q)
 have LT1 : PySem.W.Looks Yal s₁.heap (typeOf Yht) cls1 := fun A Q E s k q => wpAny_typeOf_ref (k _ _ ho1) (by rw [hc1]; exact q)
 have LI : PySem.W.Looks Yal s₁.heap (isInstance (.ref a) Ya3) true := LT.andThen L1
 have LI1 : PySem.W.Looks Yal s₁.heap (isInstance Yht Ya3) true := LT1.andThen L1c
 have hnt : ∀ {Q' : Bool → Shared → Prop}, Q' false s₁ → wpAny Yal A (isType (.ref a)) Q' E s₁ := by
  intro Q' hq
  simp only [isType, loadHead]
  refine wpAny_bind (wpAny_loadPart ha ?_)
  rw [hd]; exact wpAny_pure hq
 have hnt1 : ∀ {Q' : Bool → Shared → Prop}, Q' false s₁ → wpAny Yal A (isType Yht) Q' E s₁ := by
  intro Q' hq
  obtain ⟨_, o, vs', q2, q3, q4⟩ := hot
  simp only [isType, loadHead]
  refine wpAny_bind (wpAny_loadPart q2 ?_)
  rw [q3]; exact wpAny_pure hq
 have hd3 := Obj.data_mapFields hd (·.setIfInBounds 3 Yht)
 have ha3 := Heap.get?_update_self (Obj.mapFields (·.setIfInBounds 3 Yht)) ha (Obj.isFreed_of_fields hd3)
 obtain ⟨ha4, hd4⟩ := causeFrom_at (v := .ref x1) ha hd
 have s3 : 3 < vs.size := by omega
 have s4 : 4 < (vs.setIfInBounds 3 (Value.ref x1)).size := by rw [HotX.set_size]; exact hi
 have s2 : 2 < ((vs.setIfInBounds 3 (Value.ref x1)).setIfInBounds 4 (Value.bool true)).size := by rw [HotX.set_size, HotX.set_size]; omega
 have h14 : ((vs.setIfInBounds 3 (Value.ref x1)).setIfInBounds 4 (Value.bool true))[1]? = some Value.none := HotX.set_other Yct (HotX.set_other Yct h1)
 have hcls4 : ((oe.mapFields (·.setIfInBounds 3 Yht)).mapFields (·.setIfInBounds 4 (.bool true))).cls = cls := by rw [Obj.cls_mapFields, Obj.cls_mapFields]; exact hcls
 have LT4 : PySem.W.Looks Yal (zb9 Yht s₁.heap a) (typeOf (.ref a)) cls := fun A Q E s k q => wpAny_typeOf_ref (k _ _ ha4) (by rw [hcls4]; exact q)
 have hnt4 : ∀ {Q' : Bool → Shared → Prop}, Q' false { s₁ with heap := zb9 Yht s₁.heap a } → wpAny Yal A (isType (.ref a)) Q' E { s₁ with heap := zb9 Yht s₁.heap a } := by
  intro Q' hq
  simp only [isType, loadHead]
  refine wpAny_bind (wpAny_loadPart ha4 ?_)
  rw [hd4]; exact wpAny_pure hq
 have hot4 : HotAt A x1 (zb9 Yht s₁.heap a) := by
  obtain ⟨q1, o, vs', q2, q3, q4⟩ := hot
  exact ⟨q1, o, vs', by rw [causeFrom_other (Ne.symm hne)]; exact q2, q3, q4⟩
 have rest : wpAny Yal A (do
   let b ← isType (.ref a)
   if b = true then do
    let e ← holding [.ref a] (raisedFor (.ref a) (.ref a))
    setFlight e none
    raiseNew e
   else do
    let e ← raisedInstance (.ref a)
    setFlight e none
    raiseNew e : Sem Flow) Q E { s₁ with heap := zb9 Yht s₁.heap a } := by
  refine wpAny_bind (hnt4 ?_)
  simp only [Bool.false_eq_true, if_false]
  unfold raisedInstance
  refine wpAny_bind (wpAny_bind (LT4.here (wpAny_bind (L3.here ?_))))
  rw [if_pos (beq_self_eq_true _)]
  refine wpAny_pure ?_
  unfold setFlight
  refine wpAny_bind (wpAny_bind (wpAny_field ha4 hd4 h14 ?_))
  rw [if_neg Yct]
  refine wpAny_pure ?_
  exact HotX.raiseNew_hot hot4 hne ha4 hd4 s2 hE
 refine wpAny_bind (wpAny_holding (hcs _ (wpAny_bind (wpAny_pure ?_))))
 dsimp only
 refine wpAny_bind (wpAny_holding ?_)
 unfold excFromValue isExcClass
 refine wpAny_bind (wpAny_bind (hnt ?_))
 simp only [Bool.false_eq_true, if_false]
 refine wpAny_pure ?_
 simp only [Bool.false_eq_true, if_false]
 refine wpAny_bind (LI.here ?_)
 simp only [if_true]
 refine wpAny_pure ?_
 rw [if_neg (show ¬ ((Value.ref x1 == Value.none) = true) from by simp)]
 refine wpAny_bind (wpAny_holding (wpAny_bind (wpAny_bind (hnt1 ?_))))
 simp only [Bool.false_eq_true, if_false]
 refine wpAny_pure ?_
 simp only [Bool.false_eq_true, if_false]
 refine wpAny_bind (LI1.here ?_)
 simp only [if_true]
 refine wpAny_pure ?_
 refine wpAny_bind (wpAny_setField ha hd s3 (wpAny_bind (wpAny_setField ha3 hd3 s4 ?_)))
 exact rest
/-- raise X(..) from n, in the except suite of n -/
theorem ps_raiseHF {X : Cx} {W : WX} {e : Expr} {t : L2.St → Hp → XK → Prop} {n : Str} {i : Nat} {cls : Value} {p : Addr × Obj} {cpos pos : Pos} (hot : L2H.Hot1 X.A p) (hp : p ∈ X.pn) (hc1 : p.2.cls = cls) (tk : L2.Takes X W) (he : L2H.PMk5 X e t)
  (hN : X.N[i]? = some n) (hln : X.env.kindOf n = some .local) (hdb : (n == ("__debug__" : Str)) = false := by decide) :
  PS X (.Raise (some e) (some (.Name n cpos)) pos) (fun _ σ H => PySem.W.subIn X.K cls Ya3 = some true ∧ σ[i]? = some (some (.ref p.1)) ∧ t σ H fun cls d H' => W cls d σ H') := by
 refine ⟨fun pins s σ H D I h => ?_⟩
 obtain ⟨hsub, hsl, h⟩ := h
 obtain ⟨hh, v1, e1, c1⟩ := hot
 show wpAny _ _ (do standAt pos; raiseStmt X.env (some (do let v ← eval e X.env; standAt pos; pure v)) (some (do let v ← eval (.Name n cpos) X.env; standAt pos; pure v))) _ _ _
 refine wpAny_bind (wpAny_standAt (raise_made_hotF (x1 := p.1) (wpAny_bind (wpAny_mono (he pins s σ H _ I h) (fun u s1 hu => wpAny_bind (wpAny_standAt (wpAny_pure ?_))) fun _ _ x => x))))
 obtain ⟨⟨a, oe, vs, sI, H', cls', d, rfl, J, k, hne, ha, hz, hd, h1, na, os, ag, r, q⟩, h5⟩ := hu
 have hi : 4 < vs.size := h5 a oe vs rfl ha hd
 have k4 : ∀ b u, sI.heap.get? b = some u → (zb9 (.ref p.1) s1.heap a).get? b = some u := fun b u z => by
  have nab : a ≠ b := fun y => by
   rw [← y, hne] at z
   cases z
  rw [causeFrom_other nab]
  exact k b u z
 obtain ⟨r1, _⟩ := r Ym s1.heap (J.kIn.keeps k)
 obtain ⟨_, r2⟩ := r Ym (zb9 (.ref p.1) s1.heap a) (J.kIn.keeps k4)
 have P1 := (J.pin p (List.mem_append_left _ hp)).1
 have nap : p.1 ≠ a := fun z => by
  rw [z, hne] at P1
  cases P1
 obtain ⟨ha4, hd4⟩ := causeFrom_at (v := .ref p.1) ha hd
 have h12 : (((vs.setIfInBounds 3 (Value.ref p.1)).setIfInBounds 4 (Value.bool true)).setIfInBounds 2 (Value.ref p.1))[1]? = some Value.none := HotX.set_other Yct (HotX.set_other Yct (HotX.set_other Yct h1))
 refine ⟨a, oe, vs, cls', cls, rfl, ha, hz.1, hd, h1, hi, nap, ⟨hh, p.2, v1, k _ _ P1, e1, c1⟩, ?_, ⟨p.2, k _ _ P1, hc1⟩, PySem.W.looks_subIn (J.kIn.keeps k) hsub, r1, r2, tk _ _ (XE.new J (fun b u z => ?_) hne (Heap.get?_update_self _ ha4 (Obj.isFreed_of_fields (Obj.data_mapFields hd4 _)))
  ⟨by rw [Obj.cls_mapFields, Obj.cls_mapFields, Obj.cls_mapFields]; exact hz.1, by rw [HandSPX.dict_mapFields, HandSPX.dict_mapFields, HandSPX.dict_mapFields]; exact hz.2.1⟩ (Obj.data_mapFields hd4 _) h12 na os ag q)⟩
 ·intro Q' q2
  obtain ⟨m, hn, hl⟩ := J.loc
  obtain ⟨u, r, l⟩ := hl i n _ hN hsl (.inl hln)
  obtain rfl : u = Value.ref p.1 := r
  rcases l with ⟨_, hm⟩ | ⟨hk, _⟩
  ·exact wpAny_bind (wpAny_Name (wpAny_loadName_local J.ok.kind hln (hn.at fun o z => k _ _ z) hm (wpAny_bind (wpAny_standAt (wpAny_pure q2)))) hdb)
  ·rcases hk with hk | hk
   ·exact absurd (hln.symm.trans hk) Yct
   ·exact absurd (hln.symm.trans hk) Yct
 ·have nab : a ≠ b := fun y => by
   rw [← y, hne] at z
   cases z
  show ((zb9 (.ref p.1) s1.heap a).update a (Obj.mapFields (·.setIfInBounds 2 (.ref p.1)))).get? b = some u
  rw [Heap.get?_update_other _ _ nab]
  exact k4 b u z
section
variable {X : Cx} {pins : List Ya9} {σ : L2.St} {H : Hp} {s : Shared}
/-- the frame's names laid anew -/
theorem inv_gone {i : Nat} {n : Str} {h' : Heap} {t' : Nat} {m : Str → Option Value} {v : Option Value} (I : Inv X pins σ H s) (hN : X.N.Nodup) (hi : X.N[i]? = some n) (hn : s.heap.Ns X.env.locals m) (hn' : h'.Ns X.env.locals (fun x => if x = n then v else m x)) (hs : Heap.SameBut X.env.locals s.heap h') :
  Inv X pins (σ.set i none) H { s with heap := h', toks := t' } := by
 obtain ⟨m1, hn1, hlk⟩ := id I.loc
 have em : ∀ y, m1 y = m y := fun y => by rw [Heap.Ns.eq_nsMap hn1, Heap.Ns.eq_nsMap hn]
 obtain ⟨oL, _, _, hoL, _⟩ := id hn'
 have neL : ∀ b o, X.s_0.heap.get? b = some o → b ≠ X.env.locals := fun b o e => Nat.ne_of_lt (Nat.lt_of_lt_of_le (Heap.lt_size e) I.ok.above)
 refine ⟨I.ok, I.os, I.bare, ⟨fun b o e n hb hx => ?_, fun b o e n hb hx => ?_, I.base.free, fun b o e hx => ?_, I.base.tups, I.base.frzs, I.base.tbls⟩, ⟨_, hn', fun j y v' e1 e2 e3 => ?_⟩, fun y c e => ?_, I.free, I.freeC, fun p hp => ?_, fun b ob e => ?_, by simpa using I.len⟩
 ·exact (hs.2 b (neL b o e)).trans (I.base.keep b o e n hb hx)
 ·obtain ⟨sl, e1⟩ := I.base.slot b o e n hb hx
  exact ⟨sl, (hs.2 b (neL b o e)).trans e1⟩
 ·obtain ⟨o', e1⟩ := I.base.there b o e hx
  exact ⟨o', (hs.2 b (neL b o e)).trans e1⟩
 ·by_cases hj : j = i
  ·subst hj
   by_cases hlt : j < σ.length
   ·rw [List.getElem?_set_self hlt] at e2; cases e2
   ·rw [List.getElem?_eq_none (by simpa using hlt)] at e2; cases e2
  ·rw [List.getElem?_set_ne (Ne.symm hj)] at e2
   obtain ⟨u', r', q⟩ := hlk j y v' e1 e2 e3
   refine ⟨u', r', ?_⟩
   rcases q with ⟨k, e⟩ | ⟨k, c, e, z⟩
   ·have ny : y ≠ n := fun e => hj (nodup_ix hN e1 (e ▸ hi))
    exact .inl ⟨k, (if_neg ny).trans ((em y).symm.trans e)⟩
   ·exact .inr ⟨k, c, e, z.sameBut hs (I.cne y c e)⟩
 ·obtain ⟨w', z⟩ := I.cell y c e
  exact ⟨w', z.sameBut hs (I.cne y c e)⟩
 ·obtain ⟨e, n, ne, nf, d⟩ := I.pin p hp
  exact ⟨(hs.2 p.1 ne).trans e, n, ne, nf, d⟩
 ·refine (I.hok b ob e).stay (fun c w' hc q => (hs.2 c ?_).trans q) (fun _ q => q) fun _ _ q => q
  intro z
  subst z
  rcases hc with hc | hc
  ·rw [← hc, I.free] at e; cases e
  ·rw [I.free] at hc; cases hc
theorem funs_upd {h h' base : Heap} {L : Addr} {oL : Obj} (hL : h'.get? L = some oL) (nf : ∀ vs, oL.data ≠ .fields vs) (k : ∀ b o, b ≠ L → h.get? b = some o → h'.get? b = some o) : ∀ {l : List Env}, h.FunFrames base l → h'.FunFrames base l
 | [], _ => trivial
 | env :: rest, ⟨hk, ⟨L', o, hf, hn, ho, hd⟩, hr⟩ => by
  refine ⟨hk, ?_, funs_upd hL nf k hr⟩
  by_cases e : L' = L
  ·exact ⟨L', oL, hf, hn, by rw [e]; exact hL, nf⟩
  ·exact ⟨L', o, hf, hn, k _ _ e ho, hd⟩
/-- the exception that a suite with a name lets out: noted, the name goes, it flies on -/
theorem raised_as {X' : Cx} {n : Str} {i : Nat} {pos : Pos} {W : WX} {N : Value → Shared → Prop} {A : Around} {u : Value} {s3 : Shared} (ok : X.Ok) (hs : X.stack = X.env :: X.outer) (hf : X.env.frame = some X.env.locals) (hfr : A.frames = some Yec) (hN : X.N.Nodup) (hi : X.N[i]? = some n) (hln : X.env.kindOf n = some .local)
  (tk : L2.Takes X W) (hNN : ∀ u s, X.xe u s → N u s) (un : ∀ pn' σ H s, Inv X' pn' σ H s → Inv X pins σ H s) (es : X'.stack = X.stack) (ee : X'.env = X.env) (xx : L2.XE X' (fun cls d σ H => W cls d (σ.set i none) H) u s3) :
  AsSuiteRaised Ym A X.env n pos N u s3 := by
 obtain ⟨a2, B, sI, pins', σ', H', cls2, d2, rfl, J', nb, up, sky, na, os, ag, w⟩ := xx
 have J := un _ _ _ _ J'
 rw [es] at nb sky
 rw [ee] at sky
 have hcls : (X.env.scope.kind == .class || (X.env.scope.kind == .module && X.env.locals != X.env.globals)) = false := by rw [J.ok.kind]; rfl
 have sky' : Sky B Yec a2 (Zc cls2 d2) X.env.locals s3.heap := by rw [← hs]; exact sky
 have fin : ∀ h1, HandSPX.HeldZ B Yec a2 (Zc cls2 d2) X.env.locals h1 → s3.heap.UpToSlots h1 →
   wpAny Ym A (do bindName X.env n .none; unbindBehindTheSuite X.env n pos) (fun _ s₂ => wpAny Ym A (passOn "try.except-as" (.ref a2) X.env : Sem Flow) Yiv N s₂)
    (fun y s₂ => wpAny Ym A (setFlight (.ref a2) none) (fun _ s₃ => N y s₃) N s₂) { s3 with heap := h1 } := by
  intro h1 hh up1
  obtain ⟨m, hn, hlk⟩ := id J.loc
  have hn1 : h1.Ns X.env.locals m := by
   obtain ⟨oL, esL, epL, hL, dL, rL⟩ := hn
   obtain ⟨sl, q⟩ := (up.trans up1) _ _ hL (fun vs z => by rw [dL] at z; cases z)
   exact ⟨_, esL, epL, q, dL, rL⟩
  refine wpAny_nameGoes_keeps hln hn1 hcls fun h2 v hn2 hs2 => ?_
  -- the state without the exception, the name gone
  obtain ⟨oL2, esL2, epL2, hL2, dL2, rL2⟩ := id hn2
  obtain ⟨oL, esL, epL, hL, dL, rL⟩ := id hn
  obtain ⟨k1, k2, k3, oe, vs, T, oT, ts, he, hz, hd, hv1, hnT, hTe, hT, hdT, h3⟩ := hh
  have Lf : X.env.locals ∈ frs X.stack := by rw [hs]; exact List.mem_filterMap.mpr ⟨X.env, List.mem_cons_self, hf⟩
  have BL : B.get? X.env.locals = none := (k3.mem (by rw [← hs]; exact Lf)).1
  have ne1 : a2 ≠ X.env.locals := fun z => by
   obtain ⟨_, o, ho, hnf⟩ := k3.mem (b := X.env.locals) (by rw [← hs]; exact Lf)
   rw [← z, he] at ho
   cases ho
   exact hnf _ hd
  have neT : T ≠ X.env.locals := fun z => by
   obtain ⟨_, o, ho, hnf⟩ := k3.mem (b := X.env.locals) (by rw [← hs]; exact Lf)
   rw [← z, hT] at ho
   cases ho
   exact hnf _ hdT
  have hh2 : HandSPX.HeldZ B Yec a2 (Zc cls2 d2) X.env.locals h2 := by
   refine ⟨fun b o z => (hs2.2 b fun y => by rw [y, BL] at z; cases z).trans (k1 b o z), k2, ?_, oe, vs, T, oT, ts, (hs2.2 _ ne1).trans he, hz, hd, hv1, hnT, hTe, (hs2.2 _ neT).trans hT, hdT, h3⟩
   exact funs_upd hL2 (fun vs z => by rw [dL2] at z; cases z) (fun b o hb z => (hs2.2 b hb).trans z) k3
  have sb : Heap.SameBut X.env.locals sI.heap (sI.heap.update X.env.locals fun _ => oL2) := ⟨Heap.size_after_update .., fun b hb => Heap.get?_update_other _ _ (Ne.symm hb)⟩
  have hg : (sI.heap.update X.env.locals fun _ => oL2).get? X.env.locals = some oL2 := Heap.get?_update_self _ hL (Obj.isFreed_of_dict dL2)
  have Jg := inv_gone (t' := sI.toks) (v := v) (h' := sI.heap.update X.env.locals fun _ => oL2) J hN hi hn ⟨oL2, esL2, epL2, hg, dL2, rL2⟩ sb
  unfold PySem.passOn
  refine wpAny_bind (wpAny_field ((hs2.2 _ ne1).trans he) hd hv1 ?_)
  rw [if_neg (show ¬ ((Value.ref T == Value.none) = true) from by simp)]
  have fin2 : wpAny Ym A (setFlight (.ref a2) X.env.frame) (fun _ s4 => wpAny Ym A (throw (.ref a2) : Sem Flow) Yiv N s4) N { s3 with heap := h2, toks := s3.toks + 1 } := by
   rw [hf]
   refine HandSPX.setFlight_onZ hh2 fun h4 hh4 up4 => wpAny_throw (hNN _ _ (tk _ _ ?_))
   refine ⟨a2, B, { sI with heap := sI.heap.update X.env.locals fun _ => oL2 }, pins, σ'.set i none, H', cls2, d2, rfl, Jg, fun b o z nb2 => ?_, fun b o z nf => ?_, .inr (.inr (by rw [hs]; exact hh4)), na, os, ag, w⟩
   ·have bL : b ≠ X.env.locals := fun y => nb2 (by rw [y]; exact Lf)
    exact nb b o ((sb.2 b bL).symm.trans z) nb2
   ·by_cases bL : b = X.env.locals
    ·subst bL
     have z' : (sI.heap.update X.env.locals fun _ => oL2).get? X.env.locals = some o := z
     rw [hg] at z'
     cases z'
     exact up4 _ _ hL2 nf
    ·obtain ⟨sl, q⟩ := (up.trans up1) b o ((sb.2 b bL).symm.trans z) nf
     obtain ⟨sl2, q2⟩ := up4 b _ ((hs2.2 b bL).trans q) nf
     exact ⟨sl2, q2⟩
  first
   | exact wpAny_bind (wpAny_pure (wpAny_bind fin2))
   | exact wpAny_bind fin2
 rcases sky' with ⟨hB, hna, hl, oe, vs, he, hz, hd, h1⟩ | fl | hh
 ·exact HandSPX.look_newZ Zc.steady hfr hl hf he hB hna hd h1 hz fin
 ·exact HandSPX.looks_onZ Zc.steady hfr hf fl fin
 ·exact HandSPX.againZ hf hh.2.2.2 (fin s3.heap hh (Heap.UpToSlots.refl _))
end
/-- the context of an except suite that may raise, with any wish -/
abbrev suiteW (X : Cx) (a : Addr) (pn : List Ya9) (xe : Value → Shared → Prop) : Cx := { X with A := X.A.mark Yed, calm := false, pn := pn, xe := xe }
section
variable {X : Cx} {x n : Str} {c : Value} {i : Nat} {body suite : List Stmt} {b₀ : Stmt} {np pos pos' : Pos} {tb : WX → TS} {ts : Addr → Value → Option Addr → TS} {Wout : WX}
theorem unsuiteW {pins : List Ya9} {σ : L2.St} {H : Hp} {s : Shared} {a : Addr} {q : Addr × Obj} {pn' : List Ya9} {xe : Value → Shared → Prop} (I : Inv (suiteW X a (q :: (X.pn ++ pins)) xe) pn' σ H s) (ok : X.Ok) : Inv X pins σ H s :=
 Inv.unsuite (X := X) (a := a) (q := q) (pn' := pn') (show Inv (X.suite a (q :: (X.pn ++ pins))) pn' σ H s from I.wish fun _ _ => False) ok
theorem ps_try_asX (hs : X.stack = X.env :: X.outer) (hf : X.env.frame = some X.env.locals) (hN : X.N.Nodup) (hi : X.N[i]? = some n) (hln : X.env.kindOf n = some .local) (hc : Names X x c) (hpa : ∀ hd : Option Value, PassesOwnAt Ym (X.A.mark hd) X.A X.env X.xe) (tk : L2.Takes X Wout)
  (hb : ∀ (W : WX) (pn : List (Addr × Obj)) (xe : Value → Shared → Prop), L2N.Takes (X.tr pn xe) W → PassesOwn Ym X.A X.env xe → PSs (X.tr pn xe) body (tb W))
  (hsu : ∀ (a : Addr) (oe : Obj) (cls : Value) (d : Option Addr) (pn : List (Addr × Obj)) (xe : Value → Shared → Prop), L2N.Zn cls d oe → (∃ vs, oe.data = .fields vs) → L2.Takes (suiteW X a Yhu xe) (fun cls d σ H => Wout cls d (σ.set i none) H) → PSs (suiteW X a Yhu xe) (b₀ :: suite) (ts a cls d)) :
  PS X (.Try body [.ExceptHandler (some (.Name x np)) (some n) (b₀ :: suite) pos'] [] [] pos) (fun D σ H => tb (wAs X.K c i ts Wout D) D σ H) := by
 refine ⟨fun pins s σ H D I h => ?_⟩
 have ok := I.ok
 have hfr : X.A.frames = some Yec := by rw [ok.frames, hs]
 have hloc : Loc X.env.scope n := .inl hln
 refine wpAny_Try_except ?_
 refine wpAny_mono ((hb (wAs X.K c i ts Wout D) (X.pn ++ pins) (fun e s₁ => wpAny Ym X.A (noteFrame e X.env) (fun _ s₂ => wpAny Ym X.A (setFlight e none) (fun _ s₃ =>
  wpAny Ym X.A (handleBy e X.env [.ExceptHandler (some (.Name x np)) (some n) (b₀ :: suite) pos']) (SP X pins D) X.xe s₃) X.xe s₂) X.xe s₁) (fun u s' xx => ?_) PassesOwn.looking).run [] s σ H D (I.toTry _) h) (fun f s1 hsp => ?_) (fun e s1 he => he)
 ·-- the catch
  obtain ⟨a, B, sI, pins', σ', H', cls, d, rfl, J', nb, up, sky, na, os, ag, b, hb1, hyes, hno⟩ := xx
  have J : Inv X pins σ' H' sI := J'.ofTry ok
  have sky' : Sky B Yec a (L2N.Zn cls d) X.env.locals s'.heap := by rw [← hs]; exact sky
  show wpAny Ym X.A (noteFrame (.ref a) X.env) _ _ _
  refine L2N.Sky.land L2N.Zn.steady hfr hf sky' fun h3 fl3 up3 => ?_
  have J3 : Inv X pins σ' H' { s' with heap := h3 } := J.landed nb fl3.1 (up.trans up3) os ag
  obtain ⟨oe3, vs3, he3, hz3, hd3⟩ := fl3.there
  have notFr : ∀ {h : Heap} {o : Obj} {vs : Array Value}, h.FunFrames B Yec → h.get? a = some o → o.data = .fields vs → a ∉ frs Yec := fun {h o vs} ff e dd hm => by
   obtain ⟨_, o', e', hnf⟩ := ff.mem hm
   rw [e] at e'; cases e'
   exact hnf _ dd
  have nfr := notFr fl3.2.2.1 he3 hd3
  have nL : a ≠ X.env.locals := fun z => nfr (List.mem_filterMap.mpr ⟨X.env, List.mem_cons_self, by rw [hf, z]⟩)
  have nF : a ∉ X.fs := fun hm => by
   obtain ⟨e, he, q⟩ := List.mem_filterMap.mp hm
   exact nfr (List.mem_filterMap.mpr ⟨e, List.mem_cons_of_mem _ he, q⟩)
  have S3 := J3.suite he3 hd3 na nL nF
  refine wpAny_handleBy_cons (codeAny_handlers_test ?_) (by intro q; cases q)
  have LT : PySem.W.Looks Ym h3 (typeOf (.ref a)) cls := fun A Q E s k q => wpAny_typeOf_ref (k _ _ he3) (by rw [hz3.1]; exact q)
  have LM := PySem.W.exm_one (M := model X.prog X.w) (J3.kIn) LT hb1
  have test : ∀ {Q : Value → Shared → Prop} {E : Value → Shared → Prop}, Q c { s' with heap := h3 } → wpAny Ym (X.A.mark Yed) (eval (.Name x np) X.env) Q E { s' with heap := h3 } := fun {Q E} q => by
   obtain ⟨hg, hdbg, hm | ⟨hm, hv, hnn⟩⟩ := hc
   ·exact ld_glob (X := X.suite a ((a, oe3) :: (X.pn ++ pins))) S3 hg hm q hdbg
   ·exact ld_blt (X := X.suite a ((a, oe3) :: (X.pn ++ pins))) S3 hg hm hv q hnn hdbg
  refine test (LM.here ?_)
  cases b with
  | true =>
   refine codeAny_handlers_suite_as ?_
   refine HandSPX.lands_againZ fl3 fun h4 fl4 up4 => ?_
   have J4 : Inv X pins σ' H' { s' with heap := h4 } := J.landed nb fl4.1 ((up.trans up3).trans up4) os ag
   obtain ⟨oe4, vs4, he4, hz4, hd4⟩ := fl4.there
   have S4 := J4.suite he4 hd4 na nL nF
   refine store_ok (X := X.suite a Yiw) (v := .ref a) S4 hN hi hloc rfl (fun s5 S5 => ?_) (.inr hln)
   have S5' : ∀ xe, Inv (suiteW X a Yiw xe) [] (σ'.set i Yed) H' s5 := fun xe => Inv.unwish (X := suiteW X a Yiw xe) (E := fun _ _ => False) S5
   refine wpAny_mono ((hsu a oe4 cls d (X.pn ++ pins) (AsSuiteRaised Ym (X.A.mark Yed) X.env n pos' _) hz4 ⟨_, hd4⟩ (fun u s6 xx => raised_as ok hs hf (by show (X.A.mark _).frames = _; exact hfr) hN hi hln tk (hpa Yed) (fun pn' σ H s I => unsuiteW I ok) rfl rfl xx)).run [] s5 _ H' _ (S5' _) (hyes rfl a na)) (fun f s6 hsp => ?_) (fun _ _ z => z)
   have end_ : ∀ {σ6 : L2.St} {H6 : Hp} {Q : Shared → Prop} {xe : Value → Shared → Prop}, Inv (suiteW X a Yiw xe) [] σ6 H6 s6 → (∀ s7, Inv X pins (σ6.set i none) H6 s7 → Q s7) →
     wpAny Ym X.A (do bindName X.env n .none; unbindBehindTheSuite X.env n pos') (fun _ s7 => Q s7) X.xe s6 := fun {σ6 H6 Q xe} S6 hq => gone_ok (unsuiteW S6 ok) hN hi hln hq
   cases f with
   | next =>
    obtain ⟨σ6, H6, S6, q6⟩ := hsp
    exact end_ S6 fun s7 J7 => ⟨_, _, J7, q6⟩
   | brk =>
    obtain ⟨σ6, H6, S6, q6⟩ := hsp
    exact end_ S6 fun s7 J7 => ⟨_, _, J7, q6⟩
   | cont =>
    obtain ⟨σ6, H6, S6, q6⟩ := hsp
    exact end_ S6 fun s7 J7 => ⟨_, _, J7, q6⟩
   | ret u =>
    obtain ⟨v6, σ6, H6, S6, r6, q6⟩ := hsp
    exact end_ S6 fun s7 J7 => ⟨_, _, _, J7, r6, q6⟩
  | false =>
   show wpAny _ X.A (handleBy (.ref a) X.env []) _ _ _
   refine wpAny_handleBy_nil ?_
   have fl3' : HandSPX.FlyingZ B Yec a (Zc cls d) h3 := L2H.flyingZ_imp (fun o z => z.zc) fl3
   obtain ⟨k1, k2, k3, oe, vs, T, oT, ts', he, hz, hd, h1, hr⟩ := id fl3'
   unfold PySem.passOn
   refine wpAny_bind (wpAny_field he hd h1 ?_)
   rw [if_neg (show ¬ ((Value.ref T == Value.none) = true) from by simp)]
   have fin : wpAny Ym X.A (setFlight (.ref a) X.env.frame) (fun _ s4 => wpAny Ym X.A (throw (.ref a) : Sem Flow) (SP X pins D) X.xe s4) X.xe { s' with heap := h3 } := by
    rw [hf]
    refine HandSPX.setFlight_upZ fl3' fun h4 hh4 up4 => wpAny_throw (tk _ _ ?_)
    exact ⟨a, B, sI, pins, σ', H', cls, d, rfl, J, nb, (up.trans up3).trans up4, .inr (.inr (by rw [hs]; exact hh4)), na, os, ag, hno rfl⟩
   first
    | exact wpAny_bind (wpAny_pure (wpAny_bind fin))
    | exact wpAny_bind fin
 ·cases f with
  | next =>
   obtain ⟨σ', H', J', q⟩ := hsp
   exact wpAny_execs_nil ⟨σ', H', J'.ofTry ok, q⟩
  | brk =>
   obtain ⟨σ', H', J', q⟩ := hsp
   exact ⟨σ', H', J'.ofTry ok, q⟩
  | cont =>
   obtain ⟨σ', H', J', q⟩ := hsp
   exact ⟨σ', H', J'.ofTry ok, q⟩
  | ret u =>
   obtain ⟨v, σ', H', J', r, q⟩ := hsp
   exact ⟨v, σ', H', J'.ofTry ok, r, q⟩
end
end Mir
namespace Mir
open PySem PySem.Spec L2
open PyProof.Rows hiding St
/-- which classes a clause names -/
def HitOk (K : PySem.W.Frag) (c : Value) (hit : Str → Option Bool) : Prop := ∀ (c' : Str) (C' : Addr) (b : Bool), hit c' = some b → CN K c' C' → PySem.W.exmOne K (.ref C') c = some b
def mTry (hit : Str → Option Bool) (B S : M Fl) : M Fl := fun eta hp => match B eta hp with
 | .er e eta' h => (match hit e.cls with
  | some true => noEr (S eta' h)
  | some false => .er e eta' h
  | none => .bad)
 | r => r
def zel (hit : Str → Option Bool) (i : Nat) (B : M Fl) (F : M Ex) : M Fl := fun eta hp => match B eta hp with
 | .er e eta' h => (match hit e.cls with
  | some true => if i < eta'.length then (match F (eta'.set i none) h with
   | .ok e2 h2 => .er e2 (eta'.set i none) h2
   | _ => .bad) else .bad
  | some false => .er e eta' h
  | none => .bad)
 | r => r
theorem Sl.unset {K : PySem.W.Frag} {s : S4} {eta : IS} {σ : L2.St} (h : Sl K s eta σ) (i : Nat) (x : Option V) : Sl K s (eta.set i none) (σ.set i x) := by
 refine ⟨by rw [List.length_set, List.length_set]; exact h.1, fun j w q => ?_⟩
 by_cases e : i = j
 ·subst e
  by_cases hl : i < eta.length
  ·rw [List.getElem?_set_self hl] at q; cases q
  ·rw [List.getElem?_eq_none Ygg] at q; cases q
 ·rw [List.getElem?_set_ne e] at q
  obtain ⟨v, h1, h2⟩ := h.2 j w q
  exact ⟨v, by rw [List.getElem?_set_ne e]; exact h1, h2⟩
section
variable {X : Cx} {Wx : WX} {x n : Str} {c : Value} {i : Nat} {body suite : List Stmt} {b₀ : Stmt} {np pos pos' cpos rpos : Pos} {hit : Str → Option Bool} {B S : M Fl} {F : M Ex} {e : Expr}
theorem st_try (hs : X.stack = X.env :: X.outer) (hf : X.env.frame = some X.env.locals) (hc : Names X x c) (tk : L2.Takes X Wx) (ht : HitOk X.K c hit)
  (hb : ∀ (W : WX) (pn : List (Addr × Obj)) (xe : Value → Shared → Prop), L2.Takes (X.tr pn xe) W → PassesOwn Ym X.A X.env xe → ISs (X.tr pn xe) W body B)
  (hsu : ∀ (a : Addr) (pn : List (Addr × Obj)), ISs (X.suite a pn) W0 (b₀ :: suite) S) :
  ISt X Wx (.Try body [.ExceptHandler (some (.Name x np)) none (b₀ :: suite) pos'] [] [] pos) (mTry hit B S) :=
 PS.imp (ps_try_only (tb := fun W => tS X.K X.w W B) (ts := fun _ _ _ => tS X.K X.w W0 S) hs hf hc tk hb fun a oe cls d pn _ _ => hsu a _) fun D σ H h => by
  obtain ⟨s, eta, e1, R1, S1, g⟩ := h
  refine ⟨s, eta, e1, R1, S1, ?_⟩
  unfold mTry at g
  cases hB : B eta s.hp with
  | ok fl hp => rw [hB] at g; exact g
  | bad => rw [hB] at g; exact g
  | er e eta' h =>
   rw [hB] at g
   intro s' σ' cls d h1 h2 h3 h4 h5
   obtain ⟨C, ec, cn, _⟩ := id h5
   dsimp only at g
   split at g
   ·rename_i hh
    refine ⟨true, by rw [ec]; exact ht _ _ _ hh cn, fun _ a na => ?_, fun z => by cases z⟩
    refine ⟨s', eta', rfl, h3, h4, ?_⟩
    rw [h1]
    exact Go.noEr (Go.aft g h2)
   ·rename_i hh
    exact ⟨false, by rw [ec]; exact ht _ _ _ hh cn, fun z => (by cases z), fun _ => g s' σ' cls d h1 h2 h3 h4 h5⟩
   ·exact g.elim
theorem st_tryFrom (hs : X.stack = X.env :: X.outer) (hf : X.env.frame = some X.env.locals) (hN : X.N.Nodup) (hi : X.N[i]? = some n) (hln : X.env.kindOf n = some .local) (hc : Names X x c) (hpa : ∀ hd : Option Value, PassesOwnAt Ym (X.A.mark hd) X.A X.env X.xe) (tk : L2.Takes X Wx)
  (ht : HitOk X.K c hit) (hsub : ∀ (c' : Str) (C' : Addr), hit c' = some true → CN X.K c' C' → PySem.W.subIn X.K (.ref C') Ya3 = some true)
  (hb : ∀ (W : WX) (pn : List (Addr × Obj)) (xe : Value → Shared → Prop), L2N.Takes (X.tr pn xe) W → PassesOwn Ym X.A X.env xe → ISs (X.tr pn xe) W body B)
  (hsu : ∀ (a : Addr) (oe : Obj) (pn : List (Addr × Obj)) (xe : Value → Shared → Prop), L2H.HotC (suiteW X a Yhu xe) → L2H.PMk5 (suiteW X a Yhu xe) e (tX X.K X.w W0 F)) (hdb : (n == ("__debug__" : Str)) = false := by decide) :
  ISt X Wx (.Try body [.ExceptHandler (some (.Name x np)) (some n) [.Raise (some e) (some (.Name n cpos)) rpos] pos'] [] [] pos) (zel hit i B F) :=
 PS.imp (ps_try_asX (tb := fun W => tS X.K X.w W B) (ts := fun a cls _ => fun _ σ H => PySem.W.subIn X.K cls Ya3 = some true ∧ σ[i]? = some Yed ∧ tX X.K X.w W0 F σ H fun cls d H' => Wx cls d (σ.set i none) H') hs hf hN hi hln hc hpa tk hb
  fun a oe cls d pn xe hz hfl tk2 => by
   obtain ⟨vs, hd⟩ := hfl
   have h1 : L2H.Hot1 (suiteW X a Yhu xe).A (a, oe) := ⟨rfl, vs, hd, hz.2.2 vs hd⟩
   exact pss_one (ps_raiseHF (p := (a, oe)) (cls := cls) h1 List.mem_cons_self hz.1 tk2 (hsu a oe pn xe ⟨(a, oe), h1, List.mem_cons_self⟩) hi hln hdb)) fun D σ H h => by
  obtain ⟨s, eta, e1, R1, S1, g⟩ := h
  refine ⟨s, eta, e1, R1, S1, ?_⟩
  unfold zel at g
  cases hB : B eta s.hp with
  | ok fl hp => rw [hB] at g; exact g
  | bad => rw [hB] at g; exact g
  | er e eta' h =>
   rw [hB] at g
   intro s' σ' cls d h1 h2 h3 h4 h5
   obtain ⟨C, ec, cn, _⟩ := id h5
   dsimp only at g
   split at g
   ·rename_i hh
    by_cases hlt : i < eta'.length
    case neg => rw [if_neg hlt] at g; exact g.elim
    rw [if_pos hlt] at g
    refine ⟨true, by rw [ec]; exact ht _ _ _ hh cn, fun _ a na => ⟨by rw [ec]; exact hsub _ _ hh cn, ?_, s', eta'.set i none, rfl, h3, h4.unset i _, ?_⟩, fun z => by cases z⟩
    ·rw [List.getElem?_set_self (by rw [← h4.1]; exact hlt)]
    ·rw [h1]
     cases hF : F (eta'.set i none) h with
     | er _ _ _ => rw [hF] at g; exact g.elim
     | bad => rw [hF] at g; exact g.elim
     | ok e2 h2' =>
      rw [hF] at g
      intro b s2 q1 q2 q3 q4
      exact g s2 _ b.1 b.2 q1 (h2.trans q2) q3 (by rw [List.set_set]; exact (h4.aft q2 h3).unset i none) q4
   ·rename_i hh
    exact ⟨false, by rw [ec]; exact ht _ _ _ hh cn, fun z => (by cases z), fun _ => g s' σ' cls d h1 h2 h3 h4 h5⟩
   ·exact g.elim
end
section
variable {X : Cx} {Wx : WX} {C fI : Addr} {c fld x : Str} {fd : FuncData} {ps : List Str} {e : Expr} {es : List Expr} {Fs : M (List W)} {p pos : Pos} {CX : CXT}
theorem xc_cold (T : OexC X.K C) (iC : PySem.W.findIn X.K (.ref C) "__init__" = some (some Yj0)) (tI : PySem.W.typeIn X.K Yj0 = some Yfh) (cn : CN X.K c C) (F1 : FnOk X.prog X.w X.K X.mg X.base Yea 1 fI fd ps (spI C fld)) (hr : Room 2 X.A) (hb : Binds X.K fd ps []) (hg : Gl X x) (hm : X.mg x = some (.ref C)) (ha : IA X Wx Yam Fs)
  (hdb : (x == ("__debug__" : Str)) = false := by decide) (he : starEach Yam X.env = (false, eval e X.env) :: starEach es X.env := by rfl) (hpl : (backTo pos Ybi).any (·.1) = false := by rfl) : L2N.PMk X Yc2 (tX X.K X.w Wx (mExc c fld Fs)) :=
 fun pins s σ H Q I h => pmk_oexN T iC tI F1 hr hb passL hg hm ha hdb he hpl pins s σ H Q I (tmk_of cn σ H Q h)
theorem xc_hot (T : OexC X.K C) (iC : PySem.W.findIn X.K (.ref C) "__init__" = some (some Yj0)) (tI : PySem.W.typeIn X.K Yj0 = some Yfh) (cn : CN X.K c C) (F1 : L2H.FnH X.prog X.w X.K X.mg X.base Yea 1 fI fd ps (spI C fld)) (hr : L2H.RoomH 2 X.A) (hc : L2H.HotC X) (hb : Binds X.K fd ps []) (hg : Gl X x) (hm : X.mg x = some (.ref C)) (ha : IA X Wx Yam Fs)
  (hdb : (x == ("__debug__" : Str)) = false := by decide) (he : starEach Yam X.env = (false, eval e X.env) :: starEach es X.env := by rfl) (hpl : (backTo pos Ybi).any (·.1) = false := by rfl) : L2H.PMk5 X Yc2 (tX X.K X.w Wx (mExc c fld Fs)) :=
 fun pins s σ H Q I h => L2H.pmk5_oexH T iC tI F1 hr hc hb passL hg hm ha hdb he hpl pins s σ H Q I (tmk_of cn σ H Q h)
end
end Mir
namespace Mir
open PySem PySem.Spec L2
open PyProof.Rows hiding St
/-- a class: a built-in type or an own class by name -/
abbrev CT := String ⊕ Str
def tyC (hp : IH) : W → Option CT
 | .t .non => some (.inl "NoneType") | .t (.bl _) => some (.inl "bool") | .t (.int _) => some (.inl "int") | .t (.str _) => some (.inl "str")
 | .t (.tup _) => some (.inl "tuple") | .t (.pr _) => some (.inl "tuple") | .t (.lst _) => some (.inl "list") | .t (.scr _) => some (.inl "list")
 | .t (.dic _ _) => some (.inl "dict") | .t (.ins c _ _) => some (.inr c)
 | .t (.ty _) => none | .t (.cls _) => none | .t (.dit _ _) => none | .t (.exc _ _ _) => none
 | .r i => match hp[i]? with
  | some (some (.lst _)) => some (.inl "list")
  | some (some (.dic _)) => some (.inl "dict")
  | some (some (.ins c _)) => some (.inr c)
  | _ => none
def clC : T → Option CT
 | .ty n => some (.inl n) | .cls c => some (.inr c) | _ => none
def clCs : List T → Option (List CT)
 | [] => some []
 | x :: r => match clC x, clCs r with
  | some a, some b => some (a :: b)
  | _, _ => none
/-- the value of a class -/
def CVal (K : PySem.W.Frag) : CT → Value → Prop
 | .inl n, v => v = .type n
 | .inr c, v => ∃ C, v = .ref C ∧ CN K c C
/-- what isinstance asks of an own class -/
structure InsC (K : PySem.W.Frag) (C : Addr) : Prop where
 cl : Cls K C
 ha : PySem.W.findIn K (.ref C) "__class__" = some (some Yav)
 hn : PySem.W.specialIn K Yav "__get__" = some Yhv
 htk : PySem.W.takesIn K Yav = some true
 hm : PySem.W.mroIn K C Ykb = some true
structure ze7 (K : PySem.W.Frag) (tab : CT → CT → Option Bool) : Prop where
 ok : ∀ t c b tv cv, tab t c = some b → CVal K t tv → CVal K c cv → PySem.W.kitOne K tv cv = some b
 ins : ∀ c d b C, tab (.inr c) d = some b → CN K c C → InsC K C
def anyC (tab : CT → CT → Option Bool) (t : CT) : List CT → Option Bool
 | [] => some false
 | c :: r => match tab t c with
  | some true => some true
  | some false => anyC tab t r
  | none => none
def oIsi (tab : CT → CT → Option Bool) : OpN := fun ws hp => match ws with
 | [x, .t (.tup cs)] => (match tyC hp x, clCs cs with
  | some t, some ds => (match ds with
   | [] => .bad
   | _ :: _ => (match anyC tab t ds with
    | some b => .ok Ye9 hp
    | none => .bad))
  | _, _ => .bad)
 | [x, .t c] => (match tyC hp x, clC c with
  | some t, some d => (match tab t d with
   | some b => .ok Ye9 hp
   | none => .bad)
  | _, _ => .bad)
 | _ => .bad
section
variable {K : PySem.W.Frag} {ω : World} {s : S4}
/-- the type of such a value; own classes by the table -/
theorem ty_at (R : Rel K ω s) {w : W} {v : V} {t : CT} (h : tyC s.hp w = some t) (r : Rw K s w v) (hI : ∀ c C, t = .inr c → CN K c C → InsC K C) : ∃ tv, CVal K t tv ∧ TyX K s.H v tv := by
 cases w with
 | t x =>
  cases x with
  | non => simp only [tyC, Option.some.injEq] at h; subst h; simp only [Rw, Rf] at r; subst r; exact ⟨_, rfl, .base .non⟩
  | bl b => simp only [tyC, Option.some.injEq] at h; subst h; simp only [Rw, Rf] at r; subst r; exact ⟨_, rfl, .base (.bl b)⟩
  | int b => simp only [tyC, Option.some.injEq] at h; subst h; simp only [Rw, Rf] at r; subst r; exact ⟨_, rfl, .base (.int b)⟩
  | str b => simp only [tyC, Option.some.injEq] at h; subst h; simp only [Rw, Rf] at r; subst r; exact ⟨_, rfl, .base (.str b)⟩
  | tup xs =>
   simp only [tyC, Option.some.injEq] at h; subst h; simp only [Rw, Rf] at r
   obtain ⟨a, vs, e, f, _⟩ := r
   subst e
   rcases f with ⟨_, o, h, _⟩ | ⟨o, its, n, h1, h2, _⟩
   ·exact ⟨_, rfl, .fTuple h⟩
   ·exact ⟨_, rfl, .kTuple h1 h2⟩
  | pr xs =>
   simp only [tyC, Option.some.injEq] at h; subst h; simp only [Rw, Rf] at r
   obtain ⟨a, vs, e, ⟨_, f⟩, _⟩ := r
   subst e
   exact ⟨_, rfl, .base (.tup f)⟩
  | lst xs =>
   simp only [tyC, Option.some.injEq] at h; subst h; simp only [Rw, Rf] at r
   obtain ⟨a, vs, e, ⟨_, f⟩, _⟩ := r
   subst e
   exact ⟨_, rfl, .base (.lst f)⟩
  | scr xs =>
   simp only [tyC, Option.some.injEq] at h; subst h; simp only [Rw, Rf] at r
   obtain ⟨a, vs, e, f, _⟩ := r
   subst e
   rcases f with ⟨_, o, h⟩ | ⟨o, its, n, h1, h2, _⟩
   ·exact ⟨_, rfl, .base (.frz h)⟩
   ·exact ⟨_, rfl, .kList h1 h2⟩
  | dic ks xs =>
   simp only [tyC, Option.some.injEq] at h; subst h; simp only [Rw, Rf] at r
   obtain ⟨a, vs, e, ⟨_, o, f⟩, _⟩ := r
   subst e
   exact ⟨_, rfl, .fDict f⟩
  | ins c ns xs =>
   simp only [tyC, Option.some.injEq] at h; subst h; simp only [Rw, Rf] at r
   obtain ⟨a, C, vs, e, cn, ⟨_, dx, f⟩, _⟩ := r
   subst e
   have q := hI c C rfl cn
   exact ⟨_, ⟨C, rfl, cn⟩, .base (.ins f q.cl q.ha q.hn q.htk q.hm)⟩
  | ty n => simp [tyC] at h
  | cls c => simp [tyC] at h
  | dit _ _ => simp [tyC] at h
  | exc _ _ _ => simp [tyC] at h
 | r i =>
  obtain ⟨a, e1, e2⟩ := r
  subst e2
  simp only [tyC] at h
  split at h
  ·rename_i xs q
   obtain ⟨vs, h1, _⟩ := R.cell i _ a q e1
   cases h
   exact ⟨_, rfl, .base (.lst h1)⟩
  ·rename_i xs q
   obtain ⟨vs, h1, _⟩ := R.cell i _ a q e1
   cases h
   exact ⟨_, rfl, .base (.dK h1)⟩
  ·rename_i c fs q
   obtain ⟨C, dx, vs, h1, cn, _⟩ := R.cell i _ a q e1
   cases h
   have q := hI c C rfl cn
   exact ⟨_, ⟨C, rfl, cn⟩, .base (.ins h1 q.cl q.ha q.hn q.htk q.hm)⟩
  ·cases h
theorem cl_at {x : T} {v : V} {d : CT} (h : clC x = some d) (r : Rf K s.fz s.H x v) : ∃ cv, CVal K d cv ∧ ClsV v cv := by
 cases x with
 | ty n => simp only [clC, Option.some.injEq] at h; subst h; simp only [Rf] at r; subst r; exact ⟨_, rfl, .ty n⟩
 | cls c => simp only [clC, Option.some.injEq] at h; subst h; simp only [Rf] at r; obtain ⟨C, e, cn⟩ := r; subst e; exact ⟨_, ⟨C, rfl, cn⟩, .own C⟩
 | _ => simp [clC] at h
end
/-- isinstance(x, (c, ..)), the tuple frozen -/
def rIsiF (K : PySem.W.Frag) : List V → Hp → VK → Prop := fun xs H Q => ∃ (x : V) (tp : Addr) (o : Obj) (cs : List V) (t : Value) (us : List Value) (b : Bool), xs = [x, .ref tp] ∧ H tp = some (.frz o (.tup cs)) ∧ Paired ClsV cs us ∧ TyX K H x t ∧ PySem.W.kitAny K t us = some b ∧ Q (.bl b) H
theorem call_isiF {X : Cx} : CallR X (.builtin "isinstance") (rIsiF X.K) := by
 intro pins s σ H xs us Q I r h
 obtain ⟨x, tp, o, cs, t, ws, b, rfl, hT, k, ty, e, q⟩ := h
 obtain ⟨u1, u2, rfl, r1, r2⟩ := vals2 r
 cases (show u2 = Value.ref tp from r2)
 obtain ⟨P, Z, p, hx⟩ := kit_of I r1 ty
 obtain ⟨_, _, its, rv, o1, h1, h2, n, h3⟩ := (show ObjOk X.prog X.w H s.heap tp (.frz o (.tup cs)) from I.hok tp _ hT)
 have e3 := ClsV.all k rv
 subst e3
 obtain ⟨oc, od, dt, sl⟩ := o1
 simp only at h2 h3
 subst h2 h3
 exact PySem.W.kia_tup Z I.kIn p h1 e hx fun tk => ⟨.bl b, H, I.tok tk, rfl, q⟩
def rIsiA (K : PySem.W.Frag) : List V → Hp → VK → Prop := fun xs H Q => rIsi K xs H Q ∨ (rIsiF K xs H Q ∨ rIsiK K xs H Q)
theorem za9 {X : Cx} : CallR X (.builtin "isinstance") (rIsiA X.K) := CallR.or call_isi (CallR.or call_isiF call_isiK)
section
variable {K : PySem.W.Frag} {ω : World} {s : S4} {Wx : WX} {tab : CT → CT → Option Bool}
theorem cls_at : ∀ {xs : List T} {vs : List V} {ds : List CT}, clCs xs = some ds → RfL K s.fz s.H xs vs → ∃ us : List Value, Paired ClsV vs us ∧ Paired (CVal K) ds us
 | [], vs, ds, h, r => by
  simp only [RfL] at r
  simp only [clCs, Option.some.injEq] at h
  subst r h
  exact ⟨[], .nil, .nil⟩
 | x :: xs, vs, ds, h, r => by
  simp only [RfL] at r
  obtain ⟨v, t, e, a, b⟩ := r
  subst e
  simp only [clCs] at h
  split at h
  ·rename_i d ds' h1 h2
   cases h
   obtain ⟨cv, c1, c2⟩ := cl_at h1 a
   obtain ⟨us, p1, p2⟩ := cls_at h2 b
   exact ⟨cv :: us, .cons c2 p1, .cons c1 p2⟩
  ·cases h
theorem any_at (h : ze7 K tab) {t : CT} {tv : Value} (ht : CVal K t tv) : ∀ {ds : List CT} {us : List Value} {b : Bool}, anyC tab t ds = some b → Paired (CVal K) ds us → PySem.W.kitAny K tv us = some b
 | [], us, b, e, p => by
  cases p
  simp only [anyC, Option.some.injEq] at e
  subst e
  rfl
 | c :: r, us, b, e, p => by
  cases p with
  | cons q p =>
   simp only [anyC] at e
   unfold PySem.W.kitAny
   split at e
   ·rename_i h1
    rw [h.ok _ _ _ _ _ h1 ht q]
    exact e
   ·rename_i h1
    rw [h.ok _ _ _ _ _ h1 ht q]
    exact any_at h ht e p
   ·cases e
theorem any_some {t : CT} : ∀ {d : CT} {ds : List CT} {b : Bool}, anyC tab t (d :: ds) = some b → ∃ b', tab t d = some b'
 | d, ds, b, e => by
  simp only [anyC] at e
  split at e
  ·exact ⟨_, by assumption⟩
  ·exact ⟨_, by assumption⟩
  ·cases e
theorem zcv (ht : ze7 K tab) : zgb K ω Wx (oIsi tab) (rIsiA K) := by
 intro s ws xs Q R r go
 unfold oIsi at go
 split at go
 ·rename_i x cs
  obtain ⟨v, c, e, rv, rc⟩ := RwL.two r
  subst e
  split at go
  ·rename_i t ds h1 h2
   split at go
   ·exact go.elim
   ·rename_i d ds
    split at go
    ·rename_i b hb
     have q := go (.bl b) s rfl Yl R (by simp only [Rw, Rf])
     obtain ⟨b', hb'⟩ := any_some hb
     obtain ⟨tv, c1, ty⟩ := ty_at R h1 rv (fun c C e cn => ht.ins c d b' C (by rw [← e]; exact hb') cn)
     simp only [Rw, Rf] at rc
     obtain ⟨a, vs, e, f, l⟩ := rc
     subst e
     obtain ⟨us, p1, p2⟩ := cls_at h2 l
     have ka := any_at ht c1 hb p2
     rcases f with ⟨_, o, hH, _⟩ | ⟨o, its, n, k1, k2, _, k3, _, k4⟩
     ·exact .inr (.inl ⟨v, a, o, vs, tv, us, b, rfl, hH, p1, ty, ka, q⟩)
     ·refine .inr (.inr ⟨v, a, o.dict, us, n, o.slots, tv, b, rfl, ?_, ty, ka, q⟩)
      have e3 := ClsV.all p1 k4
      obtain ⟨oc, od, dt, sl⟩ := o
      simp only at k2 k3
      subst k2 k3
      rw [k1, ← e3]
    ·exact go.elim
  ·exact go.elim
 ·rename_i x c hne
  obtain ⟨v, c', e, rv, rc⟩ := RwL.two r
  subst e
  split at go
  ·rename_i t d h1 h2
   split at go
   ·rename_i b hb
    have q := go (.bl b) s rfl Yl R (by simp only [Rw, Rf])
    obtain ⟨tv, c1, ty⟩ := ty_at R h1 rv (fun c C e cn => ht.ins c d b C (by rw [← e]; exact hb) cn)
    obtain ⟨cv, c2, c3⟩ := cl_at h2 (by simpa only [Rw] using rc)
    exact .inl ⟨v, c', tv, cv, b, rfl, c3, ty, ht.ok _ _ _ _ _ hb c1 c2, q⟩
   ·exact go.elim
  ·exact go.elim
 ·exact go.elim
end
end Mir
namespace Mir
open PySem PySem.Spec L2
open PyProof.Rows hiding St
def mSM (f : OpM) (Fo Fe : M W) : M W := fun eta hp => (Fo eta hp).bind fun w h1 => match w with
 | .t (.str a) => (Fe eta h1).bind fun u h2 => f Yee [u] h2
 | _ => .bad
def zcp : OpM := fun w ws hp => match w, ws with
 | .t (.str a), [.t (.str b)] => if (b.length == 0) = false ∧ a.length + 2 ≤ 16777216 then .ok (.t (.lst ((Txt.split a b).map T.str))) hp else .bad
 | _, _ => .bad
def zbd : OpM := fun w ws hp => match w, ws with
 | .t (.str a), [.t (.str b)] => if (b.length == 0) = false ∧ a.length ≤ 16777216 then .ok (.t (.pr [.str (Txt.partition a b).1, .str (Txt.partition a b).2.1, .str (Txt.partition a b).2.2])) hp else .bad
 | _, _ => .bad
def zb2 : OpM := fun w ws hp => match w, ws with
 | .t (.str a), [.t (.str b)] => .ok (.t (.bl (Txt.startswith a b))) hp
 | _, _ => .bad
section
variable {K : PySem.W.Frag} {ω : World} {s : S4} {Wx : WX}
theorem ok_split : OpMOk K ω Wx zcp (fun x xs H Q => ∃ a b, x = .str a ∧ xs = [.str b] ∧ (b.length == 0) = false ∧ a.length + 2 ≤ sizeLine ∧ rNewStrs (Txt.split a b) H Q) := by
 intro s w ws x xs Q R r rs go
 unfold zcp at go
 split at go
 ·rename_i a b
  split at go
  ·rename_i hh
   simp only [Rw, Rf] at r
   obtain ⟨v, e, rv⟩ := RwL.one rs
   simp only [Rw, Rf] at rv
   subst r rv e
   exact ⟨a, b, rfl, rfl, hh.1, by rw [sizeLine_eq]; exact hh.2, fun p hp => go (.ref p) (s.addF p (.lst ((Txt.split a b).map V.str))) rfl (zbe R hp) (zbl R hp) (zb7 R hp (strs_rf _))⟩
  ·exact go.elim
 ·exact go.elim
theorem ok_partition : OpMOk K ω Wx zbd (fun x xs H Q => ∃ a b, x = .str a ∧ xs = [.str b] ∧ (b.length == 0) = false ∧ a.length ≤ sizeLine ∧ ∀ p, H p = none → Q (.ref p) (upd H p Ygx)) := by
 intro s w ws x xs Q R r rs go
 unfold zbd at go
 split at go
 ·rename_i a b
  split at go
  ·rename_i hh
   simp only [Rw, Rf] at r
   obtain ⟨v, e, rv⟩ := RwL.one rs
   simp only [Rw, Rf] at rv
   subst r rv e
   exact ⟨a, b, rfl, rfl, hh.1, by rw [sizeLine_eq]; exact hh.2, fun p hp => go (.ref p) (s.addF p Ygx) rfl (zbe R hp) (zbl R hp) (addF_pr R hp (strs_rf [(Txt.partition a b).1, (Txt.partition a b).2.1, (Txt.partition a b).2.2]))⟩
  ·exact go.elim
 ·exact go.elim
theorem ok_startswith : OpMOk K ω Wx zb2 (fun x xs H Q => ∃ a b, x = .str a ∧ xs = [.str b] ∧ Q (.bl (Txt.startswith a b)) H) := by
 intro s w ws x xs Q R r rs go
 unfold zb2 at go
 split at go
 ·rename_i a b
  simp only [Rw, Rf] at r
  obtain ⟨v, e, rv⟩ := RwL.one rs
  simp only [Rw, Rf] at rv
  subst r rv e
  exact ⟨a, b, rfl, rfl, go _ s rfl Yl R Yk⟩
 ·exact go.elim
end
section
variable {X : Cx} {Wx : WX} {o e : Expr} {Fo Fe : M W} {name : Str} {apos cpos : Pos} {id : String} {f : OpM} {r : V → List V → Hp → VK → Prop}
theorem ie_sm (slot : Slot "str" name id) (hty : typeOf (.builtin id) = pure (.type "method_descriptor")) (hm : MtR X id r) (hf : OpMOk X.K X.w Wx f r) (ho : IE X Wx o Fo) (he : IE X Wx e Fe)
  (hs : starEach [e] X.env = [Yi6] := by rfl) (hbase : attributeBase o name X.env Yhc = eval o X.env := by rfl) (hline : (apos.endLine == cpos.line) = true := by rfl) :
  IE X Wx (.Call (.Attribute o name apos) [e] [] cpos) (mSM f Fo Fe) :=
 PE.imp (pe_m1 slot hty hm ho he hs hbase hline) fun σ H Q h =>
  tM.bind1 (R := fun (x : V) (H1 : Hp) => (∃ a, x = .str a) ∧ tE X.K X.w Wx Fe σ H1 fun y H2 => r x [y] H2 Q) (k := fun (w : W) eta h1 => match w with | .t (.str a) => ((Fe eta h1).bind fun u h2 => f Yee [u] h2 : Res W) | _ => .bad) h fun s eta a b R1 S1 f1 g => by
   split at g
   ·rename_i a
    refine ⟨⟨a, by simpa only [Rw, Rf] using f1⟩, s, eta, rfl, R1, S1, Go.bind g fun u y s' A' R' r' _ g' => hf s' Yee [u] b [y] Q R' (f1.aft A' R1) ⟨y, [], rfl, r', rfl⟩ g'⟩
   ·exact g.elim
theorem zgm (ho : IE X Wx o Fo) (he : IE X Wx e Fe) (hs : starEach [e] X.env = [Yi6] := by rfl) (hbase : attributeBase o "split" X.env Yhc = eval o X.env := by rfl) (hline : (apos.endLine == cpos.line) = true := by rfl) :
  IE X Wx (.Call (.Attribute o "split" apos) [e] [] cpos) (mSM zcp Fo Fe) := ie_sm F.slot_str_split F.type_str_split mt_split ok_split ho he hs hbase hline
theorem ie_partition (ho : IE X Wx o Fo) (he : IE X Wx e Fe) (hs : starEach [e] X.env = [Yi6] := by rfl) (hbase : attributeBase o "partition" X.env Yhc = eval o X.env := by rfl) (hline : (apos.endLine == cpos.line) = true := by rfl) :
  IE X Wx (.Call (.Attribute o "partition" apos) [e] [] cpos) (mSM zbd Fo Fe) := ie_sm F.slot_str_partition F.type_str_partition mt_partition ok_partition ho he hs hbase hline
theorem ie_startswith (ho : IE X Wx o Fo) (he : IE X Wx e Fe) (hs : starEach [e] X.env = [Yi6] := by rfl) (hbase : attributeBase o "startswith" X.env Yhc = eval o X.env := by rfl) (hline : (apos.endLine == cpos.line) = true := by rfl) :
  IE X Wx (.Call (.Attribute o "startswith" apos) [e] [] cpos) (mSM zb2 Fo Fe) := ie_sm F.slot_str_startswith F.type_str_startswith mt_startswith ok_startswith ho he hs hbase hline
end
def inS (neg : Bool) : Op2 := fun a b hp => match a, b with
 | .t (.str i), .t (.str j) => (match i.cps.toList with
  | [c] => .ok (.t (.bl (if neg then !decide (c ∈ j.cps.toList) else decide (c ∈ j.cps.toList)))) hp
  | _ => .bad)
 | _, _ => .bad
section
variable {X : Cx} {Wx : WX} {a b : Expr} {Fa Fb : M W} {pos : Pos}
theorem ok_inS {K : PySem.W.Frag} {ω : World} : zdv K ω Wx (inS false) (fun x y H Q => ∃ (c : Nat) (z : Str), x = .str ⟨#[c]⟩ ∧ y = .str z ∧ Q (.bl (decide (c ∈ z.cps.toList))) H) := by
 intro s a b x y Q R ra rb go
 unfold inS at go
 split at go
 ·rename_i i j
  split at go
  ·rename_i c hc
   simp only [Rw, Rf] at ra rb
   subst ra rb
   have ei : i = ⟨#[c]⟩ := Str.ext' (Array.toList_inj.mp (by rw [hc]))
   subst ei
   exact ⟨c, j, rfl, rfl, go _ s rfl Yl R Yk⟩
  ·exact go.elim
 ·exact go.elim
theorem ie_inS (ha : IE X Wx a Fa) (hb : IE X Wx b Fb) (hm : behindInMarks .In b = false := by rfl) : IE X Wx (.Compare a [.In] [b] pos) (mBin (inS false) Fa Fb) := ie_cmp op_in_sign ok_inS ha hb hm
end
end Mir
namespace Mir
open PySem PySem.Spec L2
open PyProof.Rows hiding St
section
variable {prog : Program} {w : World} {A : Around} {E : Value → Shared → Prop} {s : Shared}
/-- the loop: Ph i holds of the heap behind i elements -/
theorem addAll {R : Result → Shared → Prop} {I S l : Addr} {items : Array Value} (hh : A.in1.handled = none) (nl : l ≠ I) (nS : S ≠ I) (nSl : S ≠ l) (Ph : Nat → Heap → Prop)
  (stay : ∀ i h h', Ph i h → (∀ b o, b ≠ I → h.get? b = some o → h'.get? b = some o) → Ph i h')
  (step : ∀ (i : Nat) (v : Value) (s1 : Shared) (Q : Bool → Shared → Prop) (E1 : Value → Shared → Prop), items[i]? = some v → Ph i s1.heap → (∀ b h' tk, Heap.SameBut S s1.heap h' → s1.toks ≤ tk → Ph (i + 1) h' → Q b { s1 with heap := h', toks := tk }) → wpAny Yal A.in1 (setAdd S v) Q E1 s1) :
  ∀ (k i : Nat) (s0 : Shared), items.size - i = k → i ≤ items.size → (s0.heap.IsListIter I l i ∧ s0.heap.IsList l items) → Ph i s0.heap →
   (∀ s' : Shared, Moved [S, I] (fun a b => b = a) s0 s' → Ph items.size s'.heap → R (.ok (.ret .none)) s') →
   codeAny Yal A (.builtin "set.update.loop" ⟨[.ref S, .ref I], []⟩) R s0 := by
 have W := (Walks.list (prog := prog) (w := w) hh I l nl items).toS
 have wide : ∀ {a b : Shared}, Moved [I] (fun x y => y = x) a b → Moved [S, I] (fun x y => y = x) a b := fun m => ⟨fun b o hb q => m.heap b o (fun z => hb (List.mem_cons_of_mem _ z)) q, m.gens, m.drawn, m.os, m.toks⟩
 intro k
 induction k with
 | zero =>
  intro i s0 hk hi st ph hR
  obtain rfl : i = items.size := by omega
  refine codeAny_builtin F.entry_set_update_loop ?_
  rw [Around.under_plainId F.plain_set_update_loop _]
  refine wpAny_bind (W.done s0 _ _ st fun s' hm => wpAny_pure (hR s' (wide hm) (stay _ _ _ ph fun b o hb q => hm.heap b o (by simpa using hb) q)))
 | succ k ih =>
  intro i s0 hk hi st ph hR
  have hlt : i < items.size := by omega
  refine codeAny_builtin F.entry_set_update_loop ?_
  rw [Around.under_plainId F.plain_set_update_loop _]
  refine wpAny_bind (W.item i s0 _ _ hlt st fun v s1 hv st1 hm => ?_)
  have ph1 : Ph i s1.heap := stay _ _ _ ph fun b o hb q => hm.heap b o (by simpa using hb) q
  refine wpAny_bind (wpAny_holding (step i v s1 _ _ hv ph1 fun b h' tk sb ht ph2 => ?_))
  have kp : ∀ b o, b ≠ S → s1.heap.get? b = some o → h'.get? b = some o := fun b o hb q => (sb.2 b hb).trans q
  refine wpAny_pure ⟨plainId_quiet F.plain_set_update_loop _, ih (i + 1) _ Yf hlt (W.frame _ s1 _ _ st1 ht fun b hb o q => kp b o (fun z => ?_) q) ph2 fun s2 hm2 ph3 => hR s2 ⟨fun b o hb q => ?_, ?_, ?_, ?_, ?_⟩ ph3⟩
  ·subst z
   simp only [List.mem_cons, List.not_mem_nil, or_false] at hb
   rcases hb with z | z
   ·exact nS z
   ·exact nSl z
  ·have h1 := (wide hm).heap b o hb q
   exact hm2.heap b o hb (kp b o (fun z => hb (by simp [z])) h1)
  ·exact hm2.gens.trans hm.gens
  ·exact hm2.drawn.trans hm.drawn
  ·exact hm2.os.trans hm.os
  ·exact Nat.le_trans (Nat.le_trans hm.toks ht) hm2.toks
/-- an empty set -/
abbrev zdn (led : Bool) : Obj := { cls := .type "set", dict := none, data := .set #[] 0 (.fresh 0 0 led) }
/-- set(l) -/
theorem call_setL {l : Addr} {items : Array Value} {Q : Value → Shared → Prop} (hh : A.handled = none) (hl : s.heap.IsList l items) (Ph : Nat → Heap → Prop)
  (base : ∀ led h, h.get? s.heap.objs.size = some (zdn led) → (∀ b o, s.heap.get? b = some o → h.get? b = some o) → Ph 0 h)
  (stay : ∀ i h h', Ph i h → (∀ b o, b ≠ s.heap.objs.size + 1 → h.get? b = some o → h'.get? b = some o) → Ph i h')
  (step : ∀ (A' : Around) (i : Nat) (v : Value) (s1 : Shared) (Q : Bool → Shared → Prop) (E1 : Value → Shared → Prop), A'.handled = none → A'.units ≤ A.units + 8 → items[i]? = some v → Ph i s1.heap → (∀ b h' tk, Heap.SameBut s.heap.objs.size s1.heap h' → s1.toks ≤ tk → Ph (i + 1) h' → Q b { s1 with heap := h', toks := tk }) → wpAny Yal A' (setAdd s.heap.objs.size v) Q E1 s1)
  (hq : ∀ h' tk, Ph items.size h' → (∀ b o, s.heap.get? b = some o → h'.get? b = some o) → Q Ycf { s with heap := h', toks := tk }) :
  wpAny Yal A (call (.type "set") [.ref l]) Q E s := by
 have TC := PySem.F.called_set
 obtain ⟨c, tl, hmro⟩ := TC.mro
 have hmade := TC.made
 have hsub := TC.sub
 have hnt := TC.notType
 have hcc := TC.canCreate
 have hct := PySem.F.typeCall_set_1 (.ref l)
 refine wpAny_call (codeAny_of_tree (wpAny_pure ⟨Code.quiet_builtin _ Yg, codeAny_builtin PySem.F.entry_type_call ?_⟩))
 rw [Around.under_plain (weight_type_call_type "set" [.ref l] []) rfl]
 repeat (any_goals (first | assumption | wp_step))
 refine codeAny_mono (code_set_new_1 (.ref l) (E := E) (Q₁ := fun obj s₁ => ∃ led : Bool, obj = .ref s.heap.objs.size ∧ s₁ = { s with heap := s.heap.push (zdn led) }) fun led => ⟨led, rfl, rfl⟩) fun r s₁ hr => ?_
 rcases r with e | fl
 ·exact hr
 cases fl with
 | ret obj =>
  obtain ⟨led, rfl, rfl⟩ := hr
  have gS : (s.heap.push (zdn led)).get? s.heap.objs.size = some (zdn led) := Heap.get?_push_size _ rfl
  have tS : Shared.TypeIs { s with heap := s.heap.push (zdn led) } (.ref s.heap.objs.size) "set" := ⟨_, gS, rfl⟩
  have hli := TC.init.lookup
  have hbi := TC.init.bind Ycf
  have lS : l < s.heap.objs.size := let ⟨_, q, _⟩ := hl; Heap.lt_size q
  have zS : (s.heap.push (zdn led)).objs.size = s.heap.objs.size + 1 := Heap.size_push ..
  repeat (any_goals (first | assumption | wp_step))
  refine codeAny_mono (codeAny_call_builtin (R := wants (fun r s₂ => r = .none ∧ ∃ h' tk, s₂ = { s with heap := h', toks := tk } ∧ Ph items.size h' ∧ ∀ b o, s.heap.get? b = some o → h'.get? b = some o) E) TC.init.plain PySem.F.entry_set_init (check_set_init_1 tS ?_)) fun r₂ s₂ hr₂ => ?_
  ·have hl1 : (s.heap.push (zdn led)).IsList l items := hl.push _
   obtain ⟨ol, hol, hcl, nl, hdl⟩ := id hl1
   have t1 : Shared.TypeIs { s with heap := s.heap.push (zdn led) } (.ref l) "list" := ⟨ol, hol, hcl⟩
   have hsls := PySem.F.sub_list_set
   have hslf := PySem.F.sub_list_frozenset
   have hne : (Value.type "list" == Value.type "dict") = false := by decide
   obtain ⟨ocls, odict, odata, oslots⟩ := ol
   simp only at hcl hdl
   subst hcl hdl
   unfold Builtin.«set.__init__» noKeywords Builtin.Frozenset.updateFrom
   generalize hPI : pyIter = PI
   wp_walk
   subst hPI
   refine wpAny_pyIter_list hl1 (wpAny_bind (wpAny_runValue ?_))
   refine addAll (A := A.in1.in1) (S := s.heap.objs.size) (I := (s.heap.push (zdn led)).objs.size) (l := l) (items := items) (by simp [hh]) (by rw [zS]; exact Nat.ne_of_lt (Nat.lt_succ_of_lt lS)) (by rw [zS]; exact Nat.ne_of_lt Yjs) (Nat.ne_of_gt lS) Ph (fun i h h' p k => stay i h h' p fun b o hb q => k b o (by rw [zS]; exact hb) q) (fun i v s1 Q1 E1 hv p k => step _ i v s1 Q1 E1 (by simp [hh]) (by simp only [Around.in1_units]; omega) hv p k) _ 0 _ rfl (Nat.zero_le _) ?_ ?_ ?_
   ·exact ⟨⟨_, Heap.get?_push_size _ rfl, rfl, rfl⟩, hl1.push _⟩
   ·exact base led _ (Heap.get?_push_of_some _ gS) fun b o q => Heap.get?_push_of_some _ (Heap.get?_push_of_some _ q)
   ·intro s' hm ph
    obtain ⟨h', g', d', tk', os'⟩ := s'
    obtain rfl : g' = s.gens := hm.gens
    obtain rfl : d' = s.drawn := hm.drawn
    obtain rfl : os' = s.os := hm.os
    show wpAny _ _ _ _ _ _
    refine wpAny_pure ?_
    show wpAny _ _ (ret Value.none) _ _ _
    refine wpAny_pure ⟨rfl, h', tk', rfl, ph, fun b o q => ?_⟩
    have hb := Heap.lt_size q
    refine hm.heap b o (fun z => ?_) (Heap.get?_push_of_some _ (Heap.get?_push_of_some _ q))
    simp only [List.mem_cons, List.not_mem_nil, or_false, zS] at z
    rcases z with z | z
    ·rw [z] at hb; exact Nat.lt_irrefl _ hb
    ·rw [z] at hb; exact Nat.lt_irrefl _ (Nat.lt_trans Yjs hb)
  ·rcases r₂ with e | fl₂
   ·exact hr₂
   cases fl₂ with
   | ret r =>
    obtain ⟨rfl, h', tk, rfl, ph, k⟩ := hr₂
    repeat (any_goals (first | assumption | wp_step))
    exact hq h' tk ph k
   | _ => exact hr₂.elim
 | _ => exact hr.elim
end
def memK (k : Key) (l : List Key) : Bool := l.any fun j => decide (k = j)
def addK (acc : List Key) (k : Key) : List Key := if memK k acc = true then acc else acc ++ [k]
/-- each once, where it first comes -/
def ze5 (ks : List Key) : List Key := ks.foldl addK []
theorem addK_mem {acc : List Key} {k j : Key} : memK j (addK acc k) = (memK j acc || decide (j = k)) := by
 unfold addK
 split
 ·rename_i h
  by_cases e : j = k
  ·subst e
   rw [h, Bool.true_or]
  ·simp [e]
 ·simp [memK]
theorem addK_len {acc : List Key} {k : Key} : (addK acc k).length = if memK k acc = true then acc.length else acc.length + 1 := by
 unfold addK
 split <;> simp
theorem onceK_snoc (ks : List Key) (k : Key) : ze5 (ks ++ [k]) = addK (ze5 ks) k := by simp [ze5, List.foldl_append]
theorem onceK_le : ∀ (ks acc : List Key), (ks.foldl addK acc).length ≤ acc.length + ks.length
 | [], acc => by simp
 | k :: r, acc => by
  have h := onceK_le r (addK acc k)
  have h2 : (addK acc k).length ≤ acc.length + 1 := by rw [addK_len]; split <;> omega
  simp only [List.foldl_cons, List.length_cons]
  omega
section
variable {X : Cx}
/-- the set behind the first i -/
def PhK (P : Program) (w : World) (S : Addr) (ks : List Key) (i : Nat) (h : Heap) : Prop := h.SetOf (mixKind P w) S (fun k => memK k (ze5 (ks.take i))) (ze5 (ks.take i)).length
def tLenSetK (K : PySem.W.Frag) (ta : TE) : TE := fun σ H Q => ta σ H fun x H1 => ∃ (l : Addr) (ks : List Key), x = .ref l ∧ SqL K H1 l (ks.map kV) ∧ ks.length ≤ 4000 ∧ Q (.int Yev) H1
theorem pe_lenSetK {a : Expr} {ta : TE} {p p2 q pos : Pos} (hc : X.calm = true) (hg : Gl X "len") (hm : X.mg "len" = none) (hg2 : Gl X "set") (hm2 : X.mg "set" = none) (ha : PE X a ta)
  (na : starEach [a] X.env = (false, eval a X.env) :: starEach [] X.env := by rfl) : PE X Ybt (tLenSetK X.K ta) := ⟨fun pins s σ H Q I h => by
 refine Call_ (ld_blt I hg hm boot_len (callWith_builtin1 (args_cons (Call_ (ld_blt I hg2 hm2 boot_set (callWith_type1 (args_cons (thn (ha.run pins s σ H _ I h) ?_) na) na rfl))) rfl) rfl rfl))
 rintro v s1 ⟨x, H1, I1, r1, l, ks, rfl, hq, hz, q1⟩
 cases r1
 obtain ⟨its, rv, pl, _⟩ := I1.list hq
 have hn : its.length = ks.length := by rw [← rv.length, List.length_map]
 refine args_nil (call_setL (items := its.toArray) (I1.ok.hd hc) pl.isList (PhK X.prog X.w s1.heap.objs.size ks) ?_ ?_ ?_ ?_)
 ·intro led h g k
  refine ⟨_, #[], 0, _, g, ⟨rfl, rfl, rfl⟩, rfl, (fun e he => by simp at he), (fun k => by simp [ze5, memK]), by simp [scanBound], rfl, ?_⟩
  simp [ze5]
 ·rintro i h h' ⟨o, es, ep, t, ho, r⟩ k
  exact ⟨o, es, ep, t, k _ _ (Nat.ne_of_lt Yjs) ho, r⟩
 ·intro A' i v s2 Q2 E2 hA _ hv ph k
  have hi : i < ks.length := by
   have := (Array.getElem?_eq_some_iff.mp hv).1
   simpa [hn] using this
  have hk : ks.take (i + 1) = ks.take i ++ [ks[i]] := by rw [List.take_succ_eq_append_getElem hi]
  have rv2 : RelV (kV ks[i]) v := by
   obtain ⟨u, e1, e2⟩ := Vals.get rv (i := i) (x := kV ks[i]) (by rw [List.getElem?_map, List.getElem?_eq_getElem hi]; rfl)
   have e3 : its[i]? = some v := by simpa using hv
   rw [e3] at e1
   cases e1
   exact e2
  unfold setAdd
  refine wpAny_holding (wpAny_bind ((mixKind X.prog X.w).pyHash (k := ks[i]) (kV_is rv2) ?_))
  have hroom : (ze5 (ks.take i)).length + 1 < scanBound := by
   have := onceK_le (ks.take i) []
   have e : (ks.take i).length ≤ ks.length := by rw [List.length_take]; omega
   simp only [List.length_nil, scanBound] at *
   unfold ze5
   omega
  refine wpAny_setAddHashed_of (knd := mixKind X.prog X.w) (s := { s2 with toks := s2.toks + 1 }) (kV_is rv2) (key_scan rv2) ph hroom fun h' sb hS => ?_
  refine k _ h' _ sb (Nat.le_succ _) ?_
  have e1 : (fun j => memK j (ze5 (ks.take i)) || decide (j = ks[i])) = fun j => memK j (ze5 (ks.take (i + 1))) := funext fun j => by rw [hk, onceK_snoc, addK_mem]
  have e2 : (if memK ks[i] (ze5 (ks.take i)) = true then (ze5 (ks.take i)).length else (ze5 (ks.take i)).length + 1) = (ze5 (ks.take (i + 1))).length := by rw [hk, onceK_snoc, addK_len]
  rw [e1, e2] at hS
  exact hS
 ·intro h' tk ph k
  have I2 : Inv X pins σ H1 { s1 with heap := h', toks := tk } := I1.kept k
  obtain ⟨o, es, ep, t, ho, hex, hd, _, _, hb, hf, hn2⟩ := ph
  rw [List.take_of_length_le (by simp [hn])] at hn2
  exact args_nil (call_len_set ho hex hd hf (by have : es.size < 4096 := hb; omega) ⟨.int Yev, H1, I2.tok _, ⟨_, by rw [hn2]⟩, q1⟩)⟩
end
/-- texts and ints as keys -/
def keysOf : List W → Option (List Key)
 | [] => some []
 | .t (.str x) :: r => (keysOf r).map (Sum.inr x :: ·)
 | .t (.int x) :: r => (keysOf r).map (Sum.inl x :: ·)
 | _ => none
def mLenSet (F : M W) : M W := fun eta hp => (F eta hp).bind fun w h => match (ze3 h w).bind keysOf with
 | some ks => if ks.length ≤ 4000 then .ok (.t (.int Yev)) h else .bad
 | none => .bad
section
variable {X : Cx} {Wx : WX} {a : Expr} {F : M W} {p p2 q pos : Pos}
theorem keys_rw {K : PySem.W.Frag} {s : S4} : ∀ {ws : List W} {vs : List V} {ks : List Key}, keysOf ws = some ks → RwL K s ws vs → vs = ks.map kV := by
 intro ws
 induction ws with
 | nil =>
  intro vs ks h r
  simp only [keysOf, Option.some.injEq] at h
  subst h
  exact r
 | cons w ws ih =>
  intro vs ks h r
  obtain ⟨v, t, e, a, b⟩ := r
  unfold keysOf at h
  split at h
  ·rename_i e2
   cases e2
  ·rename_i x r' e2
   cases e2
   obtain ⟨zs, h1, h2⟩ := Option.map_eq_some_iff.mp h
   simp only [Rw, Rf] at a
   rw [← h2, e, a, ih h1 b]
   rfl
  ·rename_i x r' e2
   cases e2
   obtain ⟨zs, h1, h2⟩ := Option.map_eq_some_iff.mp h
   simp only [Rw, Rf] at a
   rw [← h2, e, a, ih h1 b]
   rfl
  ·cases h
theorem ie_lenSet (hc : X.calm = true) (hm : X.mg "len" = none) (hm2 : X.mg "set" = none) (ha : IE X Wx a F) (hg : Gl X "len" := by rfl) (hg2 : Gl X "set" := by rfl)
  (na : starEach [a] X.env = (false, eval a X.env) :: starEach [] X.env := by rfl) : IE X Wx Ybt (mLenSet F) :=
 PE.imp (pe_lenSetK hc hg hm hg2 hm2 ha na) fun σ H Q h =>
  tM.bind1 (R := fun (x : V) (H1 : Hp) => ∃ (l : Addr) (ks : List Key), x = .ref l ∧ SqL X.K H1 l (ks.map kV) ∧ ks.length ≤ 4000 ∧ Q (.int Yev) H1)
   (k := fun (w : W) _ h => match (ze3 h w).bind keysOf with | some ks => (if ks.length ≤ 4000 then .ok (.t (.int Yev)) h else .bad : Res W) | none => .bad) h fun s eta w v R1 S1 f1 g => by
   split at g
   ·rename_i ks hk
    split at g
    ·rename_i hz
     obtain ⟨ws, h1, h2⟩ := Option.bind_eq_some_iff.mp hk
     obtain ⟨l, xs, e, sq, rl⟩ := ze2 R1 h1 f1
     subst e
     have ev := keys_rw h2 rl
     subst ev
     exact ⟨l, ks, rfl, sq, hz, g _ s rfl Yl R1 Yk⟩
    ·exact g.elim
   ·exact g.elim
end
section
variable {X : Cx} {Wx : WX} {x : Str} {pos : Pos}
theorem zep {v : Str} {t : Tok} (hm : X.mg x = some (.str v t)) (hg : Gl X x := by rfl) (hd : (x == ("__debug__" : Str)) = false := by decide) : IE X Wx Ykw (mC (.str v)) :=
 ie_glob hg hm (v := .str v) ⟨_, rfl⟩ Yef hd
/-- a tuple of texts -/
theorem ie_globT {a : Addr} {o : Obj} {us : List Value} {vs : List Str} {n : Nat} (hm : X.mg x = some (.ref a)) (hl : X.K.lookup a = some o) (hc : o.cls = .type "tuple") (hdn : o.dict = none) (hd : o.data = .seq us.toArray n) (hr : Vals (vs.map V.str) us) (hz : us.length ≤ 1000) (hg : Gl X x := by rfl) (hdb : (x == ("__debug__" : Str)) = false := by decide) : IE X Wx Ykw (mC (.tup (vs.map T.str))) :=
 ie_glob hg hm (v := .ref a) rfl (fun s => by
  simp only [Rw, Rf]
  exact ⟨a, vs.map V.str, rfl, .inr ⟨o, us.toArray, n, hl, hc, hdn, hd, by rw [sizeLine_eq, List.size_toArray]; omega, by simpa using hr⟩, strs_rf vs⟩) hdb
/-- an own class -/
theorem ie_cls {c : Str} {C : Addr} (cn : CN X.K c C) (hm : X.mg x = some (.ref C)) (hg : Gl X x := by rfl) (hdb : (x == ("__debug__" : Str)) = false := by decide) : IE X Wx Ykw (mC (.cls c)) :=
 ie_glob hg hm (v := .ref C) rfl (fun s => by
  simp only [Rw, Rf]
  exact ⟨C, rfl, cn⟩) hdb
/-- a built-in type -/
theorem ze9 {n : String} (hm : X.mg x = none) (hb : bootBuiltins x = some (.type n)) (hg : Gl X x := by rfl) (hn : x ≠ "__name__" := by decide) (hdb : (x == ("__debug__" : Str)) = false := by decide) : IE X Wx Ykw (mC (.ty n)) := ⟨fun pins s σ H Q I h => by
 refine ld_blt I hg hm hb ⟨.ty n, H, I, rfl, ?_⟩ hn hdb
 obtain ⟨s0, eta, e1, R1, S1, g⟩ := h
 subst e1
 exact g _ s0 rfl (Aft.refl s0) R1 Yk⟩
end
structure ClsF (K : PySem.W.Frag) (mg : Str → Option Value) (c : Str) (C : Addr) : Prop where
 cn : CN K c C
 mg : mg c = some (.ref C)
 cl : Cls K C
structure XF (P : Program) (w : World) (K : PySem.W.Frag) (mg : Str → Option Value) (base : Heap) (c : Str) (C fI : Addr) (fd : FuncData) (ps : List Str) (fld : Str) : Prop where
 T : OexC K C
 iC : PySem.W.findIn K (.ref C) "__init__" = some (some Yj0)
 tI : PySem.W.typeIn K Yj0 = some Yfh
 cn : CN K c C
 ok : FnOk P w K mg base Yd 1 fI fd ps (spI C fld)
 hot : L2H.FnH P w K mg base Yd 1 fI fd ps (spI C fld)
 mg : mg c = some (.ref C)
 bd : Binds K fd ps []
 em : PySem.W.exmOne K (.ref C) (.ref C) = some true
def hitC (c : Str) : Str → Option Bool := fun x => if x = c then some true else none
section
variable {P : Program} {w : World} {K : PySem.W.Frag} {mg : Str → Option Value} {base : Heap} {c : Str} {C fI : Addr} {fd : FuncData} {ps : List Str} {fld : Str}
theorem XF.hit (x : XF P w K mg base c C fI fd ps fld) : HitOk K (.ref C) (hitC c) := fun c' C' b h n => by
 unfold hitC at h
 split at h
 ·rename_i e
  cases h
  subst e
  cases n.inj x.cn
  exact x.em
 ·cases h
theorem XF.sub (x : XF P w K mg base c C fI fd ps fld) : ∀ (c' : Str) (C' : Addr), hitC c c' = some true → CN K c' C' → PySem.W.subIn K (.ref C') Ya3 = some true := fun c' C' h n => by
 unfold hitC at h
 split at h
 ·rename_i e
  subst e
  cases n.inj x.cn
  exact x.T.exC
 ·cases h
theorem zf4 {X : Cx} : L2.Takes X.nox W0 := fun u s' x => by
 obtain ⟨_, _, _, _, _, _, _, _, _, _, _, _, _, _, _, _, f⟩ := x
 exact f.elim
end
def mBad : M Fl := fun _ _ => .bad
theorem st_bad {X : Cx} {Wx : WX} {st : Stmt} : ISt X Wx st mBad := ⟨fun pins s σ H D I h => by
 obtain ⟨_, _, _, _, _, g⟩ := h
 exact g.elim⟩
/-- int(text) -/
def oIntS : OpN := fun ws hp => match ws with
 | [.t (.str a)] => (match PySem.intText? a with | some n => if a.length ≤ 640 then .ok (.t (.int n)) hp else .bad | none => .bad)
 | _ => .bad
theorem ok_intS {K : PySem.W.Frag} {ω : World} {Wx : WX} : zgb K ω Wx oIntS (fun xs H Q => ∃ a n, xs = [.str a] ∧ PySem.intText? a = some n ∧ a.length ≤ 640 ∧ Q (.int n) H) := by
 intro s ws xs Q R r go
 unfold oIntS at go
 split at go
 ·obtain ⟨v, e, rv⟩ := RwL.one r
  simp only [Rw, Rf] at rv
  subst rv e
  split at go
  ·rename_i n hn
   split at go
   ·rename_i hz
    exact ⟨_, n, rfl, hn, hz, go _ s rfl Yl R Yk⟩
   ·exact go.elim
  ·exact go.elim
 ·exact go.elim
end Mir
namespace Mir
open PySem PySem.Spec L2
open PyProof.Rows hiding St
section
variable {X : Cx} {Wx : WX} {kx vx tg iter : Expr} {Fi : M (List W)} {pos : Pos} {g : TG} {G : W → IS → Option IS} {vs : List Nat} {Kf Vf : M W} {own : List Yh2} {scope : Scope}
theorem wipe_twice {σ : L2.St} {us : List Nat} : wipe Ye8 us = wipe σ us := by
 apply List.ext_getElem?
 intro j
 by_cases hj : j ∈ us
 ·by_cases hl : j < σ.length
  ·rw [zgl hj Yhn, zgl hj hl]
  ·rw [List.getElem?_eq_none Ygr, List.getElem?_eq_none Ydu]
 ·rw [wipe_get hj]
end
end Mir
namespace Mir
open PySem PySem.Spec L2
open PyProof.Rows hiding St
section
variable {X : Cx} {Wx : WX} {k m : Expr} {Fk Fd : M W} {pos : Pos}
theorem t_asB {F : M W} {σ : St} {H : Hp} {Q : Bool → Hp → Prop} (h : tT X.K X.w Wx (zah asB F) σ H Q) : tE X.K X.w Wx F σ H Yin :=
 tM.bind1 (R := fun (x : V) (H1 : Hp) => ∃ k, x = .bl k ∧ Q k H1) (k := fun (a : W) _ hp => asB a hp) h fun s eta a b R1 _ f1 g => go_asB R1 f1 g
end
/-- a tuple some of whose parts are live -/
def tplOf (ws : List W) (hp : IH) : Res W := if ws.length ≤ 16777216 then .ok Ydp (hp ++ [some (.tpl ws)]) else .bad
def zf5 : Op2 := fun a b hp => match a, b with
 | .r i, .t (.int j) => (match hp[i]? with | some (some (.tpl ws)) => (match atI ws j with | some w => .ok w hp | none => .bad) | _ => .bad)
 | _, _ => .bad
section
variable {X : Cx} {Wx : WX} {a b : Expr} {es : List Expr} {Fs : M (List W)} {Fa Fb : M W} {pos : Pos}
theorem go_tpl {K : PySem.W.Frag} {ω : World} {s : S4} {ws : List W} {vs : List V} {Q : VK} (R : Rel K ω s) (r : RwL K s ws vs) (g : Go K ω Wx (Rw K) s (tplOf ws s.hp) Q) : vs.length ≤ sizeLine ∧ ∀ (p : Addr) (o : Obj), s.H p = none → o.dict = none → Q (.ref p) (upd s.H p Ykx) := by
 unfold tplOf at g
 split at g
 ·rename_i hz
  refine ⟨by rw [← RwL.length r, sizeLine_eq]; exact hz, fun p o hp d => g (.ref p) (s.addL p (.tpl ws) Ykx) rfl (zen R hp) (zff R hp ⟨o, vs, rfl, d, r⟩) (addL_r R)⟩
 ·exact g.elim
theorem ie_tpl {x1} (h : IA X Wx es Fs) : IE X Wx (.Tuple es x1 pos) (mApp tplOf Fs) := PE.imp (pe_tupS h) fun σ H Q h =>
 tM.bind1 (R := fun (xs : List V) (H1 : Hp) => xs.length ≤ sizeLine ∧ ∀ (p : Addr) (o : Obj), H1 p = none → o.dict = none → Q (.ref p) (upd H1 p Ykv)) (k := fun (a : List W) _ hp => tplOf a hp) h fun s eta a b R1 _ f1 g => go_tpl R1 f1 g
theorem ok_ixTpl : zdv X.K X.w Wx zf5 (rIxT X.K) := by
 intro s a b x y Q R ra rb go
 unfold zf5 at go
 split at go
 ·rename_i i j
  have ey : y = .int j := by simpa only [Rw, Rf] using rb
  split at go
  ·rename_i ws hc
   split at go
   ·rename_i w hw
    obtain ⟨p, e1, e2⟩ := ra
    obtain ⟨ob, vs, h1, h2, l⟩ := R.cell _ _ _ hc e1
    obtain ⟨v, h3, h4⟩ := atI_rw l hw
    exact ⟨p, vs, j, v, e2, ey, .inl (.inr ⟨ob, h1⟩), h3, go _ s rfl Yl R h4⟩
   ·exact go.elim
  ·exact go.elim
 ·exact go.elim
theorem ie_ixTpl (ha : IE X Wx a Fa) (hb : IE X Wx b Fb) (hs : PlainIx b := by intro _ _; rfl) : IE X Wx (.Subscript a b pos) (mBin zf5 Fa Fb) := ie_ix ix_tup ok_ixTpl ha hb hs
end
end Mir
namespace Mir
open PySem PySem.Spec L2
open PyProof.Rows hiding St
section
variable {X : Cx} {CX : CXT} {k : Nat} {f C : Addr} {fd : FuncData} {ps : List Str} {sp : Sp} {E : XK} {p pos : Pos} {e : Expr} {ta : TE}
/-- the builtin len where the class of the instance has a def __len__ -/
theorem len_ins {pins : List Ya9} {σ : L2.St} {H : Hp} {s : Shared} {a dx : Addr} {fs : List Ygz} {Q : VK} (I : Inv X pins σ H s) (ea : H a = some (.ins C dx fs)) (hm : Meth X.K C "__len__" f)
  (F : FnG X.prog X.w X.K X.mg X.base CX k f fd ps sp) (hr : Room (k + 1) X.A) (hgd : X.A.guards = some []) (hb : Binds X.K fd ps []) (hx : Passes CX X.nox E)
  (h : sp [.ref a] H Yi9 E) {E' : Value → Shared → Prop} : wpAny Ym X.A (call (.builtin "len") [.ref a]) (EP X pins σ Q) E' s := by
 obtain ⟨mA, O, _, _, _, _⟩ := ins_get I.hok ea
 obtain ⟨od, J, _⟩ := O.look
 have el : ([Value.ref a] ++ []).length = ps.length := F.len _ _ _ _ h
 refine Calls.call_function_entry kind_len plain_len entry_len (args_len1 _) ?_
 unfold Builtin.«len»
 refine wpAny_bind (m := oneArg "len" _) (wpAny_pure ?_)
 refine wpAny_bind (m := callSpecial? (.ref a) (Str.ofString "__len__")) (PySem.W.special_fn I.kIn J hm.at_ (beq_iff_eq.mp hm.fn) (wpAny_call (codeAny_mono (F.run X.A.in1 X.stack s H ⟨[.ref a], []⟩ [.ref a] [.ref a] _ E hr.in1 hgd I.env0.in1 (hb s [.ref a] I.kIn el) Ybq h) ?_)))
 rintro (er | fl) s' q
 ·exact (hx pins σ H s er s' (I.wish _) q).elim
 ·cases fl with
  | ret u =>
   obtain ⟨v, H', I3, rv, i, ev, h0, h1, q3⟩ := I.after q
   subst ev
   obtain ⟨t, e⟩ := (show ∃ t, u = Value.int i t from rv)
   cases e
   refine wpAny_bind (wpAny_holding (wpAny_pure ?_))
   refine wpAny_bind (wpAny_letGo ?_)
   show wpAny _ _ (if i < 0 then _ else _) _ _ _
   rw [if_neg Yf]
   show wpAny _ _ (if i ≥ 2 ^ 63 then _ else _) _ _ _
   rw [if_neg Yf]
   exact wpAny_bind (wpAny_mkInt (wpAny_pure ⟨_, rfl, V.int i, H', I3.tok _, ⟨_, rfl⟩, q3⟩))
  | next => exact (show False from q).elim
  | brk => exact (show False from q).elim
  | cont => exact (show False from q).elim
def tLenOwn (C : Addr) (sp : Sp) (E : XK) (ta : TE) : TE := fun σ H Q => ta σ H fun x H1 => ∃ a dx fs, x = .ref a ∧ H1 a = some (.ins C dx fs) ∧ sp [.ref a] H1 Yi9 E
theorem pe_lenOwn (he : PE X e ta) (hm : Meth X.K C "__len__" f) (F : FnG X.prog X.w X.K X.mg X.base CX k f fd ps sp) (hr : Room (k + 1) X.A) (hgd : X.A.guards = some []) (hb : Binds X.K fd ps []) (hx : Passes CX X.nox E) (hg : Gl X "len") (hm2 : X.mg "len" = none)
  (na : starEach [e] X.env = (false, eval e X.env) :: starEach [] X.env := by rfl) : PE X (.Call (.Name "len" p) [e] [] pos) (tLenOwn C sp E ta) := ⟨fun pins s σ H Q I h => by
 refine Call_ (ld_blt I hg hm2 boot_len (callWith_builtin1 (args_cons (thn Yeo ?_) na) na rfl))
 rintro v s1 ⟨x, H1, I1, r1, a, dx, fs, rfl, ea, q⟩
 cases r1
 exact args_nil (len_ins I1 ea hm F hr hgd hb hx q)⟩
end
/-- len(o) -/
def mLenOwn (c : Str) (f : OpN) (Fo : M W) : M W := fun eta hp => (Fo eta hp).bind fun o h1 => match insOf h1 o with
 | some (c', _) => if c' = c then (noEr (f [o] h1)).bind fun w h2 => (match w with | .t (.int i) => if 0 ≤ i ∧ i < 4294967296 then .ok w h2 else .bad | _ => .bad) else .bad
 | none => .bad
section
variable {X : Cx} {Wx : WX} {k : Nat} {f C : Addr} {fd : FuncData} {ps : List Str} {m : OpN} {n : Nat} {c : Str} {p pos : Pos} {e : Expr} {Fo : M W}
theorem ie_lenOwn (cn : CN X.K c C) (hm : Meth X.K C "__len__" f) (Fk : FnG X.prog X.w X.K X.mg X.base Yea k f fd ps Yhq) (hr : Room (k + 1) X.A) (hgd : X.A.guards = some []) (hb : Binds X.K fd ps []) (hl : ∀ ws hp, ws.length ≠ n → m ws hp = .bad) (hm2 : X.mg "len" = none) (ho : IE X Wx e Fo)
  (hg : Gl X "len" := by rfl) (na : starEach [e] X.env = (false, eval e X.env) :: starEach [] X.env := by rfl) : IE X Wx (.Call (.Name "len" p) [e] [] pos) (mLenOwn c m Fo) :=
 PE.imp (pe_lenOwn ho hm Fk hr hgd hb (passL (X := X.nox)) hg hm2 na) fun σ H Q h => by
  obtain ⟨s0, eta, e1, R0, S0, g0⟩ := h
  refine ⟨s0, eta, e1, R0, S0, Go.bind g0 fun w v s1 A1 R1 f1 eok g1 => ?_⟩
  clear eok
  split at g1
  ·rename_i c' fs hi
   split at g1
   ·rename_i hc
    subst hc
    obtain ⟨a, C', dx, vs, e, hH, cn', l⟩ := ins_at R1 hi f1
    cases cn.inj cn'
    subst e
    refine ⟨a, dx, vs, rfl, hH, s1, [w], rfl, R1, ⟨.ref a, [], rfl, f1, rfl⟩, ?_, ?_⟩
    ·by_cases q : [w].length = n
     ·exact q
     ·rw [hl _ _ q] at g1; exact g1.elim
    ·cases hq : m [w] s1.hp with
     | ok b h =>
      rw [hq] at g1
      intro v' s' e1 e2 e3 e4
      simp only [noEr, Res.bind] at g1
      split at g1
      ·rename_i i
       split at g1
       ·rename_i hi2
        have ev : v' = .int i := by simpa only [Rw, Rf] using e4
        exact ⟨i, ev, hi2.1, by have := hi2.2; omega, g1 v' s' e1 e2 e3 e4⟩
       ·exact g1.elim
      ·exact g1.elim
     | er _ _ _ => rw [hq] at g1; exact g1.elim
     | bad => rw [hq] at g1; exact g1.elim
   ·exact g1.elim
  ·exact g1.elim
end
end Mir
namespace Mir
open PySem PySem.Spec L2
open PyProof.Rows hiding St
section
variable {P : Program} {w : World} {A : Around} {E : Value → Shared → Prop} {s : Shared}
abbrev hK (P : Program) (w : World) (k : List Key) : Int := tupleKeyHash (mixKind P w) k
abbrev IsK (P : Program) (w : World) (h : Heap) (k : List Key) (a : Addr) : Prop := IsTupleKey (mixKind P w) h k a
/-- an int or a text: no class statement of its own, its hash asked for without a step -/
def Leaf (v : Value) : Prop := (∀ n, ofAClassStatement n v = pure false) ∧ ∃ b, ∀ n, hashByValue n v = pure b
theorem leaf_key {k : Key} {v : Value} (h : keyIs k v = true) : Leaf v := by
 rcases keyIs_shape h with ⟨i, t, _, rfl⟩ | ⟨x, t, _, rfl⟩
 ·exact ⟨fun n => by cases n <;> rfl, true, fun n => by cases n <;> rfl⟩
 ·exact ⟨fun n => by cases n <;> rfl, false, fun n => by cases n <;> rfl⟩
theorem leaves {k : List Key} {vs : List Value} (h : ItemsAre (mixKind P w) k vs) : ∀ v ∈ vs, Leaf v := by
 induction h with
 | nil => intro v hv; cases hv
 | cons h1 _ ih =>
  intro v hv
  rcases List.mem_cons.mp hv with rfl | hv
  ·exact leaf_key h1
  ·exact ih v hv
theorem plain_class {k : List Key} {b : Addr} {Q : Bool → Shared → Prop} (hk : IsK P w s.heap k b) (h : Q false s) : wpAny Yd9 A (ofAClassStatement 8 (.ref b)) Q E s := by
 have ty := hk.typeIs
 obtain ⟨o, its, n, g, _, dat, it⟩ := hk
 have lv := leaves it
 unfold ofAClassStatement
 refine wpAny_bind (wpAny_typeOf ty ?_)
 have e : (("tuple" : String) == "tuple") = true := by decide
 simp only [e, if_true, Bool.not_true, Bool.false_eq_true, if_false]
 show wpAny _ _ (seqItems? (.ref b) >>= _) _ _ s
 refine wpAny_bind (wpAny_seqItems g dat (wpAny_bind ?_))
 show wpAny _ _ (forIn its _ _) _ _ s
 rw [← Array.forIn_toList]
 refine wpAny_forIn_list _ (fun l r z => r.1 = none ∧ z = s ∧ ∀ v ∈ l, Leaf v) _ ?_ ?_ _ _ ⟨rfl, rfl, lv⟩
 ·rintro v l r z ⟨h1, rfl, all⟩
  rw [(all v List.mem_cons_self).1]
  refine wpAny_bind (wpAny_pure ?_)
  simp only [Bool.false_eq_true, if_false]
  exact wpAny_pure ⟨rfl, rfl, fun u hu => all u Ydg⟩
 ·rintro ⟨r1, r2⟩ z ⟨h1, rfl, _⟩
  cases h1
  exact wpAny_pure h
theorem plain_hash {k : List Key} {b : Addr} {Q : Bool → Shared → Prop} (hk : IsK P w s.heap k b) (h : ∀ b, Q b s) : wpAny Yd9 A (hashByValue 8 (.ref b)) Q E s := by
 have ty := hk.typeIs
 obtain ⟨o, its, n, g, _, dat, it⟩ := hk
 have lv := leaves it
 unfold hashByValue
 refine wpAny_bind (wpAny_specialOf ty F.slot_tuple_hash.lookup ?_)
 show wpAny _ _ (seqItems? (.ref b) >>= _) _ _ s
 refine wpAny_bind (wpAny_seqItems g dat (wpAny_bind ?_))
 show wpAny _ _ (forIn its _ _) _ _ s
 rw [← Array.forIn_toList]
 refine wpAny_forIn_list _ (fun l r z => r.1 = none ∧ z = s ∧ ∀ v ∈ l, Leaf v) _ ?_ ?_ _ _ ⟨rfl, rfl, lv⟩
 ·rintro v l r z ⟨h1, rfl, all⟩
  obtain ⟨c, hc⟩ := (all v List.mem_cons_self).2
  rw [hc]
  refine wpAny_bind (wpAny_pure ?_)
  cases c with
  | true =>
   simp only [Bool.not_true, Bool.false_eq_true, if_false]
   exact wpAny_pure ⟨rfl, rfl, fun u hu => all u Ydg⟩
  | false =>
   simp only [Bool.not_false, if_true]
   exact wpAny_pure (wpAny_pure (h false))
 ·rintro ⟨r1, r2⟩ z ⟨h1, rfl, _⟩
  cases h1
  exact wpAny_pure (h true)
/-- looking among such tuples shows nothing of the table -/
theorem unseen {k : List Key} {b : Addr} {Q : Bool → Shared → Prop} (hk : IsK P w s.heap k b) {ys : List Value} (hy : ∀ y ∈ ys, ∃ k' c, y = Value.ref c ∧ IsK P w s.heap k' c) (h : Q false s) :
  wpAny Yd9 A (searchCouldBeSeen (.ref b) ys) Q E s := by
 unfold searchCouldBeSeen
 refine wpAny_bind (wpAny_forIn_list _ (fun l r z => r.1 = none ∧ z = s ∧ ∀ y ∈ l, ∃ k' c, y = Value.ref c ∧ IsK P w s.heap k' c) _ ?_ ?_ _ _ ⟨rfl, rfl, hy⟩)
 ·rintro v l r z ⟨h1, rfl, all⟩
  obtain ⟨k', c, rfl, hc⟩ := all v List.mem_cons_self
  have all' := fun u hu => all u Ydg
  dsimp only
  by_cases q : (b == c || (carriedByValue (.ref b) && carriedByValue (.ref c))) = true
  ·exact wp_if_pos q (wpAny_pure ⟨rfl, rfl, all'⟩)
  ·refine wp_if_neg q (wpAny_bind (wpAny_eqIsQuiet_tuple hk ?_))
   simp only [Bool.not_true, Bool.false_eq_true, if_false]
   refine wpAny_bind (wpAny_eqIsQuiet_tuple hc ?_)
   simp only [Bool.not_true, Bool.false_eq_true, if_false]
   refine wpAny_bind (plain_class hk ?_)
   simp only [Bool.false_eq_true, if_false]
   refine wpAny_bind (plain_class hc ?_)
   simp only [Bool.false_eq_true, if_false]
   exact wpAny_pure ⟨rfl, rfl, all'⟩
 ·rintro ⟨r1, r2⟩ z ⟨h1, rfl, _⟩
  cases h1
  exact wpAny_pure h
/-- at a stands the set of the tuples L, with room to spare -/
structure SetM (P : Program) (w : World) (h : Heap) (a : Addr) (L : List Yeg) (es : Array (Int × Value)) (ep : Nat) (t : SetTable) : Prop where
 ob : ∃ o, h.get? a = some o ∧ o.ExactSet ∧ o.data = .set es ep t
 rows : es.toList = L.map fun p => (hK P w p.2, Value.ref p.1)
 tab : TabOk t (L.map fun p => hK P w p.2)
 nd : (L.map (·.2)).Nodup
 tup : ∀ p ∈ L, IsK P w h p.2 p.1
 m7 : t.mask = 7
 few : L.length ≤ 4
variable {a : Addr} {L : List Yeg} {es : Array (Int × Value)} {ep : Nat} {t : SetTable}
theorem SetM.size (R : SetM P w s.heap a L es ep t) : es.size = L.length := by
 rw [← Array.length_toList, R.rows, List.length_map]
theorem SetM.psize (R : SetM P w s.heap a L es ep t) : t.place.size = L.length := by rw [R.tab.sz, List.length_map]
theorem SetM.fits (R : SetM P w s.heap a L es ep t) : t.fits es.size = true := by
 have h1 := R.psize
 have h2 := R.size
 have h3 := R.few
 unfold SetTable.fits SetTable.fill
 rw [R.tab.dm, Bool.and_eq_true, beq_iff_eq, decide_eq_true_eq, R.m7]
 show t.place.size = es.size ∧ t.place.size + 0 ≤ 7
 omega
theorem SetM.at_ (R : SetM P w s.heap a L es ep t) {i : Nat} {p : Addr × List Key} (h : L[i]? = some p) : es[i]? = some (hK P w p.2, Value.ref p.1) := by
 rw [← Array.getElem?_toList, R.rows, List.getElem?_map, h]
 rfl
theorem nth_dummy {m : Nat} : ∀ (n : Nat) (p : SetTable.Probe), p.dummy = none → (nth m p n).dummy = none
 | 0, _, h => h
 | n + 1, p, h => by
  refine nth_dummy n (adv m p) ?_
  unfold adv
  split <;> exact h
/-- the looking for a tuple, from the c-th place of its way on -/
theorem look (R : SetM P w s.heap a L es ep t) {x : Addr} {k : List Key} (hx : IsK P w s.heap k x) (hu : A.units < cLine) {n : Nat} (hn : n < 10 * SetTable.turns t.mask)
  (free : way t.mask Ybm n ∉ t.place.toList) (full : ∀ c, c < n → way t.mask Ybm c ∈ t.place.toList) {Q : SetFound → Shared → Prop}
  (yes : k ∈ L.map (·.2) → Q (.there none) s) (no : k ∉ L.map (·.2) → Q (.free Yk1 false) s) :
  ∀ (f c : Nat) (stand : Option SetTable.Probe), stand.getD (t.probeStart Ybm) = nth t.mask (runAt t.mask (SetTable.bits Ybm % (t.mask + 1)) (SetTable.bits Ybm)) c → c ≤ n → n - c < f →
   (∀ (i : Nat) p, L[i]? = some p → p.2 = k → ∃ c', c ≤ c' ∧ c' < n ∧ t.place.toList[i]? = some (way t.mask Ybm c')) →
   wpAny Yd9 A (setSearchFrom a (.ref x) Ybm true f stand) Q E s := by
 intro f
 induction f with
 | zero => intro c stand _ _ h; omega
 | succ f ih =>
  intro c stand st hc hf there
  obtain ⟨o, ho, _, hd⟩ := R.ob
  let W0 : SetTable.Probe := runAt t.mask (SetTable.bits Ybm % (t.mask + 1)) (SetTable.bits Ybm)
  have step : ∀ q, nth t.mask (nth t.mask W0 c) q = nth t.mask W0 (c + q) := fun q => (nth_add t.mask c _ q).symm
  have jw : ∀ q, (nth t.mask (nth t.mask W0 c) q).j = way t.mask Ybm (c + q) := fun q => congrArg SetTable.Probe.j (step q)
  have entry : ∀ (i : Nat) p, L[i]? = some p → (es[i]?.map (·.1)).getD 0 = hK P w p.2 := fun i p hp => by rw [R.at_ hp]; rfl
  have gone : ¬ t.gaveWay = true := by
   unfold SetTable.gaveWay
   rw [mask_odd R.tab.mok]
   decide
  rw [setSearchFrom_succ]
  refine wpAny_bind (wpAny_setState_of ho hd R.fits ?_)
  dsimp only
  refine wp_if_neg gone ?_
  rcases go_spec t R.tab.ris R.tab.dm (fun i => (es[i]?.map (·.1)).getD 0) (hK P w k) (10 * SetTable.turns t.mask) (n - c) (nth t.mask W0 c) (nth_dummy c _ rfl) (by omega)
   (fun q hq => by rw [jw]; exact full (c + q) Yf) (by rw [jw, show c + (n - c) = n by omega]; exact free) with ⟨q, i, hq, hi, _, before, pr⟩ | ⟨before, pr⟩
  ·have pr2 : t.probe (fun i => (es[i]?.map (·.1)).getD 0) Ybm (stand.getD (t.probeStart Ybm)) = some (.candidate (way t.mask Ybm (c + q)) i (nth t.mask W0 (c + (q + 1)))) := by
    rw [st, ← jw, ← step]
    exact pr
   rw [pr2]
   dsimp only
   rw [jw] at hi
   have li : i < L.length := by
    have := (List.getElem?_eq_some_iff.mp hi).1
    rw [Array.length_toList, R.psize] at this
    exact this
   obtain ⟨p, hp⟩ : ∃ p, L[i]? = some p := ⟨L[i], List.getElem?_eq_getElem li⟩
   have mp : p ∈ L := List.mem_of_getElem? hp
   have rest : wpAny Yd9 A (searchRest a (.ref x) Ybm true f es t (way t.mask Ybm (c + q)) i (nth t.mask W0 (c + (q + 1)))) Q E s := by
    unfold searchRest
    rw [R.at_ hp]
    dsimp only
    refine wpAny_bind (wpAny_holding (wpAny_eqBool_tuple hu (R.tup p mp) hx ?_))
    refine wpAny_bind (wpAny_setState_of ho hd R.fits ?_)
    dsimp only
    by_cases same : p.2 = k
    ·refine wp_if_pos (by simp [same]) ?_
     exact wpAny_pure (yes (List.mem_map.mpr ⟨p, mp, same⟩))
    ·have live : t.slot (way t.mask Ybm (c + q)) = .live i := slot_live R.tab.ris hi
     refine wp_if_neg (by simp [same]) ?_
     rw [sameMem]
     dsimp only
     simp only [if_true, live, R.at_ hp]
     refine wpAny_bind (wpAny_isSame_ref_self (wpAny_bind (wpAny_pure ?_)))
     simp only [if_true]
     refine wp_if_neg (by simp [same]) ?_
     refine ih (c + (q + 1)) _ rfl Yf Yf fun i0 p0 h0 k0 => ?_
     obtain ⟨c', b1, b2, b3⟩ := there i0 p0 h0 k0
     refine ⟨c', ?_, b2, b3⟩
     rcases Nat.lt_trichotomy c' (c + q) with z | z | z
     ·exact absurd ((entry i0 p0 h0).trans (congrArg (hK P w) k0)) (before (c' - c) i0 Yf (by rw [jw, show c + (c' - c) = c' by omega]; exact b3))
     ·exfalso
      rw [z] at b3
      have e := slot_live R.tab.ris b3
      rw [live] at e
      injection e with e
      rw [← e, hp] at h0
      exact same ((congrArg Prod.snd (Option.some.inj h0)).trans k0)
     ·omega
   by_cases led : t.led = true
   ·exact wp_if_neg (by simp [led]) rest
   ·refine wp_if_pos (by simp [led]) (wpAny_bind (unseen hx (fun y hy => ?_) ?_))
    ·obtain ⟨e, he, rfl⟩ := List.mem_map.mp hy
     have he1 : e ∈ es ∧ e.1 = hK P w k := by simpa using he
     have he2 : e ∈ es.toList := by simpa using he1.1
     rw [R.rows] at he2
     obtain ⟨p2, hp2, rfl⟩ := List.mem_map.mp he2
     exact ⟨p2.2, p2.1, rfl, R.tup p2 hp2⟩
    ·exact wp_if_neg Yct rest
  ·have pr2 : t.probe (fun i => (es[i]?.map (·.1)).getD 0) Ybm (stand.getD (t.probeStart Ybm)) = some (.empty Yk1 none) := by
    have e : way t.mask Ybm n = (nth t.mask (nth t.mask W0 c) (n - c)).j := by rw [jw, show c + (n - c) = n by omega]
    rw [st, e]
    exact pr
   rw [pr2]
   dsimp only
   refine wpAny_pure (no fun hm => ?_)
   obtain ⟨p0, m0, k0⟩ := List.mem_map.mp hm
   obtain ⟨i0, h0⟩ := List.mem_iff_getElem?.mp m0
   obtain ⟨c', b1, b2, b3⟩ := there i0 p0 h0 k0
   exact before (c' - c) i0 Yf (by rw [jw, show c + (c' - c) = c' by omega]; exact b3) ((entry i0 p0 h0).trans (congrArg (hK P w) k0))
theorem look_at (R : SetM P w s.heap a L es ep t) {x : Addr} {k : List Key} (hx : IsK P w s.heap k x) (hu : A.units < cLine) {Q : SetFound → Shared → Prop} (yes : k ∈ L.map (·.2) → Q (.there none) s)
  (no : ∀ n, k ∉ L.map (·.2) → way t.mask Ybm n ∉ t.place.toList → (∀ c, c < n → way t.mask Ybm c ∈ t.place.toList) → Q (.free Yk1 false) s) :
  wpAny Yd9 A (setSearch a (.ref x) Ybm true) Q E s := by
 have few := R.few
 obtain ⟨n, hn, free, full⟩ := R.tab.first (by rw [List.length_map, R.m7]; omega) Ybm
 have big : n < 100000 := by
  have : 10 * SetTable.turns t.mask ≤ 1420 := by
   unfold SetTable.turns
   rw [R.m7]
   decide
  omega
 unfold setSearch
 refine look R hx hu hn free full yes (fun h => no n h free full) 100000 0 none rfl (Nat.zero_le _) Yf fun i p hp e => ?_
 have hi : (L.map fun p => hK P w p.2)[i]? = some Ybm := by rw [List.getElem?_map, hp, ← e]; rfl
 have lt : i < t.place.toList.length := by
  rw [Array.length_toList, R.psize]
  exact (List.getElem?_eq_some_iff.mp hp).1
 obtain ⟨c, hc, e⟩ := R.tab.before free hi (List.getElem?_eq_getElem lt)
 exact ⟨c, Nat.zero_le _, hc, by rw [List.getElem?_eq_getElem lt, e]⟩
end
section
variable {P : Program} {w : World} {A : Around} {E : Value → Shared → Prop} {s : Shared} {a : Addr} {L : List Yeg} {es : Array (Int × Value)} {ep : Nat} {t : SetTable}
theorem isK_but {h h' : Heap} {k : List Key} {b : Addr} {o : Obj} (hb : IsK P w h k b) (ho : h.get? a = some o) (hd : o.data = .set es ep t) (hs : Heap.SameBut a h h') : IsK P w h' k b := by
 obtain ⟨o', its, n, g, c, d, it⟩ := hb
 have ne : b ≠ a := by
  rintro rfl
  rw [ho] at g
  cases g
  rw [hd] at d
  cases d
 exact ⟨o', its, n, (hs.2 b ne).trans g, c, d, it⟩
/-- one more put in -/
theorem add_in (R : SetM P w s.heap a L es ep t) {x : Addr} {k : List Key} (hx : IsK P w s.heap k x) (hu : A.units < cLine) (few : L.length < 4) {Q : Bool → Shared → Prop}
  (hQ : ∀ b h' L' es' ep' t', Heap.SameBut a s.heap h' → SetM P w h' a L' es' ep' t' → (k ∈ L.map (·.2) → L' = L) → (k ∉ L.map (·.2) → L'.Perm ((x, k) :: L)) → Q b { s with heap := h' }) :
  wpAny Yd9 A (setAddHashed a (.ref x) Ybm) Q E s := by
 obtain ⟨o, ho, hex, hd⟩ := R.ob
 unfold setAddHashed
 refine wpAny_holding ?_
 rw [show (100000 : Nat) = 99999 + 1 from rfl, setAddHashedIn_succ]
 refine wpAny_bind (wpAny_setState_of ho hd R.fits ?_)
 dsimp only
 refine wp_if_neg (by simp [byScan, Value.scannable]) ?_
 refine wpAny_bind (look_at R hx hu (fun hm => ?_) fun n hm free full => ?_)
 ·dsimp only
  exact wpAny_pure (hQ false s.heap L es ep t (Heap.SameBut.refl a s.heap) R (fun _ => rfl) fun z => absurd hm z)
 ·dsimp only
  refine wpAny_bind (wpAny_setState_of ho hd R.fits ?_)
  dsimp only
  obtain ⟨q1, _, q3, q4, _, _, _, _, q9⟩ := R.tab.put free full
  generalize hpt : t.put Yk1 = pt at q1 q3 q4 q9 ⊢
  obtain ⟨t1, p⟩ := pt
  dsimp only at q1 q3 q4 q9 ⊢
  subst q1
  generalize hj : SetTable.below t.place Yk1 = j at q3 ⊢
  let L1 := L.take j ++ (x, k) :: L.drop j
  have pm : L1.Perm ((x, k) :: L) := by
   have h : L1.Perm ((x, k) :: (L.take j ++ L.drop j)) := List.perm_middle
   rwa [List.take_append_drop] at h
  have l1 : L1.length = L.length + 1 := pm.length_eq
  have rows1 : (SetTable.insertAt es j (hK P w k, Value.ref x)).toList = L1.map fun p => (hK P w p.2, Value.ref p.1) := by
   rw [SetTable.toList_insertAt, R.rows]
   simp only [L1, List.map_append, List.map_cons, List.map_take, List.map_drop]
  have z1 : (SetTable.insertAt es j (hK P w k, Value.ref x)).size = L.length + 1 := by rw [← Array.length_toList, rows1, List.length_map, l1]
  have tab1 : TabOk t1 (L1.map fun p => hK P w p.2) := by
   have e : L1.map (fun p => hK P w p.2) = (L.map fun p => hK P w p.2).take j ++ hK P w k :: (L.map fun p => hK P w p.2).drop j := by
    simp only [L1, List.map_append, List.map_cons, List.map_take, List.map_drop]
   rw [e]
   exact q3
  have nd1 : (L1.map (·.2)).Nodup := by
   refine (pm.map (·.2)).nodup_iff.mpr ?_
   rw [List.map_cons]
   exact List.nodup_cons.mpr ⟨hm, R.nd⟩
  have fill1 : ¬ (t1.fill * 5 ≥ t1.mask * 3) := by
   rw [q9, q4, R.m7, List.length_map]
   omega
  have go : ∀ t2 : SetTable, t2.place = t1.place → t2.dummies = t1.dummies → t2.mask = t1.mask →
    wpAny Yd9 A (do
     storeSet a Ydw t2
     if !false && t2.tooFull then setRelay a (SetTable.grown (es.size + 1))
     return true) Q E s := fun t2 e1 e2 e3 => by
   refine wpAny_bind (wpAny_storeSet_of ho hd ?_ (by rw [z1, sizeLine_eq]; omega))
   have sb : Heap.SameBut a s.heap (s.heap.update a (Obj.putSet Ydw t2)) := Heap.SameBut.update ..
   have full1 : t2.tooFull = false := by
    unfold SetTable.tooFull
    rw [decide_eq_false_iff_not]
    have : t2.fill = t1.fill := by unfold SetTable.fill; rw [e1, e2]
    rw [this, e3]
    exact fill1
   have done : ∀ b, Q b { s with heap := s.heap.update a (Obj.putSet Ydw t2) } := fun b =>
    hQ b _ L1 _ (ep + 1) t2 sb ⟨⟨_, store_at ho hd, ⟨hex.1, hex.2.1, hex.2.2⟩, rfl⟩, rows1, ⟨by rw [e1]; exact tab1.ris, by rw [e2]; exact tab1.dm, by rw [e1]; exact tab1.sz, by rw [e3]; exact tab1.mok, by rw [e1, e3]; exact tab1.bd, by rw [e1, e3]; exact tab1.reach⟩, nd1, fun p hp => (by
     rcases List.mem_cons.mp (pm.mem_iff.mp hp) with rfl | hp
     ·exact isK_but hx ho hd sb
     ·exact isK_but (R.tup p hp) ho hd sb), by rw [e3, q4, R.m7], by rw [l1]; omega⟩ (fun z => absurd z hm) fun _ => pm
   rw [full1]
   first
    | exact wpAny_pure (done true)
    | exact wpAny_bind (wpAny_pure (wpAny_pure (done true)))
    | (simp only [Bool.not_false, Bool.and_false, Bool.false_eq_true, if_false]; exact wpAny_bind (wpAny_pure (wpAny_pure (done true))))
    | (simp only [Bool.not_false, Bool.and_false, Bool.false_eq_true, if_false]; exact wpAny_pure (done true))
  by_cases pl : t1.plain = true
  ·have br : ∀ b : Bool, wpAny Yd9 A (do
     storeSet a Ydw (if b = true then t1 else { t1 with plain := false })
     if !false && (if b = true then t1 else { t1 with plain := false }).tooFull then setRelay a (SetTable.grown (es.size + 1))
     return true) Q E s := fun b => by
    cases b with
    | true => exact go t1 rfl rfl rfl
    | false => exact go { t1 with plain := false } rfl rfl rfl
   first
    | (refine wpAny_bind ?_; refine wp_if_pos pl ?_; refine plain_hash hx ?_; exact br)
    | (refine wp_if_pos pl (wpAny_bind (plain_hash hx ?_)); exact br)
  ·first
    | (refine wpAny_bind ?_; refine wp_if_neg pl ?_; refine wpAny_pure ?_; exact go t1 rfl rfl rfl)
    | (refine wp_if_neg pl ?_; refine wpAny_bind (wpAny_pure ?_); exact go t1 rfl rfl rfl)
    | (refine wp_if_neg pl ?_; exact go t1 rfl rfl rfl)
end
def memT (k : List Key) (l : List (List Key)) : Bool := l.any fun j => decide (j = k)
theorem memT_iff {k : List Key} {l : List (List Key)} : memT k l = true ↔ k ∈ l := by simp [memT]
def onceT (ks : List (List Key)) : List (List Key) := ks.foldl Yer []
theorem onceT_snoc (ks : List (List Key)) (k : List Key) : onceT (ks ++ [k]) = if memT k (onceT ks) = true then onceT ks else onceT ks ++ [k] := by
 unfold onceT
 rw [List.foldl_append]
 rfl
theorem onceT_le : ∀ (ks acc : List (List Key)), (ks.foldl Yer acc).length ≤ acc.length + ks.length
 | [], acc => by simp
 | k :: r, acc => by
  have h := onceT_le r (if memT k acc = true then acc else acc ++ [k])
  have h2 : (if memT k acc = true then acc else acc ++ [k]).length ≤ acc.length + 1 := by split <;> simp
  simp only [List.foldl_cons, List.length_cons]
  omega
section
variable {X : Cx}
/-- the set behind the first i of the tuples ents -/
structure PhM (P : Program) (w : World) (S n0 : Addr) (ents : List Yeg) (i : Nat) (h : Heap) : Prop where
 tup : ∀ e ∈ ents, IsK P w h e.2 e.1 ∧ e.1 < n0
 st : ∃ L es ep t, SetM P w h S L es ep t ∧ (∀ p ∈ L, p ∈ ents) ∧ (∀ k, k ∈ L.map (·.2) ↔ k ∈ onceT ((ents.map (·.2)).take i)) ∧ L.length = (onceT ((ents.map (·.2)).take i)).length
def tLenSetM (K : PySem.W.Frag) (ta : TE) : TE := fun σ H Q => ta σ H fun x H1 => ∃ (l : Addr) (es : List Yeg), x = .ref l ∧ SqL K H1 l ((es.map (·.1)).map V.ref) ∧ (∀ e ∈ es, SqT K H1 e.1 (e.2.map kV)) ∧ es.length ≤ 4 ∧ Q (.int (((onceT (es.map (·.2))).length : Nat) : Int)) H1
theorem pe_lenSetM {a : Expr} {ta : TE} {p p2 q pos : Pos} (hc : X.calm = true) (hu : X.A.units + 64 < cLine) (hg : Gl X "len") (hm : X.mg "len" = none) (hg2 : Gl X "set") (hm2 : X.mg "set" = none) (ha : PE X a ta)
  (na : starEach [a] X.env = (false, eval a X.env) :: starEach [] X.env := by rfl) : PE X Ybt (tLenSetM X.K ta) := ⟨fun pins s σ H Q I h => by
 refine Call_ (ld_blt I hg hm boot_len (callWith_builtin1 (args_cons (Call_ (ld_blt I hg2 hm2 boot_set (callWith_type1 (args_cons (thn (ha.run pins s σ H _ I h) ?_) na) na rfl))) rfl) rfl rfl))
 rintro v s1 ⟨x, H1, I1, r1, l, es, rfl, hq, ht, hz, q1⟩
 cases r1
 obtain ⟨its, rv, pl, _⟩ := I1.list hq
 have ei := refs_at rv
 subst ei
 have tp : ∀ e ∈ es, IsK X.prog X.w s1.heap e.2 e.1 ∧ e.1 < s1.heap.objs.size := fun e he => by
  obtain ⟨us, ru, tu, _⟩ := I1.tuple (ht e he)
  obtain ⟨o, g, c, n, d⟩ := tu
  exact ⟨⟨o, us.toArray, n, g, c, d, by simpa using items_are ru⟩, Heap.lt_size g⟩
 have hn : ((es.map (·.1)).map Value.ref).toArray.size = es.length := by simp
 refine args_nil (call_setL (items := ((es.map (·.1)).map Value.ref).toArray) (I1.ok.hd hc) pl.isList (PhM X.prog X.w s1.heap.objs.size s1.heap.objs.size es) ?_ ?_ ?_ ?_)
 ·intro led h g k
  refine ⟨fun e he => ?_, [], #[], 0, _, ⟨⟨_, g, ⟨rfl, rfl, rfl⟩, rfl⟩, rfl, ⟨List.Pairwise.nil, rfl, rfl, .inl rfl, fun x hx => (by cases hx), fun i h j hi => (by simp at hi)⟩, List.nodup_nil, fun p hp => (by cases hp), rfl, Nat.zero_le _⟩, fun p hp => (by cases hp), fun k => by simp [onceT], by simp [onceT]⟩
  obtain ⟨⟨o, us, n, g1, c, d, it⟩, lt⟩ := tp e he
  exact ⟨⟨o, us, n, k _ _ g1, c, d, it⟩, lt⟩
 ·rintro i h h' ⟨tup, L, e1, ep, t, R, sub, mem, len⟩ k
  have keep : ∀ e ∈ es, IsK X.prog X.w h' e.2 e.1 := fun e he => by
   obtain ⟨⟨o, us, n, g1, c, d, it⟩, lt⟩ := tup e he
   exact ⟨o, us, n, k _ _ (Nat.ne_of_lt (Nat.lt_succ_of_lt lt)) g1, c, d, it⟩
  obtain ⟨o, ho, r⟩ := R.ob
  exact ⟨fun e he => ⟨keep e he, (tup e he).2⟩, L, e1, ep, t, ⟨⟨o, k _ _ (Nat.ne_of_lt Yjs) ho, r⟩, R.rows, R.tab, R.nd, fun p hp => keep p (sub p hp), R.m7, R.few⟩, sub, mem, len⟩
 ·intro A' i v s2 Q2 E2 hA hAu hv ph k
  have hi : i < es.length := by
   have := (Array.getElem?_eq_some_iff.mp hv).1
   rwa [hn] at this
  obtain ⟨tup, L, e1, ep, t, R, sub, mem, len⟩ := ph
  have ev : v = .ref es[i].1 := by
   have e3 : ((es.map (·.1)).map Value.ref)[i]? = some v := by simpa using hv
   rw [List.getElem?_map, List.getElem?_map, List.getElem?_eq_getElem hi] at e3
   exact (Option.some.inj e3).symm
  subst ev
  have me : es[i] ∈ es := List.getElem_mem hi
  have tk : (es.map (·.2)).take (i + 1) = (es.map (·.2)).take i ++ [es[i].2] := by
   rw [List.take_succ, List.getElem?_map, List.getElem?_eq_getElem hi]
   rfl
  have fw : L.length < 4 := by
   have h1 := onceT_le ((es.map (·.2)).take i) []
   have h2 : ((es.map (·.2)).take i).length ≤ i := by rw [List.length_take]; omega
   rw [len]
   simp only [List.length_nil] at h1
   unfold onceT
   omega
  have hu' : A'.units < cLine := by omega
  unfold setAdd
  refine wpAny_holding (wpAny_bind (wpAny_pyHash_tuple (knd := mixKind X.prog X.w) hu' (tup _ me).1 ?_))
  refine add_in (s := { s2 with toks := s2.toks + (es[i].2.length + 1) }) (L := L) R (tup _ me).1 hu' fw fun b h' L' es' ep' t' sb R' same more => ?_
  have keep : ∀ e ∈ es, IsK X.prog X.w h' e.2 e.1 := fun e he => by
   obtain ⟨o, ho, _, hd⟩ := R.ob
   exact isK_but (tup e he).1 ho hd sb
  refine k b h' _ sb (Nat.le_add_right _ _) ⟨fun e he => ⟨keep e he, (tup e he).2⟩, L', es', ep', t', R', ?_⟩
  by_cases hm : es[i].2 ∈ L.map (·.2)
  ·have eL := same hm
   subst eL
   have hm2 := (mem _).mp hm
   rw [tk, onceT_snoc, if_pos (memT_iff.mpr hm2)]
   exact ⟨sub, mem, len⟩
  ·have pm := more hm
   have hm2 : ¬ es[i].2 ∈ onceT ((es.map (·.2)).take i) := fun z => hm ((mem _).mpr z)
   rw [tk, onceT_snoc, if_neg fun z => hm2 (memT_iff.mp z)]
   refine ⟨fun p hp => ?_, fun kk => ?_, by rw [pm.length_eq, List.length_cons, len, List.length_append]; rfl⟩
   ·rcases List.mem_cons.mp (pm.mem_iff.mp hp) with rfl | hp
    ·exact me
    ·exact sub p hp
   ·rw [(pm.map (·.2)).mem_iff, List.map_cons, List.mem_cons, List.mem_append, List.mem_singleton, mem]
    exact Or.comm
 ·intro h' tk ph k
  have I2 : Inv X pins σ H1 { s1 with heap := h', toks := tk } := I1.kept k
  obtain ⟨_, L, e1, ep, t, R, _, _, len⟩ := ph
  obtain ⟨o, ho, hex, hd⟩ := R.ob
  have sz := SetM.size (s := { s1 with heap := h', toks := tk }) R
  have fw := R.few
  rw [hn] at len
  rw [List.take_of_length_le Yaw] at len
  exact args_nil (call_len_set ho hex hd (SetM.fits (s := { s1 with heap := h', toks := tk }) R) Yf ⟨.int (((onceT (es.map (·.2))).length : Nat) : Int), H1, I2.tok _, ⟨_, by rw [sz, len]⟩, q1⟩)⟩
end
def tupsT : List T → Option (List (List Key))
 | [] => some []
 | .tup xs :: r => match keysT xs, tupsT r with
  | some k, some ks => some (k :: ks)
  | _, _ => none
 | _ => none
/-- len(set(tuples)) -/
def mLenSetT (F : M W) : M W := fun eta hp => (F eta hp).bind fun w h => match w with
 | .t (.lst ts) => match tupsT ts with
  | some ks => if ks.length ≤ 4 then .ok (.t (.int (((onceT ks).length : Nat) : Int))) h else .bad
  | none => .bad
 | _ => .bad
section
variable {X : Cx} {Wx : WX} {a : Expr} {F : M W} {p p2 q pos : Pos}
theorem tups_rf {K : PySem.W.Frag} {fz : Addr → Prop} {H : Hp} : ∀ {ts : List T} {vs : List V} {ks : List (List Key)}, tupsT ts = some ks → RfL K fz H ts vs → ∃ es : List Yeg, vs = (es.map (·.1)).map V.ref ∧ es.map (·.2) = ks ∧ ∀ e ∈ es, SqT K H e.1 (e.2.map kV)
 | [], vs, ks, h, r => by
  simp only [tupsT, Option.some.injEq] at h
  simp only [RfL] at r
  exact ⟨[], r, h, fun e he => by simp at he⟩
 | t :: ts, vs, ks, h, r => by
  unfold tupsT at h
  split at h
  ·rename_i e; cases e
  ·rename_i xs r' e
   cases e
   split at h
   ·rename_i k ks' h1 h2
    cases h
    simp only [RfL, Rf] at r
    obtain ⟨v, r', rfl, ⟨b, us, rfl, ft, l⟩, rr⟩ := r
    obtain ⟨es, e1, e2, e3⟩ := tups_rf h2 rr
    have eu := keys_rf h1 l
    subst eu
    refine ⟨(b, k) :: es, by rw [e1]; rfl, by rw [← e2]; rfl, fun e he => ?_⟩
    rcases List.mem_cons.mp he with rfl | he
    ·exact ft.sq
    ·exact e3 e he
   ·cases h
  ·cases h
theorem ie_lenSetT (hc : X.calm = true) (hu : X.A.units + 64 < cLine) (hm : X.mg "len" = none) (hm2 : X.mg "set" = none) (ha : IE X Wx a F) (hg : Gl X "len" := by rfl) (hg2 : Gl X "set" := by rfl)
  (na : starEach [a] X.env = (false, eval a X.env) :: starEach [] X.env := by rfl) : IE X Wx Ybt (mLenSetT F) :=
 PE.imp (pe_lenSetM hc hu hg hm hg2 hm2 ha na) fun σ H Q h =>
  tM.bind1 (R := fun (x : V) (H1 : Hp) => ∃ (l : Addr) (es : List Yeg), x = .ref l ∧ SqL X.K H1 l ((es.map fun e : Addr × List Key => e.1).map V.ref) ∧ (∀ e ∈ es, SqT X.K H1 e.1 (e.2.map kV)) ∧ es.length ≤ 4 ∧ Q (.int (((onceT (es.map fun e : Addr × List Key => e.2)).length : Nat) : Int)) H1)
   (k := fun (w : W) _ h => match w with | .t (.lst ts) => (match tupsT ts with | some ks => (if ks.length ≤ 4 then .ok (.t (.int (((onceT ks).length : Nat) : Int))) h else .bad : Res W) | none => .bad) | _ => .bad) h fun s eta w v R1 S1 f1 g => by
   split at g
   ·rename_i ts
    split at g
    ·rename_i ks hk
     split at g
     ·rename_i hz
      simp only [Rw, Rf] at f1
      obtain ⟨b, vs, rfl, fl, l⟩ := f1
      obtain ⟨es, e1, e2, e3⟩ := tups_rf hk l
      subst e1
      refine ⟨b, es, rfl, .inl (.inl fl.2), e3, ?_, ?_⟩
      ·rw [← e2, List.length_map] at hz
       exact hz
      ·rw [e2]
       exact g _ s rfl Yl R1 Yk
     ·exact g.elim
    ·exact g.elim
   ·exact g.elim
end
end Mir
namespace Mir
open PySem PySem.Spec L2
open PyProof.Rows hiding St
/-- a tuple or list whose object has no dict -/
def PSq (K : PySem.W.Frag) (fz : Addr → Prop) (H : Hp) : Kd → Addr → List V → Prop
 | .l => fun a xs => SqL K H a xs
 | .t => fun a xs => FTup K fz H a xs
abbrev EntW := Addr × Key × V
section
variable {X : Cx} {pins : List Ya9} {σ : St} {H : Hp} {s : Shared}
theorem plainT (I : Inv X pins σ H s) {fz : Addr → Prop} {a : Addr} {xs : List V} (h : FTup X.K fz H a xs) : ∃ its : List Value, Vals xs its ∧ PlainSeq "tuple" s.heap a its.toArray ∧ xs.length ≤ sizeLine := by
 obtain ⟨its, rv, tp, hz⟩ := I.tuple h.sq
 refine ⟨its, rv, ?_, hz⟩
 obtain ⟨o, ho, hc, n, hd⟩ := tp
 refine ⟨o, n, ho, hc, ?_, hd⟩
 rcases h with ⟨_, ob, hk, hdn⟩ | ⟨ob, _, _, hk, _, hdn, _⟩
 ·obtain ⟨e1, _⟩ := I.hok a _ hk
  rw [ho] at e1
  cases e1
  exact hdn
 ·have e1 := I.kIn a ob hk
  rw [ho] at e1
  cases e1
  exact hdn
theorem plainQ (I : Inv X pins σ H s) {fz : Addr → Prop} {kd : Kd} {a : Addr} {xs : List V} (h : PSq X.K fz H kd a xs) : ∃ its : List Value, Vals xs its ∧ PlainSeq (match kd with | .l => "list" | .t => "tuple") s.heap a its.toArray ∧ xs.length ≤ sizeLine := by
 cases kd with
 | l =>
  obtain ⟨its, rv, ⟨o, n, h1, h2, h3, h4⟩, hz⟩ := I.list h
  exact ⟨its, rv, ⟨o, n, h1, h2, h3, h4⟩, hz⟩
 | t => exact plainT I h
def EntP (K : PySem.W.Frag) (H : Hp) (e : EntW) : Prop := SqT K H e.1 [kV e.2.1, e.2.2]
def rDictP (K : PySem.W.Frag) : List V → Hp → VK → Prop := fun xs H Q => ∃ (fz : Addr → Prop) (kd : Kd) (a : Addr) (es : List EntW), xs = [.ref a] ∧ PSq K fz H kd a ((es.map (·.1)).map V.ref) ∧ (∀ e ∈ es, EntP K H e) ∧
 ∀ p, H p = none → Q (.ref p) (upd H p (.dK (mergeK [] (es.map (·.2)))))
theorem entsP_of (I : Inv X pins σ H s) : ∀ {es : List EntW}, (∀ e ∈ es, EntP X.K H e) →
  ∃ ps : List (Value × Value), Paired Yia es ps ∧ Paired (fun (e : EntW) (p : Value × Value) => PairAt s.heap e.1 p.1 p.2) es ps
 | [], _ => ⟨[], .nil, .nil⟩
 | e :: es, h => by
  obtain ⟨ps, p1, p2⟩ := entsP_of I (es := es) fun x hx => h x Yat
  obtain ⟨its, rv, tp, _⟩ := I.tuple (h e Yv)
  obtain ⟨u, v, ei, ru, ry⟩ := vals2 rv
  subst ei
  refine ⟨(u, v) :: ps, .cons ⟨kV_is (P := X.prog) (w := X.w) ru, ry⟩ p1, .cons ?_ p2⟩
  obtain ⟨o, ho, hc, n, hd⟩ := tp
  exact .inl ⟨o, ho, hc, n, hd⟩
theorem kv_ents : ∀ {es : List EntW} {ps : List (Value × Value)}, Paired Yia es ps → KV (es.map (·.2)) ((es.map (·.2.1)).zip (ps.map (·.2)))
 | _, _, .nil => .nil
 | _, _, .cons h t => .cons ⟨rfl, h.2⟩ (kv_ents t)
theorem call_dictPr {X : Cx} (hc : X.calm = true) : CallR X (.type "dict") (rDictP X.K) := by
 intro pins s σ H xs us Q I r q
 obtain ⟨fz, kd, a, es, rfl, hq, he, q⟩ := q
 obtain ⟨u, rfl, rx⟩ := vals1 r
 cases rx
 obtain ⟨its, rv, pl, hz⟩ := plainQ I hq
 have ei := refs_at rv
 subst ei
 rw [List.length_map, List.length_map] at hz
 obtain ⟨ps, p1, p2⟩ := entsP_of I he
 have hl : es.length = ps.length := Paired.length p1
 let kvs : List (Key × Value) := (es.map (·.2.1)).zip (ps.map (·.2))
 have kl : kvs.length = ps.length := by simp [kvs, hl]
 have items : PairItems s.heap ((es.map (·.1)).map Value.ref).toArray (fun j => (es.map (·.1)).getD j 0) ps := by
  refine ⟨by simp [hl], ?_⟩
  intro j k v hj
  obtain ⟨e, e1, e2⟩ := paired_at p2 hj
  have g : (es.map (·.1)).getD j 0 = e.1 := by simp [List.getD, e1]
  show _ = some (Value.ref ((es.map (·.1)).getD j 0)) ∧ PairAt s.heap ((es.map (·.1)).getD j 0) _ _
  rw [g]
  exact ⟨by simp [e1], e2⟩
 have have_ : PairsHave (mixKind X.prog X.w) ps.length (PairRel ps) kvs := by
  refine ⟨kl, ?_⟩
  intro i key v hi
  have hi : ps[i]? = some (key, v) := hi
  obtain ⟨e, e1, e2⟩ := paired_at p1 hi
  refine ⟨e.2.1, ?_, e2.1⟩
  rw [List.getElem?_zip_eq_some]
  exact ⟨by simp [e1], by simp [hi]⟩
 have fin : ∀ h' tk, h'.DictOf (mixKind X.prog X.w) s.heap.objs.size (merged [] kvs) → (∀ b o, b ∉ ([] : List Addr) → s.heap.get? b = some o → h'.get? b = some o) →
   EP X pins σ Q Ycf { s with heap := h', toks := tk } := fun h' tk hd' k => by
  have kp : ∀ b o, s.heap.get? b = some o → h'.get? b = some o := fun b o e => k b o Yaw e
  have hm : (s.heap.objs.size == sysModules) = false := beq_eq_false_iff_ne.mpr (Nat.ne_of_gt I.big)
  have fr := I.hok.fresh (Nat.le_refl s.heap.objs.size)
  have ml : (mergeK [] (es.map (·.2))).length ≤ sizeLine := by
   refine Nat.le_trans (length_mergeK _ []) ?_
   rw [List.length_nil, Nat.zero_add, List.length_map]
   exact hz
  exact ⟨.ref s.heap.objs.size, upd H s.heap.objs.size (.dK (mergeK [] (es.map (·.2)))), I.laid (t' := tk) kp Ye7 (show ObjOk X.prog X.w _ _ _ (.dK (mergeK [] (es.map (·.2)))) from ⟨ml, hm, merged [] kvs, KV.merge (kv_ents p1) .nil, hd'⟩), rfl, q _ fr⟩
 cases kd with
 | l => exact call_dict_pairs (knd := mixKind X.prog X.w) (kvs := kvs) (PairArg.list a ((es.map (·.1)).map Value.ref).toArray (fun j => (es.map (·.1)).getD j 0) ps) (I.ok.hd hc) ⟨pl, items⟩ have_ (by rw [← hl]; exact hz) fin
 | t => exact call_dict_pairs (knd := mixKind X.prog X.w) (kvs := kvs) (PairArg.tuple a ((es.map (·.1)).map Value.ref).toArray (fun j => (es.map (·.1)).getD j 0) ps) (I.ok.hd hc) ⟨pl, items⟩ have_ (by rw [← hl]; exact hz) fin
end
def entP : T → Option (Key × T)
 | .tup [k, v] => (keyT k).map fun k => (k, v)
 | _ => none
def entsP : List T → Option (List (Key × T))
 | [] => some []
 | t :: r => match entP t, entsP r with
  | some e, some es => some Yam
  | _, _ => none
def sqT2 : W → Option (List T)
 | .t (.tup ts) => some ts
 | .t (.lst ts) => some ts
 | _ => none
/-- dict(pairs): a live dict -/
def oDictP : OpN := fun ws hp => match ws with
 | [x] => match sqT2 x with
  | some ts => match entsP ts with
   | some es => .ok Ydp (hp ++ [some (.dic (zf0 [] (es.map fun e => (e.1, W.t e.2))))])
   | none => .bad
  | none => .bad
 | _ => .bad
/-- d.get(k) -/
def mGet1 (Fd Fk : M W) : M W := fun eta hp => (Fd eta hp).bind fun d h1 => match d with
 | .t (.dic ks ts) => (Fk eta h1).bind fun k h2 => match asK k with
  | some k => .ok ((valW (ks.zip Yw) k).getD Ya0) h2
  | none => .bad
 | _ => .bad
section
variable {K : PySem.W.Frag} {ω : World} {s : S4}
theorem entsP_rf : ∀ {ts : List T} {vs : List V} {es : List (Key × T)}, entsP ts = some es → RfL K s.fz s.H ts vs →
  ∃ fs : List EntW, vs = (fs.map (·.1)).map V.ref ∧ RwK K s (es.map fun e => (e.1, W.t e.2)) (fs.map (·.2)) ∧ ∀ f ∈ fs, EntP K s.H f
 | [], vs, es, h, r => by
  simp only [entsP, Option.some.injEq] at h
  subst h
  simp only [RfL] at r
  exact ⟨[], r, rfl, fun f hf => by simp at hf⟩
 | t :: ts, vs, es, h, r => by
  unfold entsP at h
  split at h
  ·rename_i e es' h1 h2
   cases h
   simp only [RfL] at r
   obtain ⟨v, r', rfl, a, b⟩ := r
   obtain ⟨fs, e1, e2, e3⟩ := entsP_rf h2 b
   unfold entP at h1
   split at h1
   ·rename_i k0 x
    obtain ⟨k, hk, ek⟩ := Option.map_eq_some_iff.mp h1
    subst ek
    simp only [Rf, RfL] at a
    obtain ⟨p, us, rfl, ft, u1, r1, rfl, a1, u2, r2, rfl, x2, rfl⟩ := a
    have ew : [u1] = [k].map kV := keys_rf (ts := [k0]) (vs := [u1]) (ks := [k]) (by simp [keysT, hk]) (by simp only [RfL]; exact ⟨u1, _, rfl, a1, rfl⟩)
    simp only [List.map_cons, List.map_nil, List.cons.injEq, and_true] at ew
    subst ew
    refine ⟨(p, k, u2) :: fs, by rw [e1]; rfl, ⟨u2, _, rfl, x2, e2⟩, fun f hf => ?_⟩
    rcases List.mem_cons.mp hf with rfl | hf
    ·exact ft.sq
    ·exact e3 f hf
   ·cases h1
  ·cases h
theorem psq_of (R : Rel K ω s) {w : W} {v : V} {ts : List T} (h : sqT2 w = some ts) (r : Rw K s w v) : ∃ (kd : Kd) (a : Addr) (vs : List V), v = .ref a ∧ PSq K s.fz s.H kd a vs ∧ RfL K s.fz s.H ts vs := by
 unfold sqT2 at h
 split at h
 ·cases h
  obtain ⟨a, vs, e, t, l⟩ : ∃ a vs, v = .ref a ∧ FTup K s.fz s.H a vs ∧ RfL K s.fz s.H ts vs := by simpa only [Rw, Rf] using r
  exact ⟨.t, a, vs, e, t, l⟩
 ·cases h
  obtain ⟨a, vs, e, t, l⟩ : ∃ a vs, v = .ref a ∧ FLst s.fz s.H a vs ∧ RfL K s.fz s.H ts vs := by simpa only [Rw, Rf] using r
  exact ⟨.l, a, vs, e, t.sq, l⟩
 ·cases h
variable {Wx : WX}
theorem ok_dictP : zgb K ω Wx oDictP (rDictP K) := by
 intro s ws xs Q R r go
 unfold oDictP at go
 split at go
 ·rename_i x
  split at go
  ·rename_i ts ht
   split at go
   ·rename_i es he
    obtain ⟨v, rfl, rx⟩ := RwL.one r
    obtain ⟨kd, a, vs, rfl, q, l⟩ := psq_of R ht rx
    obtain ⟨fs, e1, e2, e3⟩ := entsP_rf he l
    subst e1
    exact ⟨s.fz, kd, a, fs, rfl, q, e3, fun p np => go (.ref p) (s.addL p (.dic (zf0 [] (es.map fun e : Key × T => (e.1, W.t e.2)))) (.dK (mergeK [] (fs.map fun f : EntW => f.2)))) rfl (zen R np) (zff R np ⟨_, rfl, RwK.merge e2 (show RwK K s [] [] from rfl)⟩) (addL_r R)⟩
   ·exact go.elim
  ·exact go.elim
 ·exact go.elim
end
section
variable {X : Cx} {Wx : WX} {o e f : Expr} {Fd Fk Fx : M W} {apos cpos : Pos}
theorem get_v {K : PySem.W.Frag} {s : S4} {ks : List Key} {ts : List T} {vs : List V} (l : RfL K s.fz s.H ts vs) (k : Key) {x : W} {z : V} (rz : Rw K s x z) : Rw K s ((valW (ks.zip Yw) k).getD x) ((valV (ks.zip vs) k).getD z) := by
 have r := RwK.of_zip (ks := ks) l
 cases h : valW (ks.zip (ts.map W.t)) k with
 | none => rw [r.none k h]; exact rz
 | some w => obtain ⟨v, h1, h2⟩ := r.val k h; rw [h1]; exact h2
theorem ie_dget1 (hu : X.A.units + 64 < cLine) (ho : IE X Wx o Fd) (he : IE X Wx e Fk) (m : M1 X o "get" apos e cpos := by exact ⟨rfl, rfl, rfl, rfl⟩) : IE X Wx (.Call (.Attribute o "get" apos) [e] [] cpos) (mGet1 Fd Fk) :=
 PE.imp (pe_dget1 Yf ho he m) fun σ H Q h =>
  tM.bind1 (R := fun (x : V) (H1 : Hp) => ∃ a, x = .ref a ∧ IsD H1 a ∧ tE X.K X.w Wx Fk σ H1 fun y H2 => ∃ o, DGet H2 a y o ∧ Q (o.getD .non) H2)
   (k := fun (d : W) eta h1 => match d with
    | .t (.dic ks ts) => (Fk eta h1).bind fun k h2 => match asK k with
     | some k => .ok ((valW (ks.zip Yw) k).getD Ya0) h2
     | none => .bad
    | _ => .bad) h fun s eta d d' R1 S1 f1 g => by
   split at g
   ·rename_i ks ts
    obtain ⟨a, o, vs, e, e2, _, _, _⟩ := dic_rf f1
    refine ⟨a, e, .inl ⟨_, .inr ⟨o, e2⟩⟩, s, eta, rfl, R1, S1, Go.bind g fun k k' s' A' R' rk _ g' => ?_⟩
    split at g'
    ·rename_i k hk
     obtain ⟨a2, o2, vs2, e3, e4, _, _, l⟩ := dic_rf (f1.aft A' R1)
     cases e.symm.trans e3
     exact ⟨_, .inl ⟨_, k, .inr ⟨o2, e4⟩, asK_eq hk rk, rfl⟩, g' _ s' rfl (Aft.refl s') R' (get_v l k Yk)⟩
    ·exact g'.elim
   ·exact g.elim
end
def rSorted1 (K : PySem.W.Frag) : List V → Hp → VK → Prop := fun vs H Q => ∃ (fz : Addr → Prop) (kd : Kd) (a : Addr) (xs : List V), vs = [V.ref a] ∧ PSq K fz H kd a xs ∧ xs.length ≤ 1 ∧
 ∀ (p : Addr), H p = none → Q (.ref p) (upd H p Yib)
theorem perm_one {A : Type} {l m : List A} (h : l.Perm m) (z : m.length ≤ 1) : l = m := by
 match m, z with
 | [], _ => exact h.eq_nil
 | [a], _ => exact List.perm_singleton.mp h
theorem cr_sorted1 {X : Cx} : CallR X Ydf (rSorted1 X.K) := by
 intro pins s σ H vs us Q J r h
 obtain ⟨fz, kd, a, xs, rfl, hs, h1, q⟩ := h
 rw [Vals.ref1 r]
 have key : ∀ T : String, (T = "list" ∨ T = "tuple") → (∃ its : List Value, Vals xs its ∧ PlainSeq T s.heap a its.toArray ∧ xs.length ≤ sizeLine) → wpAny Ym X.A (call Ydf [.ref a]) (EP X pins σ Q) X.xe s := fun T hT ⟨its, rv, ⟨o, n, ho, hc, _, hd⟩, hz⟩ => by
  have hl : its.length = xs.length := rv.length.symm
  refine MirS.sorted_seqO SrtO.swo_int hT ho hc hd (by rw [hl]; exact hz) (fun h2 => by omega) fun h2 p out ep g1 g2 lp kp hp => ?_
  have e : out = its := perm_one g2.perm Yf
  subst e
  exact ⟨.ref p, upd H p Yib, J.laid (t' := s.toks) kp lp ⟨hz, out, ep, rv, hp⟩, rfl, q _ (J.hok.fresh lp)⟩
 cases kd with
 | l => exact key "list" (.inl rfl) (plainQ (kd := .l) J hs)
 | t => exact key "tuple" (.inr rfl) (plainQ (kd := .t) J hs)
def oSort1 : OpN := fun ws hp => match ws with
 | [x] => match sqT2 x with
  | some ts => if ts.length ≤ 1 then .ok Yas hp else .bad
  | none => .bad
 | _ => .bad
theorem ok_sort1 {K : PySem.W.Frag} {ω : World} {Wx : WX} : zgb K ω Wx oSort1 (rSorted1 K) := by
 intro s ws xs Q R r go
 unfold oSort1 at go
 split at go
 ·rename_i x
  split at go
  ·rename_i ts ht
   split at go
   ·rename_i hz
    obtain ⟨v, rfl, rx⟩ := RwL.one r
    obtain ⟨kd, a, vs, rfl, q, l⟩ := psq_of R ht rx
    exact ⟨s.fz, kd, a, vs, rfl, q, by rw [← RfL.length l]; exact hz, fun p np => go (.ref p) (s.addF p Yjw) rfl (zbe R np) (zbl R np) (zb7 R np l)⟩
   ·exact go.elim
  ·exact go.elim
 ·exact go.elim
end Mir
namespace Mir
open PySem PySem.Spec L2
open PyProof.Rows hiding St
def zd6 (x : Str) (i : Int) : PyData := .tuple [.str x, .int i]
theorem pair_lt {x y : Str} {i j : Int} (h : x ≠ y) : PySem.W.dataLt (zd6 x i) (zd6 y j) = ltCps x.cps.toList y.cps.toList := by
 unfold zd6
 rw [PySem.W.dataLt_tuple, PySem.W.dataLt_all_no (by simp [PySem.W.alike]) (by simp [PyData.eqv, h]), PySem.W.dataLt_str, ltCps_eq]
def prLe (a b : V × PyData) : Bool := PySem.W.dataLe false (fun b : V × PyData => b.2) a b
theorem prLe_eq (a b : V × PyData) : prLe a b = !PySem.W.dataLt b.2 a.2 := rfl
theorem mergeP {a b : V × PyData} (h1 : prLe a b = true) (h2 : prLe b a = false) : [a, b].mergeSort prLe = [a, b] ∧ [b, a].mergeSort prLe = [a, b] := by
 constructor <;> simp [List.mergeSort, List.MergeSort.Internal.splitInTwo, List.merge, h1, h2]
/-- what sorted asks of two pairs -/
def rSortP (K : PySem.W.Frag) : List V → Hp → VK → Prop := fun vs H Q => ∃ (a : Addr) (u v : V) (x y : Str) (i j : Int), vs = [V.ref a] ∧ SqL K H a [u, v] ∧ Dp K H u (zd6 x i) ∧ Dp K H v (zd6 y j) ∧ x ≠ y ∧
 ∀ p : Addr, H p = none → Q (.ref p) (upd H p (.lst Yak))
theorem ltCps_tot {x y : Str} (h : x ≠ y) (g : ¬ ltCps x.cps.toList y.cps.toList = true) : ltCps y.cps.toList x.cps.toList = true := by
 rw [ltCps_eq, decide_eq_true_eq] at g ⊢
 rcases Std.lt_trichotomy x.cps.toList y.cps.toList with a | a | a
 ·exact absurd a g
 ·exact absurd (Str.ext' (Array.toList_inj.mp a)) h
 ·exact a
theorem ltCps_as {x y : Str} (g : ltCps x.cps.toList y.cps.toList = true) : ltCps y.cps.toList x.cps.toList = false := by
 rw [ltCps_eq, decide_eq_true_eq] at g
 rw [ltCps_eq, decide_eq_false_iff_not]
 exact fun z => absurd (List.lt_trans g z) (List.lt_irrefl _)
theorem each_items0 {h : Heap} : ∀ {bs : List (V × PyData)} {us : List Value}, Vals (bs.map (·.1)) us → (∀ b ∈ bs, ∀ u, RelV b.1 u → ∃ as, Reads h u b.2 as) → PySem.W.EachIs Yix us bs
 | [], _, h, _ => by cases h; exact .nil
 | b :: bs, _, h, k => by cases h with | cons a c => exact .cons ⟨a, k b Yv _ a⟩ (each_items0 c fun x hx => k x Yat)
theorem items_each0 {h : Heap} : ∀ {us : List Value} {bs : List (V × PyData)}, PySem.W.EachIs Yix us bs → Vals (bs.map (·.1)) us
 | _, _, .nil => .nil
 | _, _, .cons a b => .cons a.1 (items_each0 b)
theorem cr_sortP {X : Cx} (hu : X.A.units + 64 < cLine) : CallR X Ydf (rSortP X.K) := by
 intro pins s σ H vs us Q I r h
 obtain ⟨a, u, v, x, y, i, j, rfl, hs, d1, d2, ne, q⟩ := h
 obtain rfl := Vals.ref1 r
 obtain ⟨its, rv, hl, hz⟩ := I.list hs
 let bs : List (V × PyData) := [(u, zd6 x i), (v, zd6 y j)]
 have hd : ∀ b ∈ bs, Dp X.K H b.1 b.2 := fun b hb => by
  simp only [bs, List.mem_cons, List.not_mem_nil, or_false] at hb
  rcases hb with rfl | rfl
  ·exact d1
  ·exact d2
 have al : PySem.W.AllAlike (bs.map (·.2)) := fun d hd d' hd' => by
  simp only [bs, List.map_cons, List.map_nil, List.mem_cons, List.not_mem_nil, or_false] at hd hd'
  rcases hd with rfl | rfl <;> rcases hd' with rfl | rfl <;> simp [zd6, PySem.W.alike, PySem.W.alikeAll]
 have so : PySem.W.Sortable (bs.map (·.2)) := .inl fun d hd => by
  simp only [bs, List.map_cons, List.map_nil, List.mem_cons, List.not_mem_nil, or_false] at hd
  rcases hd with rfl | rfl <;> exact ⟨_, _, rfl⟩
 have e0 := each_items0 (h := s.heap) (bs := bs) rv fun b hb u hu => (hd b hb).reads I b.2 b.1 u hu
 have e1 : PySem.W.EachIs Ykc its bs := e0.mono fun _ _ z => z.2
 refine PySem.W.sorted_data (β := V × PyData) (R := fun (v : Value) (b : V × PyData) => RelV b.1 v ∧ ∃ as, Reads s.heap v b.2 as) (enc := fun b => b.2) (bs := bs) hl.isList e0 e1 al so (by simp [bs, sizeLine_eq]) (fun b hb => ?_) fun out hlen er => ?_
 ·have : b.2.depth ≤ 10 := by
   simp only [bs, List.mem_cons, List.not_mem_nil, or_false] at hb
   rcases hb with rfl | rfl <;> simp [zd6, PyData.depth, PyData.depthAll]
  omega
 ·have e : bs.mergeSort (PySem.W.dataLe false fun b : V × PyData => b.2) = if ltCps x.cps.toList y.cps.toList = true then [(u, zd6 x i), (v, zd6 y j)] else [(v, zd6 y j), (u, zd6 x i)] := by
   show bs.mergeSort prLe = _
   split
   ·rename_i c
    exact (mergeP (by rw [prLe_eq, pair_lt (Ne.symm ne), ltCps_as c]; rfl) (by rw [prLe_eq, pair_lt ne, c]; rfl)).1
   ·rename_i c
    have c' := ltCps_tot ne c
    exact (mergeP (by rw [prLe_eq, pair_lt ne, ltCps_as c']; rfl) (by rw [prLe_eq, pair_lt (Ne.symm ne), c']; rfl)).2
  rw [e] at er
  have er2 : Vals Yak out := by
   have z := items_each0 er
   split
   ·rename_i c
    rw [if_pos c] at z
    exact z
   ·rename_i c
    rw [if_neg c] at z
    exact z
  have l2 : (if ltCps x.cps.toList y.cps.toList = true then [u, v] else [v, u]).length = 2 := by split <;> rfl
  have old : ∀ b o, s.heap.get? b = some o → (sortedAll s.heap its out.toArray).get? b = some o := fun b o e => sortedAll_old e
  exact ⟨.ref _, upd H Ybh (.lst Yak), I.laid (t' := s.toks) old (Nat.le_succ _) ⟨by rw [l2, sizeLine_eq]; decide, out, _, er2, (sortedAll_at s.heap its out.toArray).choose_spec⟩, rfl, q _ (I.hok.fresh (Nat.le_succ _))⟩
/-- a pair of a text and an int -/
def siT : T → Option (Str × Int)
 | .tup [.str x, .int i] => some (x, i)
 | _ => none
/-- sorted of at most two pairs -/
def oSortR : OpN := fun ws hp => match ws with
 | [.t (.lst [t, u])] => (match siT t, siT u with
  | some p, some q => if p.1 ≠ q.1 then .ok Yh5 hp else .bad
  | _, _ => .bad)
 | ws => oSort1 ws hp
theorem siT_eq {t : T} {p : Str × Int} (h : siT t = some p) : t = .tup [.str p.1, .int p.2] := by
 unfold siT at h
 split at h
 ·cases h
  rfl
 ·cases h
theorem dat_si (p : Str × Int) : dat (.tup [.str p.1, .int p.2]) = zd6 p.1 p.2 := by simp [dat, datL, zd6]
theorem dp_si {K : PySem.W.Frag} {ω : World} {s : S4} (R : Rel K ω s) {p : Str × Int} {v : V} (r : Rf K s.fz s.H (.tup [.str p.1, .int p.2]) v) : Dp K s.H v (zd6 p.1 p.2) := by
 have := asT_dp (n := 10) (w := .t (.tup [.str p.1, .int p.2])) R rfl r (by simp [fit, fitL])
 rw [dat_si] at this
 exact this
theorem ok_sortR {K : PySem.W.Frag} {ω : World} {Wx : WX} : zgb K ω Wx oSortR (fun xs H Q => rSorted1 K xs H Q ∨ rSortP K xs H Q) := by
 intro s ws xs Q R r go
 unfold oSortR at go
 split at go
 ·rename_i t u
  refine .inr ?_
  split at go
  ·rename_i p q hp hq
   split at go
   ·rename_i ne
    obtain ⟨v, rfl, rv⟩ := RwL.one r
    obtain ⟨a, vs, ev, tt, l⟩ : ∃ a vs, v = .ref a ∧ FLst s.fz s.H a vs ∧ RfL K s.fz s.H [t, u] vs := by simpa only [Rw, Rf] using rv
    subst ev
    obtain ⟨v1, r1, e1, f1, l1⟩ := l
    obtain ⟨v2, r2, e2, f2, l2⟩ := l1
    have : r2 = [] := l2
    subst this e2 e1
    have f1' := f1
    have f2' := f2
    rw [siT_eq hp] at f1'
    rw [siT_eq hq] at f2'
    refine ⟨a, v1, v2, p.1, q.1, p.2, q.2, rfl, tt.sq, dp_si R f1', dp_si R f2', ne, fun z nz => ?_⟩
    split
    ·rename_i c
     rw [if_pos c] at go
     exact go (.ref z) (s.addF z (.lst [v1, v2])) rfl (zbe R nz) (zbl R nz) (zb7 R nz ⟨v1, [v2], rfl, f1, v2, [], rfl, f2, rfl⟩)
    ·rename_i c
     rw [if_neg c] at go
     exact go (.ref z) (s.addF z (.lst [v2, v1])) rfl (zbe R nz) (zbl R nz) (zb7 R nz ⟨v2, [v1], rfl, f2, v1, [], rfl, f1, rfl⟩)
   ·exact go.elim
  ·exact go.elim
 ·exact .inl (ok_sort1 s _ xs Q R r go)
theorem cr_sortR {X : Cx} (hu : X.A.units + 64 < cLine) : CallR X Ydf (fun xs H Q => rSorted1 X.K xs H Q ∨ rSortP X.K xs H Q) := CallR.or cr_sorted1 (cr_sortP hu)
def slL (a : W) (lo hi : Option Int) (hp : IH) : Res W := match ze3 hp a with
 | some ws => .ok Ydp (hp ++ [some (.lst (cutL ws lo hi))])
 | none => .bad
def mSlL (Fa : M W) (Fl Fh : MO) : M W := fun eta hp => (Fa eta hp).bind fun a h1 => (Fl eta h1).bind fun l h2 => (Fh eta h2).bind fun h h3 => slL a l h h3
end Mir
namespace Mir
open PySem PySem.Spec L2
open PyProof.Rows hiding St
end Mir
namespace Mir
open PySem PySem.Spec L2
open PyProof.Rows hiding St
end Mir
namespace Mir
open PySem PySem.Spec L2
open PyProof.Rows hiding St
/-- the lists that live -/
def LiveL (s : S4) (a : Addr) : Prop := ∃ (i : Nat) (ws : List W), getL s.hp i = some ws ∧ s.rho[i]? = some a
section
variable {K : PySem.W.Frag} {ω : World} {s s2 : S4}
theorem LiveL.live {a : Addr} (h : LiveL s a) : Live s a := by
 obtain ⟨i, ws, g, r⟩ := h
 exact ⟨i, _, ⟨zc5 g, True.intro⟩, r⟩
theorem LiveL.H (R : Rel K ω s) {a : Addr} (h : LiveL s a) : ∃ vs, s.H a = some Yjw := by
 obtain ⟨i, ws, g, r⟩ := h
 obtain ⟨vs, e, _⟩ := R.cell i _ a (zc5 g) r
 exact ⟨vs, e⟩
theorem Live.some (R : Rel K ω s) {a : Addr} (h : Live s a) : s.H a ≠ none := by
 obtain ⟨i, c, g, r⟩ := h
 exact R.trk a (List.mem_of_getElem? r)
end
end Mir
namespace Mir
open PySem PySem.Spec L2
open PyProof.Rows hiding St
end Mir
namespace Mir
open PySem PySem.Spec L2
open PyProof.Rows hiding St
section
variable {P : Program} {w : World}
/-- the set of the texts ks at a; its table can be walked -/
def SetS (P : Program) (w : World) (h : Heap) (a : Addr) (ks : List Str) : Prop :=
 ks.Nodup ∧ ∃ D : PySem.Froz.SD, h.get? a = some (PySem.Froz.sObj "set" D) ∧ PySem.Froz.TxOk P w D ks ∧ Ris D.2.2.place.toList ∧ (w.params.followText "set-order" = true ∨ D.2.2.led = true)
theorem SetS.at {h h' : Heap} {a : Addr} {ks : List Str} (z : SetS P w h a ks) (k : ∀ o, h.get? a = some o → h'.get? a = some o) : SetS P w h' a ks := by
 obtain ⟨nd, D, g, r⟩ := z
 exact ⟨nd, D, k _ g, r⟩
theorem setS_new {h : Heap} {a : Addr} (g : h.get? a = some (zdn (!w.params.followText "set-order"))) : SetS P w h a [] := by
 refine ⟨List.nodup_nil, (#[], 0, .fresh 0 0 (!w.params.followText "set-order")), g, PySem.Froz.TxOk.nil rfl, List.Pairwise.nil, ?_⟩
 cases e : w.params.followText "set-order"
 ·exact .inr rfl
 ·exact .inl rfl
theorem addTx_laid {D : PySem.Froz.SD} {x : Value} {hx : Int} (r : Ris D.2.2.place.toList) : Ris (PySem.Froz.addTx hx x D).2.2.place.toList ∧ (PySem.Froz.addTx hx x D).2.2.led = D.2.2.led := by
 obtain ⟨es, ep, t⟩ := D
 have r1 := layNew_ris t es hx x r
 have l1 := layNew_led t es hx x
 unfold PySem.Froz.addTx PySem.Froz.tailTx
 generalize layNew t es hx x = L at r1 l1 ⊢
 have key : ∀ t2 : SetTable, t2 = (if L.2.1.plain = true then { L.2.1 with plain := false } else L.2.1) → Ris t2.place.toList ∧ t2.led = t.led := fun t2 e => by
  subst e
  split
  ·exact ⟨r1, l1⟩
  ·exact ⟨r1, l1⟩
 dsimp only
 generalize e : (if L.2.1.plain = true then { L.2.1 with plain := false } else L.2.1) = t2
 obtain ⟨q1, q2⟩ := key t2 e.symm
 by_cases c : (!L.2.2.1 && t2.tooFull) = true
 ·rw [if_pos c]
  exact ⟨relayAll_ris _ _ _, (relayAll_led _ _ _).trans q2⟩
 ·rw [if_neg c]
  exact ⟨q1, q2⟩
variable {A : Around} {E : Value → Shared → Prop} {s : Shared}
/-- one more text -/
theorem setS_put {a : Addr} {ks : List Str} {k : Str} {u : Tok} {Q : Bool → Shared → Prop} (z : SetS P w s.heap a ks) (hb : ks.length + 1 < scanBound)
  (hQ : ∀ b h', Heap.SameBut a s.heap h' → SetS P w h' a (if k ∈ ks then ks else k :: ks) → Q b { s with heap := h' }) : wpAny Yd9 A (setAddHashed a (.str k u) (hashStr w k)) Q E s := by
 obtain ⟨nd, D, g, T, r, l⟩ := z
 by_cases hk : k ∈ ks
 ·have back := hQ false s.heap (Heap.SameBut.refl a s.heap) (by rw [if_pos hk]; exact ⟨nd, D, g, T, r, l⟩)
  obtain ⟨es, ep, t⟩ := D
  have held : es.size < scanBound := by have : es.size = ks.length := T.sz; omega
  have kis : (strKind P w).is k (.str k u) = true := PySem.Froz.is_str k u
  cases seen : List.findIdx? (fun e => (strKind P w).is k e.2) es.toList with
  | none =>
   obtain ⟨e, he, q⟩ := (T.mem k).mp hk
   have := List.findIdx?_eq_none_iff.mp seen e he
   rw [q] at this
   cases this
  | some j =>
   unfold setAddHashed setAddHashedIn
   refine wpAny_holding (wpAny_bind (wpAny_setState_of g Yjt T.fit ?_))
   dsimp only
   rw [byScan_of rfl held T.el]
   simp only [↓reduceIte]
   unfold setAddByScan
   refine wpAny_bind (wpAny_bind (wpAny_rule (wpAny_bind (wpAny_setScan_of kis g Yjt T.fit T.el ?_))))
   rw [seen]
   exact wpAny_pure (wpAny_pure back)
 ·refine PySem.Froz.add_x g T hk hb ?_
  have q := addTx_laid (D := D) (x := .str k u) (hx := hashStr w k) r
  refine hQ true _ (Heap.SameBut.update _ _ _) ?_
  rw [if_neg hk]
  exact ⟨List.nodup_cons.mpr ⟨hk, nd⟩, _, PySem.Froz.get_upd _ g rfl, PySem.Froz.add_ok u T, q.1, l.imp id fun z => q.2.trans z⟩
theorem perm_of_sub : ∀ {ks L : List Str}, ks.Nodup → (∀ k ∈ ks, k ∈ L) → L.length = ks.length → L.Perm ks
 | [], L, _, _, hl => by rw [List.eq_nil_of_length_eq_zero hl]
 | k :: ks, L, nd, hs, hl => by
  obtain ⟨n1, n2⟩ := List.nodup_cons.mp nd
  have hk := hs k Yv
  have ih := perm_of_sub (ks := ks) (L := L.erase k) n2 (fun x hx => (List.mem_erase_of_ne (fun (e : x = k) => n1 (e ▸ hx))).mpr (hs x Yat)) (by rw [List.length_erase_of_mem hk, hl]; rfl)
  exact (List.perm_cons_erase hk).trans (ih.cons k)
/-- the texts of a set are its members, in some order -/
theorem setS_vals {D : PySem.Froz.SD} {ks : List Str} (nd : ks.Nodup) (T : PySem.Froz.TxOk P w D ks) {vs : List Value} (p : vs.Perm (D.1.toList.map (·.2))) : ∃ ss : List Str, StrsAre vs ss ∧ ss.Perm ks := by
 have each : ∀ v ∈ vs, ∃ k tk, v = Value.str k tk := fun v hv => by
  obtain ⟨e, he, rfl⟩ := List.mem_map.mp (p.mem_iff.mp hv)
  obtain ⟨⟨k, h1, _⟩, _⟩ := T.el e he
  obtain ⟨tk, e2⟩ := Value.isStrOf_shape h1
  exact ⟨k, tk, e2⟩
 let f : Value → Str := fun v => match v with | .str k _ => k | _ => Str.empty
 have all : ∀ l : List Value, (∀ v ∈ l, ∃ k tk, v = Value.str k tk) → StrsAre l (l.map f) := fun l => by
  induction l with
  | nil => intro _; exact .nil
  | cons v l ih =>
   intro hl
   obtain ⟨k, tk, rfl⟩ := hl v Yv
   exact .cons k tk (ih fun u hu => hl u Ydg)
 refine ⟨vs.map f, all vs each, ?_⟩
 have len : (vs.map f).length = ks.length := by
  have : D.1.size = ks.length := T.sz
  rw [List.length_map, p.length_eq, List.length_map, Array.length_toList, this]
 refine perm_of_sub nd (fun k hk => ?_) len
 obtain ⟨e, he, q⟩ := (T.mem k).mp hk
 obtain ⟨tk, e2⟩ := Value.isStrOf_shape q
 exact List.mem_map.mpr ⟨e.2, p.mem_iff.mpr (List.mem_map.mpr ⟨e, he, rfl⟩), by rw [e2]⟩
/-- sorted(S) -/
theorem sorted_setS {a : Addr} {ks : List Str} {Q : Value → Shared → Prop} (z : SetS P w s.heap a ks) (hh : A.handled = none) (h64 : ks.length < 4000)
  (hQ : ∀ s' q (out : Array Value) (c : Nat) (ss : List Str), (∀ b o, s.heap.get? b = some o → s'.heap.get? b = some o) → s'.gens = s.gens → s'.os = s.os → s.heap.objs.size ≤ q →
   s'.heap.get? q = some (seqObj "list" out c) → StrsAre out.toList ss → ss.Perm ks → sortedS ss = true → Q (.ref q) s') : wpAny Yd9 A (call Ydf [.ref a]) Q E s := by
 obtain ⟨nd, D, g, T, r, l⟩ := z
 have hsz : D.1.size = ks.length := T.sz
 refine Calls.call_function_entry kind_sorted plain_sorted entry_sorted (args_sorted1 _) (show wpAny _ _ (checkCount "sorted" 1 1 _ >>= _) _ _ _ from wpAny_bind (wpAny_pure ?_))
 refine wpAny_bind (collect_set (A := A.in1) (t := D.2.2) (es := D.1) (ep := D.2.1) hh ⟨_, g, rfl, rfl⟩ T.fit (by rw [hsz]; simp only [scanBound]; omega) r l fun s1 vs k1 hz g1 o1 pm => ?_)
 obtain ⟨ss, hS, pS⟩ := setS_vals nd T pm
 have lv : vs.length = ks.length := by rw [pm.length_eq, List.length_map, Array.length_toList, hsz]
 have room : vs.length ≤ sizeLine := by rw [lv, sizeLine_eq]; omega
 refine wpAny_bind (wpAny_newList ?_ room)
 have at1 : (s1.heap.push Y2).get? s1.heap.objs.size = some Y2 := Heap.get?_push_size _ rfl
 refine wpAny_bind (wpAny_holding (wpAny_call_entry slot_list_sort ⟨_, at1, rfl⟩ entry_list_sort (list_sort_treeKAny strKind_oneLt at1 hS.keysOf (fun v1 v2 rest e => keyKind_strs (by rw [← e]; exact hS)) room fun st hp hs => ⟨_, rfl, ?_⟩) (args_list_sort _)))
 obtain ⟨ss', b1, b2, b3⟩ := sorted_out_str hS hp hs
 obtain ⟨c, hc⟩ := sortedHeap_at (vs := vs) (out := (arrOf st).map (·.2)) at1
 refine wpAny_pure ⟨_, rfl, hQ _ s1.heap.objs.size _ c ss' (fun b o e => ?_) g1 o1 hz hc b1 (b2.trans pS) b3⟩
 have old := k1 b o e
 have lt := Heap.lt_size old
 show (sortedHeap (s1.heap.push Y2) s1.heap.objs.size vs ((arrOf st).map (·.2))).get? b = some o
 rw [sortedHeap_old (Nat.ne_of_lt lt) (by rw [Heap.size_push]; exact Nat.lt_succ_of_lt lt)]
 exact Heap.get?_push_of_some _ old
end
def addR (acc : List Str) (k : Str) : List Str := if k ∈ acc then acc else k :: acc
/-- each text once -/
def onceR (ks : List Str) : List Str := ks.foldl addR []
theorem onceR_snoc (ks : List Str) (k : Str) : onceR (ks ++ [k]) = addR (onceR ks) k := by simp [onceR, List.foldl_append]
theorem onceR_len : ∀ (ks acc : List Str), (ks.foldl addR acc).length ≤ acc.length + ks.length
 | [], acc => by simp
 | k :: ks, acc => by
  have h := onceR_len ks (addR acc k)
  have h2 : (addR acc k).length ≤ acc.length + 1 := by unfold addR; split <;> simp
  simp only [List.foldl_cons, List.length_cons]
  omega
theorem onceR_le (ks : List Str) : (onceR ks).length ≤ ks.length := by simpa [onceR] using onceR_len ks []
end Mir
namespace Mir
open PySem PySem.Spec L2
open PyProof.Rows hiding St
def SetSO (P : Program) (w : World) (a : Addr) (ks : List Str) : HO := .ext fun h => SetS P w h a ks
theorem setSO_ok {P : Program} {w : World} {H : Hp} {h : Heap} {a : Addr} {ks : List Str} (z : SetS P w h a ks) : ObjOk P w H h a (SetSO P w a ks) := by
 obtain ⟨nd, D, g, r⟩ := z
 exact ⟨⟨nd, D, g, r⟩, ⟨_, g⟩, fun h1 h2 p k => SetS.at p k⟩
section
variable {X : Cx} {pn : List Ya9} {σ : L2.St} {H : Hp} {z : Shared}
theorem setSO_get {a : Addr} {ks : List Str} (J : Inv X pn σ H z) (ha : H a = some (SetSO X.prog X.w a ks)) : SetS X.prog X.w z.heap a ks := (J.hok a _ ha).1
/-- S.add(text) -/
theorem addS_ok {E : Value → Shared → Prop} {D : Addr} {ks : List Str} {k : Str} {u : Tok} {Q : Value → Shared → Prop} (J : Inv X pn σ H z) (hD : H D = some (SetSO X.prog X.w D ks)) (room : ks.length + 1 < scanBound)
  (h : ∀ z', Inv X pn σ (upd H D (SetSO X.prog X.w D (addR ks k))) z' → Q .none z') : wpAny Ym X.A (call (.builtin "set.add") [.ref D, .str k u]) Q E z := by
 have R := setSO_get J hD
 have ty : z.TypeIs (.ref D) "set" := by
  obtain ⟨_, D', g, _⟩ := R
  exact ⟨_, g, rfl⟩
 refine wpAny_call_entry F.slot_set_add ty F.entry_set_add ?_ (F.args_set_add_2 _ _)
 unfold Builtin.«set.add» Builtin.Frozenset.oneOther
 simp only [List.isEmpty_nil, bind_assoc]
 unfold Builtin.Frozenset.addrOf setAdd
 refine wpAny_bind (wpAny_pure ?_)
 try dsimp only
 refine wpAny_bind (wpAny_pure ?_)
 try dsimp only
 refine wpAny_bind (wpAny_holding (wpAny_bind ((strKind X.prog X.w).pyHash (PySem.Froz.is_str k u) ?_)))
 refine setS_put (s := { z with toks := z.toks + 1 }) R room fun b h' sb R' => ?_
 show wpAny _ _ (ret Value.none) _ _ _
 have he : ∃ u, h'.get? D = some u := by
  obtain ⟨_, D', g, _⟩ := R'
  exact ⟨_, g⟩
 exact wpAny_pure ⟨_, rfl, h _ (J.write (e := D) (t' := z.toks + 1) (by rw [hD]; trivial) (.inl rfl) (fun b u hb hu => (sb.2 b hb).trans hu) he (setSO_ok R'))⟩
end
section
variable {X : Cx}
/-- a set comprehension of texts: D the new set -/
def tScS (P : Program) (w : World) (wi : TI) (g : TG) (tt : TT) (te : TE) (vs : List Nat) : TE := fun σ H Q => wi σ H fun J H1 => ∀ D, H1 D = none → ∃ W : Nat → Nat → Hp → Prop, (∃ m, W 0 m (upd H1 D (SetSO P w D []))) ∧ ∀ i m H, W i m H →
 (J.stop i H ∧ Q (.ref D) H) ∨ (J.go i H ∧ ∃ Nx : Hp → Prop, (∀ H', Nx H' → ∃ m', m' < m ∧ W (i + 1) m' H') ∧ ∀ x H', J.yld i H x H' → g x (wipe σ vs) H' fun σ2 H2 => wipe σ2 vs = wipe σ vs ∧ tt σ2 H2 fun b H3 =>
  if b = true then te σ2 H3 fun y H4 => ∃ (c : Str) (ks : List Str), y = .str c ∧ H4 D = some (SetSO P w D ks) ∧ ks.length + 1 < scanBound ∧ Nx (upd H4 D (SetSO P w D (addR ks c))) else Nx H3)
theorem pe_scS {elt tg iter : Expr} {ifs : List Expr} {scope : Scope} {own : List (PySem.Str × Nat)} {pos : Pos} {wi : TI} {g : TG} {tt : TT} {te : TE} (calm : X.calm = true) (nodup : X.N.Nodup) (src : PI X tg iter wi) (blk : BlkOk X.N X.env.scope scope own)
  (hg : ∀ (z : Shared) (H : Hp) (C : Addr) (cl : List (PySem.Str × Addr)) (fp : List Addr), PG Yg7 tg g) (ht : ∀ (z : Shared) (H : Hp) (C : Addr) (cl : List (PySem.Str × Addr)) (fp : List Addr), PTs Yg7 ifs tt)
  (he : ∀ (z : Shared) (H : Hp) (C : Addr) (cl : List (PySem.Str × Addr)) (fp : List Addr), PE Yg7 elt te) (hs : ∀ x, foldedSetIterable iter X.env x = pure x := by intro _; rfl) :
  PE X Ygy (tScS X.prog X.w wi g tt te (own.map (·.2))) := by
 refine ⟨fun pn z0 σ H Q J0 hw => ?_⟩
 rw [PpSet.eval_SetComp]
 have frees : ∀ y ∈ scope.names, y.2 = .free → ∃ c, X.env.cells.lookup y.1 = some c := fun y hy ey => J0.ok.has _ ((blk.free y hy ey).elim .inl .inr)
 refine wpAny_comprehension_free (use := none) rfl hs (closure_ok frees) blk.kind (fun y hy ey => by rw [blk.uniq y hy, ey]) (thn (src.run pn z0 σ H _ J0 hw) fun v1 z1 hv => thn hv fun v2 z2 hv2 => ?_)
 obtain ⟨it, fp, tn, Jt, H2, rfl, J2, T, st2, f2, q⟩ := hv2
 refine PpSet.newSet_ok (newEnv_comp ?_)
 generalize hD : z2.heap.objs.size = D
 have free2 : H2 D = none := J2.hok.fresh (Nat.le_of_eq hD)
 obtain ⟨W, ⟨m0, w0⟩, turn⟩ := q D free2
 let H3 : Hp := upd H2 D (SetSO X.prog X.w D [])
 let z3 : Shared := { z2 with heap := z2.heap.push { cls := .type "set", dict := none, data := .set #[] 0 (.fresh 0 0 (!X.w.params.followText "set-order")) } }
 have new3 : z3.heap.get? D = some (zdn (!X.w.params.followText "set-order")) := by rw [← hD]; exact Heap.get?_push_size _ rfl
 have J3 : Inv X pn σ H3 z3 := J2.laid (t' := z2.toks) (fun b o ey => Heap.get?_push_of_some _ ey) (Nat.le_of_eq hD) (setSO_ok (setS_new new3))
 have low : ∀ b ∈ fp, b < z2.heap.objs.size := fun b hb => let ⟨o, ey, _⟩ := T.obj _ _ st2 b hb; Heap.lt_size ey
 have size3 : z3.heap.objs.size = z2.heap.objs.size + 1 := Heap.size_push ..
 have f3 : ∀ b ∈ fp, FpOk X pn H3 b ∧ b < z3.heap.objs.size := fun b hb => by
  have lt := low b hb
  exact ⟨⟨(upd_ne (by rw [← hD]; exact Nat.ne_of_lt lt)).trans (f2 b hb).1, (f2 b hb).2⟩, by rw [size3]; exact Nat.lt_succ_of_lt lt⟩
 have st3 : tn 0 z3.heap := T.keep _ _ _ st2 fun b _ o ey => Heap.get?_push_of_some _ ey
 have J4 := block_start J3 blk nodup f3
 let cl3 := cellsFrom (z3.heap.objs.size + 1) scope.names (cloFrom X.env.cells scope.names [])
 have pg := hg z3 H3 z3.heap.objs.size cl3 fp
 have pt := ht z3 H3 z3.heap.objs.size cl3 fp
 have pe := he z3 H3 z3.heap.objs.size cl3 fp
 have none3 : ∀ b ∈ fp, H3 b = none := fun b hb => (f3 b hb).1.1
 let Qf : Value → Shared → Prop := EP X pn σ Q
 have leave : ∀ (C : Addr) (s' : Shared) (m : PySem.Str → Option Value) (H' : Hp), Inv X pn σ H' s' → Q (.ref D) H' → s'.heap.Ns C m → FpOk X pn H' C → compPost Ym X.A X.xe none Qf (.ref D) C (.ok .next) s' := fun C s' m H' J' q' hn fo =>
  ⟨m, hn, fun h'' sb => by
   obtain ⟨f0, f1, _, f3, f4, f5⟩ := fo
   exact ⟨.ref D, H', J'.turned (t' := s'.toks) (fun b o hb ey => (sb.2 b hb).trans ey) f0 f1 f3 f4 f5, rfl, q'⟩⟩
 let cev := compEnvC scope cl3 z3.heap.objs.size X.env
 show codeAny _ _ (.compStart Ygy 0 (.ref it) (.ref D) cev) (compPost Ym X.A X.xe none Qf (.ref D) z3.heap.objs.size) { z3 with heap := pushCells (z3.heap.push { cls := .type "dict", data := .dict #[] }) scope.names }
 have at3 : cev.locals = z3.heap.objs.size := rfl
 generalize hce : cev = ce at J4 pg pt pe at3 ⊢
 have hcx : compEnvC scope cl3 z3.heap.objs.size X.env = ce := hce
 rw [hcx] at J4 pg pt pe
 generalize hz4 : ({ z3 with heap := pushCells (z3.heap.push { cls := .type "dict", data := .dict #[] }) scope.names } : Shared) = z4 at J4 ⊢
 have st4 : tn 0 z4.heap := T.keep _ _ _ st3 fun b _ o ey => by rw [← hz4]; exact pushCells_keeps _ _ _ _ (Heap.get?_push_of_some _ ey)
 have still : ∀ {σ' : L2.St} {H' : Hp} {s' : Shared}, Inv Ydz [] σ' H' s' → (∀ b ∈ fp, H' b = none) → ∀ b ∈ fp, FpOk Ydz [] H' b := fun {σ' H' s'} J' hn b hb =>
  ⟨hn b hb, (J'.ok.exf b hb).1, J'.ok.exfs b hb, .inl hb, fun x c ey => (J'.ok.exf b hb).2 x c ey, fun p hp => absurd (show p ∈ ([] : List Ya9) ++ [] from hp) Yaw⟩
 have rounds : codeAny Ym X.A (.compLoop Ygy 0 (.ref it) (.ref D) ce) (compPost Ym X.A X.xe none Qf (.ref D) z3.heap.objs.size) z4 := by
  refine PpSet.compLoopS_any (fun n s' => ∃ i H', Inv Ydz [] (wipe σ (own.map (·.2))) H' s' ∧ tn i s'.heap ∧ (∀ b ∈ fp, H' b = none) ∧ W i n H') (fun n z5 hyp => ?_) m0 ⟨0, H3, J4, st4, none3, w0⟩
  obtain ⟨i, H5, J5, st5, n5, w5⟩ := hyp
  rcases turn i n H5 w5 with ⟨stop, over⟩ | ⟨go, Nx, hNx, step⟩
  ·refine thnF (T.done Ydz rfl rfl rfl calm i [] z5 _ H5 Yiv J5 (still J5 n5) st5 stop) fun r z6 ⟨hr, J6⟩ => ?_
   subst hr
   have J7 : Inv X pn σ H5 z6 := J3.call' (ch := fp) J6.os J6.base J6.hok J6.bare fun b hb => let y := (f3 b hb).1; ⟨y.2.2.2.1, y.2.1, y.2.2.2.2.1, y.2.2.2.2.2⟩
   have gone : H5 z3.heap.objs.size = none := by rw [← at3]; exact J6.free
   obtain ⟨m, hn, _⟩ := J6.loc
   exact leave z3.heap.objs.size z6 m H5 J7 over (by rw [← at3]; exact hn) (J3.fpOk Ye7 gone)
  ·refine thnF (T.item Ydz rfl rfl rfl calm i [] z5 _ H5 Yiv J5 (still J5 n5) st5 go) fun r z6 ⟨u, hr, h6⟩ => ?_
   subst hr
   refine thnF h6 fun _ z7 ⟨x, H7, J7, r7, y7, st7, n7⟩ => ?_
   refine thnF (pg.run _ z7 _ H7 x u _ (J7.pinned (still J7 n7) (T.obj _ _ st7)) r7 (step x H7 y7)) fun _ z8 ⟨σ8, H8, J8, back8, q8⟩ => ?_
   refine thnF (pt.run _ z8 σ8 H8 _ J8 q8) fun b z9 ⟨H9, J9, q9⟩ => ?_
   have close : ∀ {s' : Shared} {H' : Hp}, Inv Ydz ([] ++ pinsAt fp z7.heap) σ8 H' s' → Nx H' → ∃ m, m < n ∧ ∃ i H', Inv Ydz [] (wipe σ (own.map (·.2))) H' s' ∧ tn i s'.heap ∧ (∀ b ∈ fp, H' b = none) ∧ W i m H' := fun {s' H'} J' nx => by
    obtain ⟨m', lt', w'⟩ := hNx H' nx
    have held : ∀ b ∈ fp, ∀ o, z7.heap.get? b = some o → s'.heap.get? b = some o ∧ H' b = none := fun b hb o ey =>
     let y := J'.pin (b, o) (List.mem_append_right _ (List.mem_append_right _ (mem_pinsAt hb ey))); ⟨y.1, y.2.1⟩
    have len8 : (wipe σ (own.map (·.2))).length = σ8.length := by rw [← back8, wipe_length]
    refine ⟨m', lt', i + 1, H', (J'.unpinned (pins := [])).weak len8 (fun j v ey => (wipe_some (by rw [← back8] at ey; exact ey)).1), T.keep _ _ _ st7 fun b hb o ey => (held b hb o ey).1, fun b hb => ?_, w'⟩
    obtain ⟨o, ey, _⟩ := T.obj _ _ st7 b hb
    exact (held b hb o ey).2
   cases b
   ·simp only [Bool.false_eq_true, if_false] at q9 ⊢
    exact close J9 q9
   ·simp only [if_true] at q9 ⊢
    refine thnF (pe.run _ z9 σ8 H9 _ J9 q9) fun v10 z10 ⟨yv, H10, J10, r10, cs, ks, ey, hD10, room10, nx⟩ => ?_
    subst ey
    obtain ⟨tk, rfl⟩ : ∃ tk, v10 = Value.str cs tk := r10
    exact addS_ok (X := X.blk z3 H3 scope ce fp) J10 hD10 room10 fun z11 J11 => close J11 nx
 exact PpSet.codeAny_compStart_set rounds (T.self X.A 0 _ _ _ st4 rounds)
/-- sorted of a set of texts -/
theorem pe_sortedSO {e : Expr} {ta : TE} {p pos : Pos} (hc : X.calm = true) (hg : Gl X "sorted") (hm : X.mg "sorted" = none) (ha : PE X e ta) (na : starEach [e] X.env = (false, eval e X.env) :: starEach [] X.env := by rfl) :
  PE X (.Call (.Name "sorted" p) [e] [] pos) (fun σ H Q => ta σ H fun x H1 => ∃ (D : Addr) (ks : List Str), x = .ref D ∧ H1 D = some (SetSO X.prog X.w D ks) ∧ ks.length < 4000 ∧ ∀ p : Addr, H1 p = none → Q (.ref p) (upd H1 p (.lst ((srtS ks).map V.str)))) := ⟨fun pn z σ H Q I h => by
 refine Call_ (ld_blt I hg hm boot_sorted (callWith_builtin1 (args_cons (thn (ha.run pn z σ H _ I h) ?_) na) na rfl))
 rintro v z1 ⟨x, H1, I1, r1, D, ks, rfl, hD, hz, q1⟩
 cases r1
 refine args_nil (sorted_setS (setSO_get I1 hD) (I1.ok.hd hc) Yf fun s' p out cc ss k g o hp hg hi hs hm => ?_)
 have es : ss = srtS ks := srtS_unique hs hm
 subst es
 have hlen : ((srtS ks).map V.str).length ≤ sizeLine := by rw [List.length_map, (srtS_perm _).length_eq, sizeLine_eq]; omega
 have hnn : H1 p = none := I1.hok.fresh hp
 have J : Inv X pn σ (upd H1 p (.lst ((srtS ks).map V.str))) { z1 with heap := s'.heap, gens := s'.gens, drawn := s'.drawn, toks := s'.toks } :=
  I1.call (ch := []) (Un.laid k hp hnn) (I1.hok.laid k hp ⟨hlen, out.toList, cc, vals_of_strs hi, hg⟩) (by rw [g]; exact I1.bare) (fun _ z => nomatch z)
 have e : s' = { z1 with heap := s'.heap, gens := s'.gens, drawn := s'.drawn, toks := s'.toks } := by
  cases s'
  cases z1
  cases o
  rfl
 rw [e]
 exact ⟨.ref p, _, J, rfl, q1 p hnn⟩⟩
end
end Mir
namespace Mir
open PySem PySem.Spec L2
open PyProof.Rows hiding St
/-- the element, a text -/
def mAsS (E : M W) : M W := fun eta hp => (E eta hp).bind fun w h => match asS w with | some k => .ok (.t (.str k)) h | none => .bad
def finSS (r : List W) (h : IH) : Res W := match allW asS r with | some ks => .ok (.t (.lst ((srtS (onceR ks)).map T.str))) h | none => .bad
/-- sorted({E for target in iter if T}) -/
def mSortSetC (Fi : M (List W)) (G : W → IS → Option IS) (T : M Bool) (E : M W) (us : List Nat) : M W := fun eta hp => (Fi eta hp).bind fun ws h1 => if ws.length < 4000 then (zb3 G T (mAsS E) Ya6 ws h1).bind finSS else .bad
section
variable {X : Cx} {Wx : WX} {elt tg iter : Expr} {Fi : M (List W)} {pos : Pos} {g : TG} {G : W → IS → Option IS} {vs : List Nat} {T : M Bool} {E : M W} {own : List Yh2}
theorem allS_tr : ∀ acc : List Str, allW asS (acc.map Yh6) = some acc
 | [] => rfl
 | k :: acc => by simp only [List.map_cons, allW, allS_tr acc]; rfl
theorem t_scS (us : List Nat) (ok : TgOk X.K X.w g G vs) (hv : ∀ i ∈ vs, i ∈ us) : ∀ σ H Q, tE X.K X.w Wx (mSortSetC Fi G T E us) σ H Q →
  tScS X.prog X.w Yg5 g (tT X.K X.w W0 T) (tE X.K X.w W0 E) us σ H (fun x H1 => ∃ (D : Addr) (ks : List Str), x = .ref D ∧ H1 D = some (SetSO X.prog X.w D ks) ∧ ks.length < 4000 ∧ ∀ p : Addr, H1 p = none → Q (.ref p) (upd H1 p (.lst ((srtS ks).map V.str)))) := fun σ H Q h =>
 tM.bind1 (C := W) (k := fun (ws : List W) (eta : IS) (h1 : IH) => (if ws.length < 4000 then (zb3 G T (mAsS E) Ya6 ws h1).bind finSS else .bad : Res W)) h fun s0 eta ws J R0 S0 src g0 D hD => by
  split at g0
  ·rename_i hz
   have hw : Sl X.K s0 Ya6 Ye8 := S0.wipe us
   refine ⟨fun i m H => m = ws.length - i ∧ i ≤ ws.length ∧ ∃ (s : S4) (acc : List Str), s.H = H ∧ Aft s0 s ∧ Rel X.K X.w s ∧ D ∉ s.rho ∧ ¬ s.fz D ∧ s.H D = some (SetSO X.prog X.w D (onceR acc)) ∧ acc.length ≤ i ∧
     Go X.K X.w Wx (Rw X.K) s0 ((zb3 G T (mAsS E) Ya6 (ws.drop i) s.hp).bind fun r h => finSS (acc.map Yh6 ++ r) h) Q, ⟨ws.length, by simp, Nat.zero_le _, s0.setD D (SetSO X.prog X.w D []), [], rfl, (Aft.refl s0).setD hD, zfh R0 (R0.fresh hD).1 (R0.fresh hD).2, (R0.fresh hD).1, (R0.fresh hD).2, upd_same, Nat.le_refl _, g0⟩, ?_⟩
   rintro i m H ⟨rfl, hi, s, acc, rfl, A1, R1, nr, nf, hDx, hl1, g1⟩
   obtain ⟨q1, q2⟩ := src s A1 R1 i
   by_cases hlt : i < ws.length
   ·obtain ⟨go, yl⟩ := q1 ws[i] (List.getElem?_eq_getElem hlt)
    refine .inr ⟨go, fun H' => i + 1 ≤ ws.length ∧ ∃ (s : S4) (acc : List Str), s.H = H' ∧ Aft s0 s ∧ Rel X.K X.w s ∧ D ∉ s.rho ∧ ¬ s.fz D ∧ s.H D = some (SetSO X.prog X.w D (onceR acc)) ∧ acc.length ≤ i + 1 ∧
     Go X.K X.w Wx (Rw X.K) s0 ((zb3 G T (mAsS E) Ya6 Yeu s.hp).bind fun r h => finSS (acc.map Yh6 ++ r) h) Q, fun H' n => ⟨ws.length - (i + 1), by omega, rfl, n⟩, fun x H' y => ?_⟩
    obtain ⟨s3, e3, hp3, A3, R3, rw3⟩ := yl x H' y
    subst e3
    obtain ⟨hD3, nr3, nf3⟩ := A3.away hDx nr nf
    have A03 := A1.trans A3
    rw [List.drop_eq_getElem_cons hlt] at g1
    rw [← hp3] at g1
    simp only [zb3, Res.bind_assoc, turnL] at g1
    cases hG : G ws[i] (zbp eta us) with
    | none => simp only [hG, noEr] at g1; exact g1.elim
    | some eta1 =>
     simp only [hG, zd2, Res.bind_assoc] at g1
     obtain ⟨σ2, S2, w2, q4⟩ := ok.run s3 ws[i] x Ya6 Ye8 eta1 R3 rw3 ((hw.aft A03 R0)) hG
     refine q4 _ ⟨(w2 us hv).trans wipe_twice, s3, eta1, rfl, R3, S2, Go.noEr (Go.bind0 g1 A03 fun b bv s4 A4 R4 f4 g4 => ?_)⟩
     subst f4
     obtain ⟨hD4, nr4, nf4⟩ := A4.away hD3 nr3 nf3
     have A04 := A03.trans A4
     cases b with
     | false =>
      simp only [Bool.false_eq_true, if_false, noEr, Res.bind] at g4
      rw [if_neg Bool.false_ne_true]
      exact ⟨hlt, s4, acc, rfl, A04, R4, nr4, nf4, hD4, by omega, g4⟩
     | true =>
      simp only [if_true, mAsS, zd2, Res.bind_assoc] at g4
      rw [if_pos rfl]
      refine ⟨s4, eta1, rfl, R4, S2.aft A4 R3, Go.noEr (Go.bind0 g4 A04 fun yw yv s5 A5 R5 f5 g5 => ?_)⟩
      obtain ⟨hD5, nr5, nf5⟩ := A5.away hD4 nr4 nf4
      have A05 := A04.trans A5
      cases hk : asS yw with
      | none => rw [hk] at g5; simp only [noEr, Res.bind] at g5; exact g5.elim
      | some k =>
       rw [hk] at g5
       have ev : yv = .str k := by
        have := allS_eq (K := X.K) (s := s5) (ws := [yw]) (ns := [k]) (by simp [allW, hk]) (vs := [yv]) ⟨yv, [], rfl, f5, rfl⟩
        simpa using this
       have lz := onceR_le acc
       refine ⟨k, onceR acc, ev, hD5, by simp only [scanBound]; omega, hlt, s5.setD D (SetSO X.prog X.w D (addR (onceR acc) k)), acc ++ [k], rfl, A05.setD hD, zfh R5 nr5 nf5, nr5, nf5, by rw [onceR_snoc]; exact upd_same, by simp; omega, ?_⟩
       simp only [noEr, Res.bind] at g5
       have e : ∀ (r : Res (List W)), (r.bind fun r h2 => (Res.ok (W.t (.str k) :: r) h2).bind fun r h => finSS (acc.map Yh6 ++ r) h) = (r.bind fun r h => finSS ((acc ++ [k]).map Yh6 ++ r) h) := fun r => by cases r <;> simp [Res.bind]
       have e2 := e (zb3 G T (mAsS E) Ya6 Yeu s5.hp)
       exact e2 ▸ g5
   ·have e : i = ws.length := by omega
    subst e
    refine .inl ⟨q2 rfl, D, onceR acc, rfl, hDx, by have := onceR_le acc; omega, fun p np => ?_⟩
    rw [List.drop_length] at g1
    have al := allS_tr acc
    simp only [zb3, Res.bind, List.append_nil, finSS, al] at g1
    exact g1 (.ref p) (s.addF p (.lst ((srtS (onceR acc)).map V.str))) rfl (A1.trans (zbe R1 np)) (zbl R1 np) (zb7 R1 np (strs_rf _))
  ·exact g0.elim
theorem ie_sortSetC {p : Pos} {q : Pos} {scope : Scope} {ifs : List Expr} (hc : X.calm = true) (hN : X.N.Nodup) (hm : X.mg "sorted" = none) (hi : II X Wx tg iter Fi) (ok : BlkOk X.N X.env.scope scope own)
  (hg : ∀ (s : Shared) (H : Hp) (C : Addr) (cl : List (Str × Addr)) (fp : List Addr), PG Yc tg g) (tok : TgOk X.K X.w g G vs)
  (ht : ∀ (s : Shared) (H : Hp) (C : Addr) (cl : List (Str × Addr)) (fp : List Addr), ITs Yc ifs T)
  (he : ∀ (s : Shared) (H : Hp) (C : Addr) (cl : List (Str × Addr)) (fp : List Addr), IE Yc W0 elt E) (hv : ∀ i ∈ vs, i ∈ own.map (·.2) := by decide) (hG : Gl X "sorted" := by rfl) (hs : ∀ x, foldedSetIterable iter X.env x = pure x := by intro _; rfl)
  (na : starEach [Expr.SetComp elt [⟨tg, iter, ifs, 0⟩] scope q] X.env = (false, eval (Expr.SetComp elt [⟨tg, iter, ifs, 0⟩] scope q) X.env) :: starEach [] X.env := by rfl) :
  IE X Wx (.Call (.Name "sorted" p) [.SetComp elt [⟨tg, iter, ifs, 0⟩] scope q] [] pos) (mSortSetC Fi G T E (own.map (·.2))) :=
 PE.imp (pe_sortedSO hc hG hm (pe_scS (tt := tT X.K X.w W0 T) (te := tE X.K X.w W0 E) hc hN hi ok hg ht he hs) na) (t_scS _ tok hv)
end
end Mir
namespace Mir
open PySem PySem.Spec L2
open PyProof.Rows hiding St
abbrev bare (kvs : List Yfg) : List Yii := kvs.map fun p => (Str.empty, p.2)
section
variable {K : PySem.W.Frag} {ω : World}
theorem RwK.bare {s : S4} : ∀ {ks : List (Key × W)} {vs : List (Key × V)}, RwK K s ks vs → RwF K s (bare ks) (vs.map fun p => (Str.empty, p.2))
 | [], _, h => by rw [show _ = [] from h]; rfl
 | x :: ks, vs, h => by
  obtain ⟨v, r, rfl, a, b⟩ := h
  exact ⟨v, _, rfl, a, RwK.bare b⟩
theorem RwK.keys {s : S4} : ∀ {ks : List (Key × W)} {vs : List (Key × V)}, RwK K s ks vs → ks.map (·.1) = vs.map (·.1)
 | [], _, h => by rw [show _ = [] from h]; rfl
 | x :: ks, vs, h => by
  obtain ⟨v, r, rfl, a, b⟩ := h
  simp only [List.map_cons, RwK.keys b]
end
end Mir
namespace Mir
open PySem PySem.Spec L2
open PyProof.Rows hiding St
end Mir
namespace Mir
open PySem PySem.Spec L2
open PyProof.Rows hiding St
section
variable {K : PySem.W.Frag} {fz : Addr → Prop} {H : Hp} {P : Program} {w : World} {h : Heap}
mutual
theorem nk_is (ok : HOk P w H h) (kin : K.In h) : ∀ (t : T) (k : NestedKey) (v : V) (u : Value), nkT t = some k → Rf K fz H t v → RelV v u → NestedIs h k u
 | .non, k, v, u, e, r, q => by
  simp only [nkT, Option.some.injEq] at e
  simp only [Rf] at r
  subst e r
  obtain rfl : u = Value.none := q
  exact .none
 | .bl b, k, v, u, e, r, q => by
  simp only [nkT, Option.some.injEq] at e
  simp only [Rf] at r
  subst e r
  obtain rfl : u = Value.bool b := q
  exact .bool rfl
 | .int i, k, v, u, e, r, q => by
  simp only [nkT, Option.some.injEq] at e
  simp only [Rf] at r
  subst e r
  obtain ⟨t, rfl⟩ : ∃ t, u = Value.int i t := q
  exact .int _ _
 | .str i, k, v, u, e, r, q => by
  simp only [nkT, Option.some.injEq] at e
  simp only [Rf] at r
  subst e r
  obtain ⟨t, rfl⟩ : ∃ t, u = Value.str i t := q
  exact .text _ _
 | .tup xs, k, v, u, e, r, q => by
  simp only [nkT, Option.map_eq_some_iff] at e
  obtain ⟨ks, e, rfl⟩ := e
  simp only [Rf] at r
  obtain ⟨a, vs, rfl, t, l⟩ := r
  obtain rfl : u = Value.ref a := q
  rcases t with ⟨_, o, t, d⟩ | ⟨o, its, n, t1, t2, t3, t4, t5, t6⟩
  ·obtain ⟨g, _, its, rl, o', g', c, n, dd⟩ := ok a _ t
   rw [g] at g'
   cases g'
   exact .tup g c dd (by simpa using nk_all ok kin xs ks vs its e l rl)
  ·exact .tup (kin a o t1) t2 t4 (nk_all ok kin xs ks vs its.toList e l t6)
 | .ty _, _, _, _, e, _, _ => by simp [nkT] at e
 | .lst _, _, _, _, e, _, _ => by simp [nkT] at e
 | .scr _, _, _, _, e, _, _ => by simp [nkT] at e
 | .pr _, _, _, _, e, _, _ => by simp [nkT] at e
 | .dic _ _, _, _, _, e, _, _ => by simp [nkT] at e
 | .ins _ _ _, _, _, _, e, _, _ => by simp [nkT] at e
 | .cls _, _, _, _, e, _, _ => by simp [nkT] at e
 | .dit _ _, _, _, _, e, _, _ => by simp [nkT] at e
 | .exc _ _ _, _, _, _, e, _, _ => by simp [nkT] at e
theorem nk_all (ok : HOk P w H h) (kin : K.In h) : ∀ (ts : List T) (ks : List NestedKey) (vs : List V) (us : List Value), nkTL ts = some ks → RfL K fz H ts vs → Vals vs us → NestedAll h ks us
 | [], ks, vs, us, e, r, q => by
  simp only [nkTL, Option.some.injEq] at e
  simp only [RfL] at r
  subst e r
  cases q
  exact .nil
 | x :: xs, ks, vs, us, e, r, q => by
  simp only [nkTL] at e
  split at e
  ·rename_i k ks' e1 e2
   simp only [Option.some.injEq] at e
   subst e
   simp only [RfL] at r
   obtain ⟨v, r', rfl, a, b⟩ := r
   cases q with
   | cons q1 q2 => exact .cons (nk_is ok kin x k v _ e1 a q1) (nk_all ok kin xs ks' r' _ e2 b q2)
  ·cases e
end
end
def getT (hp : IH) (i : Nat) : Option (List (T × W)) := match hp[i]? with
 | some (some (.dit kvs)) => some kvs
 | _ => none
def valT (kvs : List (T × W)) (k : NestedKey) : Option W := (kvs.find? fun kv => decide (nkT kv.1 = some k)).map (·.2)
def putT (kvs : List (T × W)) (t : T) (k : NestedKey) (w : W) : List (T × W) :=
 if (kvs.any fun kv => decide (nkT kv.1 = some k)) = true then kvs.map (fun kv => if nkT kv.1 = some k then (kv.1, w) else kv) else kvs ++ [(t, w)]
/-- a tuple as a key -/
def asNk : W → Option (T × NestedKey)
 | .t (.tup xs) => match nkT (.tup xs) with
  | some k => if k.depth ≤ 8 then some (.tup xs, k) else none
  | none => none
 | _ => none
theorem getT_eq {hp : IH} {i : Nat} {ws : List (T × W)} (h : getT hp i = some ws) : hp[i]? = some (some (.dit ws)) := by
 unfold getT at h
 split at h
 ·rename_i kvs e
  simp only [Option.some.injEq] at h
  rw [e, h]
 ·cases h
theorem asNk_eq {w : W} {t : T} {k : NestedKey} (h : asNk w = some (t, k)) : w = .t t ∧ nkT t = some k ∧ k.depth ≤ 8 ∧ ∃ xs, t = .tup xs := by
 unfold asNk at h
 split at h
 ·rename_i xs
  split at h
  ·rename_i k' e
   split at h
   ·cases h
    exact ⟨rfl, e, ‹_›, _, rfl⟩
   ·cases h
  ·cases h
 ·cases h
/-- what the entries hold at a key -/
def valN (xs : List Ys) (k : NestedKey) : Option V := (xs.find? fun x => decide (x.1 = k)).map (·.2.2)
def putN (xs : List Ys) (k : NestedKey) (a : Addr) (v : V) : List Ys :=
 if (xs.find? fun x => decide (x.1 = k)).isSome = true then xs.map (fun x => if x.1 = k then (x.1, x.2.1, v) else x) else xs ++ [(k, a, v)]
section
variable {K : PySem.W.Frag} {ω : World} {s : S4}
theorem RwD.length : ∀ {ws : List (T × W)} {vs : List (NestedKey × Addr × V)}, RwD K s ws vs → ws.length = vs.length
 | [], _, r => by rw [show _ = [] from r]; rfl
 | x :: ws, _, r => by
  obtain ⟨k, b, v, r', rfl, _, _, _, _, h⟩ := r
  simp [RwD.length h]
theorem RwD.val (k : NestedKey) : ∀ {ws : List (T × W)} {vs : List (NestedKey × Addr × V)} {w : W}, RwD K s ws vs → valT ws k = some w → ∃ v, valN vs k = some v ∧ Rw K s w v
 | [], _, _, _, h => by simp [valT] at h
 | x :: ws, _, w, r, h => by
  obtain ⟨k', b, v, r', rfl, h1, h2, h3, h4, h5⟩ := r
  by_cases q : k' = k
  ·subst q
   have : x.2 = w := by simpa [valT, List.find?_cons, h1] using h
   exact ⟨v, by simp [valN, List.find?_cons], this ▸ h4⟩
  ·have h' : valT ws k = some w := by simpa [valT, List.find?_cons, h1, q] using h
   obtain ⟨u, e1, e2⟩ := RwD.val k h5 h'
   exact ⟨u, by simpa [valN, List.find?_cons, q] using e1, e2⟩
theorem RwD.no (k : NestedKey) : ∀ {ws : List (T × W)} {vs : List (NestedKey × Addr × V)}, RwD K s ws vs → valT ws k = none → valN vs k = none
 | [], _, r, _ => by rw [show _ = [] from r]; rfl
 | x :: ws, _, r, h => by
  obtain ⟨k', b, v, r', rfl, h1, h2, h3, h4, h5⟩ := r
  by_cases q : k' = k
  ·subst q
   simp [valT, List.find?_cons, h1] at h
  ·have h' : valT ws k = none := by simpa [valT, List.find?_cons, h1, q] using h
   have := RwD.no k h5 h'
   simpa [valN, List.find?_cons, q] using this
theorem RwD.any (k : NestedKey) : ∀ {ws : List (T × W)} {vs : List (NestedKey × Addr × V)}, RwD K s ws vs → (ws.any fun kv => decide (nkT kv.1 = some k)) = (vs.find? fun x => decide (x.1 = k)).isSome
 | [], _, r => by rw [show _ = [] from r]; rfl
 | x :: ws, _, r => by
  obtain ⟨k', b, v, r', rfl, h1, h2, h3, h4, h5⟩ := r
  by_cases q : k' = k
  ·subst q
   simp [h1, List.find?_cons]
  ·simp [h1, List.find?_cons, q, RwD.any k h5]
theorem RwD.mapPut (k : NestedKey) {w : W} {v : V} (rw_ : Rw K s w v) : ∀ {ws : List (T × W)} {vs : List (NestedKey × Addr × V)}, RwD K s ws vs → RwD K s (ws.map fun kv => if nkT kv.1 = some k then (kv.1, w) else kv) (vs.map fun x => if x.1 = k then (x.1, x.2.1, v) else x)
 | [], _, r => by rw [show _ = [] from r]; rfl
 | x :: ws, _, r => by
  obtain ⟨k', b, u, r', rfl, h1, h2, h3, h4, h5⟩ := r
  have ih := RwD.mapPut k rw_ h5
  simp only [List.map_cons, h1, Option.some.injEq]
  by_cases q : k' = k
  ·rw [if_pos q, if_pos q]
   exact ⟨k', b, v, _, rfl, h1, h2, h3, rw_, ih⟩
  ·rw [if_neg q, if_neg q]
   exact ⟨k', b, u, _, rfl, h1, h2, h3, h4, ih⟩
theorem RwD.snoc {t : T} {k : NestedKey} {b : Addr} {w : W} {v : V} (h1 : nkT t = some k) (h2 : k.depth ≤ 8) (h3 : Rf K s.fz s.H t (.ref b)) (h4 : Rw K s w v) : ∀ {ws : List (T × W)} {vs : List (NestedKey × Addr × V)}, RwD K s ws vs → RwD K s (ws ++ [(t, w)]) (vs ++ [(k, b, v)])
 | [], _, r => by
  rw [show _ = [] from r]
  exact ⟨k, b, v, [], rfl, h1, h2, h3, h4, rfl⟩
 | x :: ws, _, r => by
  obtain ⟨k', b', u, r', rfl, g1, g2, g3, g4, g5⟩ := r
  exact ⟨k', b', u, _, rfl, g1, g2, g3, g4, RwD.snoc h1 h2 h3 h4 g5⟩
theorem RwD.put {t : T} {k : NestedKey} {b : Addr} {w : W} {v : V} (h1 : nkT t = some k) (h2 : k.depth ≤ 8) (h3 : Rf K s.fz s.H t (.ref b)) (h4 : Rw K s w v) {ws : List (T × W)} {vs : List Ys} (r : RwD K s ws vs) : RwD K s (putT ws t k w) (putN vs k b v) := by
 unfold putT putN
 rw [r.any k]
 split
 ·exact r.mapPut k h4
 ·exact r.snoc h1 h2 h3 h4
/-- where a live dict lies -/
theorem Rel.dit (R : Rel K ω s) {i : Nat} {v : V} {ws : List (T × W)} (g : getT s.hp i = some ws) (r : Rw K s (.r i) v) : ∃ a xs, v = .ref a ∧ s.rho[i]? = some a ∧ s.H a = some (DitO ω a xs) ∧ RwD K s ws xs ∧ ¬ s.fz a := by
 obtain ⟨a, e1, e2⟩ := r
 obtain ⟨xs, h1, h2⟩ := R.cell i _ a (getT_eq g) e1
 exact ⟨a, xs, e2, e1, h1, h2, R.fz a ⟨i, _, ⟨getT_eq g, True.intro⟩, e1⟩⟩
end
abbrev RelN : List Ys → List Ybn → Prop := Paired fun (p : NestedKey × Addr × V) (q : NestedKey × Addr × Value) => p.1 = q.1 ∧ p.2.1 = q.2.1 ∧ RelV p.2.2 q.2.2
theorem RelN.len {xs : List Ys} {ys : List Ybn} (r : RelN xs ys) : xs.length = ys.length := Paired.length r
theorem RelN.val (k : NestedKey) {xs : List Ys} {ys : List Ybn} (r : RelN xs ys) : RelO (valN xs k) ((atKey ys k).map (·.2)) := by
 induction r with
 | nil => exact True.intro
 | @cons p q ps qs h t ih =>
  obtain ⟨h1, h2, h3⟩ := h
  by_cases e : q.1 = k
  ·have e' : p.1 = k := h1.trans e
   simp only [valN, atKey, List.find?_cons, e, e', decide_true, Option.map_some]
   exact h3
  ·have e' : ¬ p.1 = k := fun z => e (h1 ▸ z)
   simp only [valN, atKey, List.find?_cons, e, e', decide_false]
   exact ih
theorem RelN.mapPut (k : NestedKey) {v : V} {u : Value} (rv : RelV v u) {xs : List Ys} {ys : List Ybn} (r : RelN xs ys) : RelN (xs.map fun x => if x.1 = k then (x.1, x.2.1, v) else x) (ys.map (putAt k u)) := by
 induction r with
 | nil => exact .nil
 | @cons p q ps qs h t ih =>
  obtain ⟨h1, h2, h3⟩ := h
  simp only [List.map_cons]
  refine .cons ?_ ih
  unfold putAt
  by_cases e : q.1 = k
  ·rw [if_pos e, if_pos (h1.trans e)]
   exact ⟨h1, h2, rv⟩
  ·rw [if_neg e, if_neg (fun z => e (h1 ▸ z))]
   exact ⟨h1, h2, h3⟩
theorem RelN.snoc {k : NestedKey} {a : Addr} {v : V} {u : Value} (rv : RelV v u) {xs : List Ys} {ys : List Ybn} (r : RelN xs ys) : RelN (xs ++ [(k, a, v)]) (ys ++ [(k, a, u)]) := by
 induction r with
 | nil => exact .cons ⟨rfl, rfl, rv⟩ .nil
 | cons h t ih => exact .cons h ih
theorem RelN.some (k : NestedKey) {xs : List Ys} {ys : List Ybn} (r : RelN xs ys) : (xs.find? fun x => decide (x.1 = k)).isSome = (atKey ys k).isSome := by
 induction r with
 | nil => rfl
 | @cons p q ps qs h t ih =>
  by_cases e : q.1 = k
  ·have e' : p.1 = k := h.1.trans e
   simp [atKey, List.find?_cons, e, e']
  ·have e' : ¬ p.1 = k := fun z => e (h.1 ▸ z)
   simp only [atKey, List.find?_cons, e, e', decide_false] at ih ⊢
   exact ih
theorem RelN.put {k : NestedKey} {a : Addr} {v : V} {u : Value} (rv : RelV v u) {xs : List Ys} {ys : List Ybn} (r : RelN xs ys) : RelN (putN xs k a v) (storedH ys k a u) := by
 unfold putN storedH
 rw [r.some k]
 split
 ·exact r.mapPut k rv
 ·exact r.snoc rv
theorem putN_len {k : NestedKey} {a : Addr} {v : V} {xs : List Ys} : (putN xs k a v).length ≤ xs.length + 1 := by
 unfold putN
 split <;> simp
/-- all keys are keys -/
def KeysN (K : PySem.W.Frag) (fz : Addr → Prop) (H : Hp) (xs : List Ys) : Prop := ∀ x ∈ xs, ∃ t : T, nkT t = some x.1 ∧ x.1.depth ≤ 8 ∧ Rf K fz H t (.ref x.2.1)
theorem RwD.keys {K : PySem.W.Frag} {s : S4} : ∀ {ws : List (T × W)} {vs : List (NestedKey × Addr × V)}, RwD K s ws vs → KeysN K s.fz s.H vs
 | [], _, r => by
  rw [show _ = [] from r]
  exact fun x hx => nomatch hx
 | x :: ws, _, r => by
  obtain ⟨k, b, v, r', rfl, h1, h2, h3, h4, h5⟩ := r
  intro y hy
  rcases List.mem_cons.mp hy with rfl | hy
  ·exact ⟨x.1, h1, h2, h3⟩
  ·exact RwD.keys h5 y hy
section
variable {X : Cx} {pins : List Ya9} {σ : St} {H : Hp} {s : Shared} {a : Addr} {fz : Addr → Prop} {xs : List Ys}
theorem key_N (I : Inv X pins σ H s) {t : T} {k : NestedKey} {b : Addr} (h1 : nkT t = some k) (h2 : k.depth ≤ 8) (h3 : Rf X.K fz H t (.ref b)) : (nestedKind X.prog X.w).is s.heap k b :=
 ⟨nk_is I.hok I.kIn t k _ _ h1 h3 rfl, h2⟩
theorem dn_of (I : Inv X pins σ H s) (e : H a = some (DitO X.w a xs)) (ks : KeysN X.K fz H xs) : xs.length ≤ sizeLine ∧ (a == sysModules) = false ∧ ∃ ys, RelN xs ys ∧ s.heap.DictOfH (nestedKind X.prog X.w) a ys := by
 obtain ⟨⟨z, hd, ys, r, nd, o, es, ep, h1, h2, h3, h4⟩, _, _⟩ := I.hok a _ e
 refine ⟨z, hd, ys, r, o, es, ep, h1, h2, h3, h4, fun y hy => ?_, nd⟩
 have all : ∀ {l : List (NestedKey × Addr × V)} {m : List (NestedKey × Addr × Value)}, RelN l m → KeysN X.K fz H l → ∀ y ∈ m, (nestedKind X.prog X.w).is s.heap y.1 y.2.1 := by
  intro l m q
  induction q with
  | nil => intro _ y hy; exact nomatch hy
  | @cons p q ps qs hq t ih =>
   intro kk y hy
   rcases List.mem_cons.mp hy with rfl | hy
   ·obtain ⟨t, a1, a2, a3⟩ := kk p Yv
    rw [← hq.1, ← hq.2.1]
    exact key_N I a1 a2 a3
   ·exact ih (fun x hx => kk x Yat) y hy
 exact all r ks y hy
theorem dn_new {P : Program} {w : World} {H' : Hp} {h' : Heap} {ys : List Ybn} (z : xs.length ≤ sizeLine) (hd : (a == sysModules) = false) (r : RelN xs ys) (dd : h'.DictOfH (nestedKind P w) a ys) : ObjOk P w H' h' a (DitO w a xs) := by
 obtain ⟨o, es, ep, h1, h2, h3, h4, h5, h6⟩ := dd
 refine ⟨⟨z, hd, ys, r, h6, o, es, ep, h1, h2, h3, h4⟩, ⟨o, h1⟩, fun g1 g2 ⟨z, hd, ys, r, nd, o, es, ep, h1, h2⟩ k => ⟨z, hd, ys, r, nd, o, es, ep, k o h1, h2⟩⟩
end
def NKey (K : PySem.W.Frag) (H : Hp) (y : V) (k : NestedKey) (b : Addr) : Prop := y = .ref b ∧ ∃ (fz : Addr → Prop) (t : T), nkT t = some k ∧ k.depth ≤ 8 ∧ Rf K fz H t (.ref b)
def KeysX (K : PySem.W.Frag) (H : Hp) (xs : List Ys) : Prop := ∃ fz : Addr → Prop, KeysN K fz H xs
theorem room_N {A : Around} (hu : A.units + 64 < cLine) {prog : Program} {w : World} : (nestedKind prog w).room A.in1 := by
 show A.units + 1 + 8 < cLine
 omega
end Mir
namespace Mir
open PySem PySem.Spec L2
open PyProof.Rows hiding St
section
variable {K : PySem.W.Frag} {ω : World} {s : S4}
theorem RwD.isSome (k : NestedKey) {ws : List (T × W)} {vs : List Ys} (r : RwD K s ws vs) : (valN vs k).isSome = (valT ws k).isSome := by
 cases h : valT ws k with
 | none => rw [r.no k h]; rfl
 | some w => obtain ⟨v, e, _⟩ := r.val k h; rw [e]; rfl
theorem nkey_of {w : W} {t : T} {k : NestedKey} {y : V} (h : asNk w = some (t, k)) (r : Rw K s w y) : ∃ b, NKey K s.H y k b ∧ nkT t = some k ∧ k.depth ≤ 8 ∧ Rf K s.fz s.H t (.ref b) := by
 obtain ⟨rfl, h1, h2, xs, rfl⟩ := asNk_eq h
 have r' : Rf K s.fz s.H (.tup xs) y := r
 have r2 := r'
 simp only [Rf] at r2
 obtain ⟨b, vs, rfl, _, _⟩ := r2
 exact ⟨b, ⟨rfl, s.fz, _, h1, h2, r'⟩, h1, h2, r'⟩
end
end Mir
namespace Mir
open PySem PySem.Spec L2
open PyProof.Rows hiding St
section
variable {X : Cx} {Wx : WX} {elt tg iter tg1 iter1 : Expr} {ifs ifs1 : List Expr} {scope : Scope} {Fi : M (List W)} {Fe : M W} {pos : Pos} {g g1 : TG} {G G1 : W → IS → Option IS} {vs vs1 : List Nat} {T T1 : M Bool} {E : M W} {fin : OpN} {own : List Yh2}
theorem st_comp2 {i : Nat} {y : Str} {py spos : Pos} (hc : X.calm = true) (hN : X.N.Nodup) (hy : X.N[i]? = some y) (hyl : X.env.scope.names.lookup y = some .local)
  (hsw : swapsWith Ycp (some (.Name y py)) spos.line X.env = pure true) (hi : II X Wx tg iter Fi) (ok : BlkOk X.N X.env.scope scope own) (us1 : List Nat) (hu : ∀ i ∈ us1, i ∈ own.map (·.2))
  (hg : ∀ (s : Shared) (H : Hp) (C : Addr) (cl : List (Str × Addr)) (fp : List Addr), PG Yc tg g) (tok : TgOk X.K X.w g G vs)
  (ht : ∀ (s : Shared) (H : Hp) (C : Addr) (cl : List (Str × Addr)) (fp : List Addr), ITs Yc ifs T)
  (hi1 : ∀ (s : Shared) (H : Hp) (C : Addr) (cl : List (Str × Addr)) (fp : List Addr), IE Yc W0 iter1 Fe)
  (hg1 : ∀ (s : Shared) (H : Hp) (C : Addr) (cl : List (Str × Addr)) (fp : List Addr), PG Yc tg1 g1) (tok1 : TgOk X.K X.w g1 G1 vs1)
  (ht1 : ∀ (s : Shared) (H : Hp) (C : Addr) (cl : List (Str × Addr)) (fp : List Addr), ITs Yc ifs1 T1)
  (he : ∀ (s : Shared) (H : Hp) (C : Addr) (cl : List (Str × Addr)) (fp : List Addr), IE Yc W0 elt E) (hf : FinOk X.K X.w Wx fin) (hv : ∀ i ∈ vs, i ∈ own.map (·.2) := by decide) (hv1 : ∀ i ∈ vs1, i ∈ us1 := by decide)
  (hs : ∀ x, foldedSetIterable iter X.env x = pure x := by intro _; rfl) (hs1 : ∀ env x, foldedSetIterable iter1 env x = pure x := by intro _ _; rfl) :
  ISt X Wx (.Assign [.Name y py] Ycp spos) (mSet i (mComp2 fin Fi G T Fe G1 T1 E (own.map (·.2)) us1)) :=
 PS.imp (ps_setLc2 (tt := tT X.K X.w W0 T) (tt1 := tT X.K X.w W0 T1) (te := tE X.K X.w W0 E) (wi1 := iSq X.K (tE X.K X.w W0 Fe)) hc hN hy hyl hsw hi ok hu hg ht (fun s H C cl fp => pi_sq (hi1 s H C cl fp)) hg1 ht1 he hs hs1) fun D σ H h => by
 have h' : tE X.K X.w Wx (mComp2 fin Fi G T Fe G1 T1 E (own.map (·.2)) us1) σ H Yio :=
  tM.bind1 (R := fun (y : V) (H1 : Hp) => D.nx (σ.set i (some y)) H1) (k := fun (a : W) eta hp => .ok (Fl.nx Yf2) hp) h fun s eta a b R1 S1 f1 g1 => Go.nx R1 (S1.set i f1) g1
 exact t_comp2 _ us1 tok hv tok1 hv1 hf σ H _ h'
end
end Mir
namespace Mir
open PySem PySem.Spec L2
open PyProof.Rows hiding St
/-- str(o): an alternative for each class -/
structure StrAlt (X : Cx) (c : Str) (m : OpN) : Prop where
 ex : ∃ (C f : Addr) (fd : FuncData) (ps : List Str) (k n : Nat), CN X.K c C ∧ Meth X.K C "__str__" f ∧ FnG X.prog X.w X.K X.mg X.base Yea k f fd ps Yhq ∧ Room (k + 2) X.A ∧ Binds X.K fd ps [] ∧ ∀ ws hp, ws.length ≠ n → m ws hp = .bad
def AltsOk (X : Cx) : List (Str × OpN) → Prop
 | [] => True
 | p :: r => StrAlt X p.1 p.2 ∧ AltsOk X r
theorem AltsOk.get {X : Cx} : ∀ {alts : List (Str × OpN)} {p : Str × OpN}, AltsOk X alts → p ∈ alts → StrAlt X p.1 p.2
 | [], _, _, h => nomatch h
 | q :: r, p, ok, h => by
  rcases List.mem_cons.mp h with rfl | h
  ·exact ok.1
  ·exact AltsOk.get ok.2 h
end Mir
namespace Mir
open PySem PySem.Spec L2
open PyProof.Rows hiding St
end Mir
namespace Mir
open PySem PySem.Spec L2
open PyProof.Rows hiding St
end Mir
namespace MirS
open PySem PySem.Spec L2 PySem.W
open PyProof.Rows hiding St
section
variable {prog : Program} {w : World} {A : Around} {E : Value → Shared → Prop} {s : Shared} {β : Type} {bs : List β} {enc : β → PyData} {R : Value → β → Prop}
/-- sorted of a list or a tuple of things that read as data -/
theorem sorted_seqD {l : Addr} {T : String} {o : Obj} {vs : List Value} {n : Nat} {Q : Value → Shared → Prop} (hT : T = "list" ∨ T = "tuple") (ho : s.heap.get? l = some o) (hc : o.cls = .type T) (hd : o.data = .seq vs.toArray n) (hz : vs.length ≤ sizeLine)
  (e : EachIs R vs bs) (er : EachIs (fun v b => ∃ as, Reads s.heap v (enc b) as) vs bs) (hal : AllAlike (bs.map enc)) (hk : Sortable (bs.map enc)) (hu : ∀ b, b ∈ bs → A.units + 2 + (enc b).depth < cLine)
  (h : ∀ (h2 : Heap) (p : Addr) (out : List Value) (ep : Nat), out.length = bs.length → EachIs R out (bs.mergeSort (dataLe false enc)) → s.heap.objs.size ≤ p → (∀ b o, s.heap.get? b = some o → h2.get? b = some o) → h2.get? p = some (seqObj "list" out.toArray ep) → Q (.ref p) { s with heap := h2 }) :
  wpAny Yal A (call Ydf [.ref l]) Q E s := by
 refine Calls.call_function_entry kind_sorted plain_sorted entry_sorted (args_sorted1 _) ?_
 unfold Builtin.«sorted»
 refine wpAny_bind (m := checkCount "sorted" 1 1 _) (wpAny_pure ?_)
 refine wpAny_bind (collect_sq l hT ho hc hd (fun h1 z1 k1 => ?_) (by rw [List.size_toArray]; exact hz))
 rw [show vs.toArray.toList = vs by simp]
 refine wpAny_bind (wpAny_newList ?_ hz)
 have hoL : (h1.push Y2).get? h1.objs.size = some Y2 := Heap.get?_push_size _ rfl
 have lt1 : ∀ b o, s.heap.get? b = some o → b < h1.objs.size := fun b o q => Heap.lt_size (k1 b o q)
 have keep : ∀ b o, s.heap.get? b = some o → b ≠ h1.objs.size ∧ (h1.push Y2).get? b = some o := fun b o q =>
  ⟨Nat.ne_of_lt (lt1 b o q), Heap.get?_push_of_some _ (k1 b o q)⟩
 show wpAny _ _ _ _ _ { s with heap := h1.push Y2 }
 have er' : EachIs (fun v b => ∃ as, Reads Yen v (enc b) as) vs bs := er.mono fun _ _ ⟨as, r⟩ => ⟨as, PyProof.Rows.Reads.keeps (fun b o q => sortingHeap_old (keep b o q).1 (keep b o q).2) r⟩
 refine wpAny_bind (wpAny_holding (wpAny_call_entry slot_list_sort ⟨_, hoL, rfl⟩ entry_list_sort (list_sort_vals (κ := dataKind Yen (bs.map enc)) hoL (SortsAt.data (s := { s with heap := sortingHeap (h1.push Y2) h1.objs.size vs }) (each_map (R := fun v d => ∃ as, Reads Yen v d as) enc er') hal hk (bound_map hu)) (by exact hz) ⟨.none, rfl, ?_⟩) (args_list_sort _)))
 obtain ⟨ep, he⟩ := sortedHeap_at (vs := vs) (n := 0) (out := (sortVals (dataKind Yen (bs.map enc)) false vs vs).toArray) hoL
 refine wpAny_pure ⟨_, rfl, h _ h1.objs.size _ ep (by rw [sortVals_length false rfl]; exact e.length) (sortVals_data false e er' hal) z1 (fun b o q => ?_) he⟩
 rw [sortedHeap_old (keep b o q).1 (by rw [size_push']; exact Nat.lt_succ_of_lt (lt1 b o q))]
 exact (keep b o q).2
end
end MirS
namespace Mir
open PySem PySem.Spec L2
open PyProof.Rows hiding St
/-- what sorted asks of a tuple of two pairs -/
def rSortQ (K : PySem.W.Frag) : List V → Hp → VK → Prop := fun vs H Q => ∃ (a : Addr) (u v : V) (x y : Str) (i j : Int), vs = [V.ref a] ∧ SqT K H a [u, v] ∧ Dp K H u (zd6 x i) ∧ Dp K H v (zd6 y j) ∧ x ≠ y ∧
 ∀ p : Addr, H p = none → Q (.ref p) (upd H p (.lst Yak))
theorem cr_sortQ {X : Cx} (hu : X.A.units + 64 < cLine) : CallR X Ydf (rSortQ X.K) := by
 intro pins s σ H vs us Q I r h
 obtain ⟨a, u, v, x, y, i, j, rfl, hs, d1, d2, ne, q⟩ := h
 obtain rfl := Vals.ref1 r
 obtain ⟨its, rv, hl, hz⟩ := I.tuple hs
 obtain ⟨o, ho, hc, n, hd'⟩ := hl
 have hz' : its.length ≤ sizeLine := by rw [← rv.length]; exact hz
 let bs : List (V × PyData) := [(u, zd6 x i), (v, zd6 y j)]
 have hd : ∀ b ∈ bs, Dp X.K H b.1 b.2 := fun b hb => by
  simp only [bs, List.mem_cons, List.not_mem_nil, or_false] at hb
  rcases hb with rfl | rfl
  ·exact d1
  ·exact d2
 have al : PySem.W.AllAlike (bs.map (·.2)) := fun d hd d' hd' => by
  simp only [bs, List.map_cons, List.map_nil, List.mem_cons, List.not_mem_nil, or_false] at hd hd'
  rcases hd with rfl | rfl <;> rcases hd' with rfl | rfl <;> simp [zd6, PySem.W.alike, PySem.W.alikeAll]
 have so : PySem.W.Sortable (bs.map (·.2)) := .inl fun d hd => by
  simp only [bs, List.map_cons, List.map_nil, List.mem_cons, List.not_mem_nil, or_false] at hd
  rcases hd with rfl | rfl <;> exact ⟨_, _, rfl⟩
 have e0 := each_items0 (h := s.heap) (bs := bs) rv fun b hb u hu => (hd b hb).reads I b.2 b.1 u hu
 have e1 : PySem.W.EachIs Ykc its bs := e0.mono fun _ _ z => z.2
 refine MirS.sorted_seqD (β := V × PyData) (R := fun (v : Value) (b : V × PyData) => RelV b.1 v ∧ ∃ as, Reads s.heap v b.2 as) (enc := fun b => b.2) (bs := bs) (.inr rfl) ho hc hd' hz' e0 e1 al so (fun b hb => ?_) fun h2 p out ep hlen er lp kp hp => ?_
 ·have : b.2.depth ≤ 10 := by
   simp only [bs, List.mem_cons, List.not_mem_nil, or_false] at hb
   rcases hb with rfl | rfl <;> simp [zd6, PyData.depth, PyData.depthAll]
  omega
 ·have e : bs.mergeSort (PySem.W.dataLe false fun b : V × PyData => b.2) = if ltCps x.cps.toList y.cps.toList = true then [(u, zd6 x i), (v, zd6 y j)] else [(v, zd6 y j), (u, zd6 x i)] := by
   show bs.mergeSort prLe = _
   split
   ·rename_i c
    exact (mergeP (by rw [prLe_eq, pair_lt (Ne.symm ne), ltCps_as c]; rfl) (by rw [prLe_eq, pair_lt ne, c]; rfl)).1
   ·rename_i c
    have c' := ltCps_tot ne c
    exact (mergeP (by rw [prLe_eq, pair_lt ne, ltCps_as c']; rfl) (by rw [prLe_eq, pair_lt (Ne.symm ne), c']; rfl)).2
  rw [e] at er
  have er2 : Vals Yak out := by
   have z := items_each0 er
   split
   ·rename_i c
    rw [if_pos c] at z
    exact z
   ·rename_i c
    rw [if_neg c] at z
    exact z
  have l2 : (if ltCps x.cps.toList y.cps.toList = true then [u, v] else [v, u]).length = 2 := by split <;> rfl
  exact ⟨.ref p, upd H p (.lst Yak), I.laid (t' := s.toks) kp lp ⟨by rw [l2, sizeLine_eq]; decide, out, ep, er2, hp⟩, rfl, q _ (I.hok.fresh lp)⟩
/-- sorted of at most two pairs, a list or a tuple -/
def oSortQ : OpN := fun ws hp => match ws with
 | [.t (.tup [t, u])] => (match siT t, siT u with
  | some p, some q => if p.1 ≠ q.1 then .ok Yh5 hp else .bad
  | _, _ => .bad)
 | ws => oSortR ws hp
theorem ok_sortQ {K : PySem.W.Frag} {ω : World} {Wx : WX} : zgb K ω Wx oSortQ (fun xs H Q => (rSorted1 K xs H Q ∨ rSortP K xs H Q) ∨ rSortQ K xs H Q) := by
 intro s ws xs Q R r go
 unfold oSortQ at go
 split at go
 ·rename_i t u
  refine .inr ?_
  split at go
  ·rename_i p q hp hq
   split at go
   ·rename_i ne
    obtain ⟨v, rfl, rv⟩ := RwL.one r
    obtain ⟨a, vs, ev, tt, l⟩ : ∃ a vs, v = .ref a ∧ FTup K s.fz s.H a vs ∧ RfL K s.fz s.H [t, u] vs := by simpa only [Rw, Rf] using rv
    subst ev
    obtain ⟨v1, r1, e1, f1, l1⟩ := l
    obtain ⟨v2, r2, e2, f2, l2⟩ := l1
    have : r2 = [] := l2
    subst this e2 e1
    have f1' := f1
    have f2' := f2
    rw [siT_eq hp] at f1'
    rw [siT_eq hq] at f2'
    refine ⟨a, v1, v2, p.1, q.1, p.2, q.2, rfl, tt.sq, dp_si R f1', dp_si R f2', ne, fun z nz => ?_⟩
    split
    ·rename_i c
     rw [if_pos c] at go
     exact go (.ref z) (s.addF z (.lst [v1, v2])) rfl (zbe R nz) (zbl R nz) (zb7 R nz ⟨v1, [v2], rfl, f1, v2, [], rfl, f2, rfl⟩)
    ·rename_i c
     rw [if_neg c] at go
     exact go (.ref z) (s.addF z (.lst [v2, v1])) rfl (zbe R nz) (zbl R nz) (zb7 R nz ⟨v2, [v1], rfl, f2, v1, [], rfl, f1, rfl⟩)
   ·exact go.elim
  ·exact go.elim
 ·exact .inl (ok_sortR s _ xs Q R r go)
theorem cr_sortRQ {X : Cx} (hu : X.A.units + 64 < cLine) : CallR X Ydf (fun xs H Q => (rSorted1 X.K xs H Q ∨ rSortP X.K xs H Q) ∨ rSortQ X.K xs H Q) := CallR.or (cr_sortR hu) (cr_sortQ hu)
end Mir
namespace Mir
open PySem PySem.Spec L2
open PyProof.Rows hiding St
end Mir
namespace Mir
open PySem PySem.Spec L2
open PyProof.Rows hiding St
end Mir
namespace Mir
open PySem PySem.Spec L2
open PyProof.Rows hiding St
/-- o == p: an alternative for each class -/
structure EqAlt (X : Cx) (c : Str) (m : OpN) : Prop where
 ex : ∃ (C f : Addr) (fd : FuncData) (ps : List Str) (k n : Nat), CN X.K c C ∧ Meth X.K C "__eq__" f ∧ FnG X.prog X.w X.K X.mg X.base Yea k f fd ps Yhq ∧ Room (k + 2) X.A ∧ Binds X.K fd ps [] ∧ (∀ ws hp, ws.length ≠ n → m ws hp = .bad) ∧
  PySem.W.findIn X.K (.ref C) "__ne__" = some (some (.builtin "object.__ne__")) ∧ PySem.W.mroIn X.K C Ykb = some true
def EqAlts (X : Cx) : List (Str × OpN) → Prop
 | [] => True
 | p :: r => EqAlt X p.1 p.2 ∧ EqAlts X r
theorem EqAlts.get {X : Cx} : ∀ {alts : List (Str × OpN)} {p : Str × OpN}, EqAlts X alts → p ∈ alts → EqAlt X p.1 p.2
 | [], _, _, h => nomatch h
 | q :: r, p, ok, h => by
  rcases List.mem_cons.mp h with rfl | h
  ·exact ok.1
  ·exact EqAlts.get ok.2 h
end Mir
namespace Mir
open PySem PySem.Spec L2
open PyProof.Rows hiding St
end Mir
namespace Mir
open PySem PySem.Spec L2
open PyProof.Rows hiding St
end Mir
namespace Mir
open PySem PySem.Spec L2
open PyProof.Rows hiding St
/-- o == p and o in (..): an alternative for each class -/
structure InAlt (X : Cx) (c : Str) (m : OpN) : Prop where
 ex : ∃ (C f : Addr) (fd : FuncData) (ps : List Str) (k n : Nat), CN X.K c C ∧ Meth X.K C "__eq__" f ∧ FnG X.prog X.w X.K X.mg X.base Yea k f fd ps Yhq ∧ Room (k + 4) X.A ∧ Binds X.K fd ps [] ∧ (∀ ws hp, ws.length ≠ n → m ws hp = .bad) ∧
  PySem.W.subIn X.K (.ref C) Yjh = some false ∧ PySem.W.subIn X.K (.ref C) Yhs = some false ∧ PySem.W.subIn X.K (.ref C) (.type "NoneType") = some false
def InAlts (X : Cx) : List (Str × OpN) → Prop
 | [] => True
 | p :: r => InAlt X p.1 p.2 ∧ InAlts X r
theorem InAlts.get {X : Cx} : ∀ {alts : List (Str × OpN)} {p : Str × OpN}, InAlts X alts → p ∈ alts → InAlt X p.1 p.2
 | [], _, _, h => nomatch h
 | q :: r, p, ok, h => by
  rcases List.mem_cons.mp h with rfl | h
  ·exact ok.1
  ·exact InAlts.get ok.2 h
end Mir
namespace Mir
open PySem PySem.Spec L2
end Mir
namespace Mir
open PySem PySem.Spec L2
open PyProof.Rows hiding St
end Mir
namespace Mir
open PySem PySem.Spec L2
open PyProof.Rows hiding St
end Mir
namespace Mir
open PySem PySem.Spec L2
open PyProof.Rows hiding St
/-- the keys, as they stand -/
def keyVs (xs : List Ys) : List V := xs.map fun x => V.ref x.2.1
section
variable {X : Cx} {pins : List Ya9} {σ : St} {H : Hp} {s : Shared} {a : Addr} {xs : List Ys}
theorem dn_raw {H' : Hp} (x : ObjOk X.prog X.w H' s.heap a (DitO X.w a xs)) : xs.length ≤ sizeLine ∧ (a == sysModules) = false ∧ ∃ (o : Obj) (es : Array DictEntry) (ep : Nat), s.heap.get? a = some o ∧ o.ExactDict ∧ o.data = .dict es ep ∧ es.size = xs.length ∧
  ∀ (i : Nat) (hi : i < es.size), ∃ y, xs[i]? = some y ∧ es[i].key = .ref y.2.1 := by
 obtain ⟨⟨z, hd, ys, r, nd, o, es, ep, h1, h2, h3, h4⟩, _, _⟩ := x
 have hl : xs.length = ys.length := Paired.length r
 have hs : es.size = ys.length := by rw [← Array.length_toList, h4, List.length_map]
 refine ⟨z, hd, o, es, ep, h1, h2, h3, by rw [hs, hl], fun i hi => ?_⟩
 have hx : i < xs.length := by omega
 have hy : i < ys.length := by omega
 refine ⟨xs[i], List.getElem?_eq_getElem hx, ?_⟩
 obtain ⟨b, hb, e1, e2, _⟩ := LiI.paired_get r (List.getElem?_eq_getElem hx)
 have q : es.toList[i]? = (ys[i]?).map fun y => (⟨y.1.hash X.w, .ref y.2.1, y.2.2⟩ : DictEntry) := by rw [h4, List.getElem?_map]
 rw [Array.getElem?_toList, Array.getElem?_eq_getElem hi, hb] at q
 simp only [Option.map_some, Option.some.injEq] at q
 rw [q]
 show Value.ref b.2.1 = _
 rw [e2]
end
section
variable {K : PySem.W.Frag} {ω : World} {s : S4}
theorem RwD.keyRf : ∀ {ws : List (T × W)} {vs : List (NestedKey × Addr × V)}, RwD K s ws vs → RfL K s.fz s.H (ws.map (·.1)) (keyVs vs)
 | [], _, r => by
  rw [show _ = [] from r]
  simp [RfL, keyVs]
 | x :: ws, _, r => by
  obtain ⟨k, b, v, r', rfl, h1, h2, h3, h4, h5⟩ := r
  have ih := RwD.keyRf h5
  simp only [List.map_cons, keyVs, RfL] at ih ⊢
  exact ⟨_, _, rfl, h3, ih⟩
end
section
variable {X : Cx} {pins : List Ya9} {σ : St} {H : Hp} {s : Shared}
theorem d_dictSetN {E : Value → Shared → Prop} {D : Addr} {xs : List Ys} {k : NestedKey} {b : Addr} {y v : V} {u r : Value} {Q : Unit → Shared → Prop} (hu : X.A.units + 64 < cLine) (I : Inv X pins σ H s) (hD : H D = some (DitO X.w D xs)) (ks : KeysX X.K H xs) (hz : xs.length < sizeLine)
  (nk : NKey X.K H y k b) (ry : RelV y u) (rv : RelV v r) (h : ∀ s', Inv X pins σ (upd H D (DitO X.w D (putN xs k b v))) s' → Q () s') : wpAny Ym X.A (dictSet D u r) Q E s := by
 obtain ⟨ey, fz', t, n1, n2, n3⟩ := nk
 subst ey
 obtain rfl : u = Value.ref b := ry
 obtain ⟨fz, ks⟩ := ks
 obtain ⟨z, hd, ys, rr, dd⟩ := dn_of I hD ks
 have hz' : ys.length ≤ sizeLine := by rw [← rr.len]; exact z
 refine wpAny_dictSet_heap (hsz := hz') (show X.A.units + 8 < cLine by omega) (key_N I n1 n2 n3) dd fun h' dd' hs' => h _ ?_
 have he : ∃ q, h'.get? D = some q := let ⟨q, _, _, hq, _⟩ := dd'; ⟨q, hq⟩
 have hl' : (putN xs k b v).length ≤ sizeLine := by have := putN_len (k := k) (a := b) (v := v) (xs := xs); omega
 exact d_write I (by rw [hD]; exact True.intro) hs' he (dn_new hl' hd (rr.put rv) dd')
end
def tDcN (KK : PySem.W.Frag) (w : World) (wi : TI) (g : TG) (tk tv : TE) (vs : List Nat) : TE := fun σ H Q => wi σ H fun J H1 => ∀ D, H1 D = none → ∃ W : Nat → Nat → Hp → Prop, (∃ m, W 0 m (upd H1 D (DitO w D []))) ∧ ∀ i m H, W i m H →
 (J.stop i H ∧ Q (.ref D) H) ∨ (J.go i H ∧ ∃ Nx : Hp → Prop, (∀ H', Nx H' → ∃ m', m' < m ∧ W (i + 1) m' H') ∧ ∀ x H', J.yld i H x H' → g x (wipe σ vs) H' fun σ2 H2 => wipe σ2 vs = wipe σ vs ∧
  tk σ2 H2 fun y H4 => tv σ2 H4 fun z H5 => ∃ xs k b, NKey KK H5 y k b ∧ H5 D = some (DitO w D xs) ∧ KeysX KK H5 xs ∧ xs.length < sizeLine ∧ Nx (upd H5 D (DitO w D (putN xs k b z))))
section
variable {X : Cx}
theorem dc_coreN {pins : List Ya9} {s : Shared} {σ : St} {H : Hp} {Q : VK} {kx vx tg iter : Expr} {scope : Scope} {own : List Yh2} {pos pos' : Pos} {wi : TI} {g : TG} {tk tv : TE} {use : Option (Value → Sem Unit)} {Qf : Value → Shared → Prop}
  (hu : X.A.units + 64 < cLine) (hc : X.calm = true) (hN : X.N.Nodup) (I : Inv X pins σ H s) (hi : PI X tg iter wi) (ok : BlkOk X.N X.env.scope scope own)
  (hg : ∀ (s : Shared) (H : Hp) (C : Addr) (cl : List (Str × Addr)) (fp : List Addr), PG Yc tg g)
  (hk : ∀ (s : Shared) (H : Hp) (C : Addr) (cl : List (Str × Addr)) (fp : List Addr), PE Yc kx tk)
  (he : ∀ (s : Shared) (H : Hp) (C : Addr) (cl : List (Str × Addr)) (fp : List Addr), PE Yc vx tv) (hs : ∀ x, foldedSetIterable iter X.env x = pure x)
  (h : tDcN X.K X.w wi g tk tv (own.map (·.2)) σ H Q)
  (hRR : ∀ D C s' m H', Inv X pins σ H' s' → Q (.ref D) H' → s'.heap.Ns C m → FpOk X pins H' C → compPost Ym X.A X.xe use Qf (.ref D) C (.ok .next) s') :
  wpAny Ym X.A (comprehension Yz scope X.env pos' newDict false (eval iter X.env) use) Qf X.xe s := by
 have hfree : ∀ y ∈ scope.names, y.2 = .free → ∃ c, X.env.cells.lookup y.1 = some c := fun y hy e => by
  rcases ok.free y hy e with k | k
  ·exact I.ok.has _ (.inl k)
  ·exact I.ok.has _ (.inr k)
 refine wpAny_comprehension_free (use := use) rfl hs (closure_ok hfree) ok.kind (fun y hy e => by rw [ok.uniq y hy, e])
  (thn (hi.run pins s σ H _ I h) fun xv s1 hx => thn hx fun itv s2 h2 => ?_)
 obtain ⟨it, fp, tn, J, H2, e, I2, T, st2, f2, q⟩ := h2
 subst e
 refine wpAny_newObj_type (newEnv_comp ?_)
 generalize hD : s2.heap.objs.size = D
 have hDn : H2 D = none := I2.hok.fresh (Nat.le_of_eq hD)
 obtain ⟨W, ⟨m0, w0⟩, turn⟩ := q D hDn
 generalize hs3 : ({ s2 with heap := s2.heap.push { cls := .type "dict", data := .dict #[] } } : Shared) = s3
 have I3 : Inv X pins σ (upd H2 D Ycj) s3 := by
  rw [← hs3]
  have big : (D == sysModules) = false := by rw [← hD]; exact beq_eq_false_iff_ne.mpr (Ne.symm (Nat.ne_of_lt I2.big))
  refine I2.laid (t' := s2.toks) (fun b o e => Heap.get?_push_of_some _ e) (Nat.le_of_eq hD) ?_
  refine dn_new (Nat.zero_le _) big .nil ?_
  rw [← hD]
  exact Heap.DictOfH.new s2.heap
 have h3 : s3.heap = s2.heap.push { cls := .type "dict", data := .dict #[] } := by rw [← hs3]
 have sz : ∀ b ∈ fp, b < s2.heap.objs.size := fun b hb => by
  obtain ⟨o, e, _⟩ := T.obj _ _ st2 b hb
  exact Heap.lt_size e
 have f3 : ∀ b ∈ fp, FpOk X pins (upd H2 D Ycj) b ∧ b < s3.heap.objs.size := fun b hb => by
  have hlt := sz b hb
  refine ⟨⟨?_, (f2 b hb).2⟩, by rw [h3, Heap.size_push]; exact Nat.lt_succ_of_lt hlt⟩
  rw [upd_ne (by rw [← hD]; exact Nat.ne_of_lt hlt)]
  exact (f2 b hb).1
 have st3 : tn 0 s3.heap := T.keep _ _ _ st2 fun b _ o e => by rw [h3]; exact Heap.get?_push_of_some _ e
 have I4 := block_start I3 ok hN f3
 have pg := hg s3 (upd H2 D Ycj) s3.heap.objs.size Yag fp
 have pk := hk s3 (upd H2 D Ycj) s3.heap.objs.size Yag fp
 have pe := he s3 (upd H2 D Ycj) s3.heap.objs.size Yag fp
 show codeAny _ _ (.compStart Yz 0 (.ref it) (.ref D) (compEnvC scope Yag s3.heap.objs.size X.env)) (compPost Ym X.A X.xe use Qf (.ref D) s3.heap.objs.size) { s3 with heap := pushCells (s3.heap.push { cls := .type "dict", data := .dict #[] }) scope.names }
 have nfp : ∀ b ∈ fp, (upd H2 D Ycj) b = none := fun b hb => (f3 b hb).1.1
 generalize hce : compEnvC scope Yag s3.heap.objs.size X.env = ce at I4 pg pk pe ⊢
 have cL : ce.locals = s3.heap.objs.size := by subst hce; rfl
 generalize hH3 : upd H2 D Ycj = H3 at I3 I4 pg pk pe w0 nfp f3
 generalize hs4 : ({ s3 with heap := pushCells (s3.heap.push { cls := .type "dict", data := .dict #[] }) scope.names } : Shared) = s4 at I4 ⊢
 have st4 : tn 0 s4.heap := T.keep _ _ _ st3 fun b _ o e => by rw [← hs4]; exact pushCells_keeps _ _ _ _ (Heap.get?_push_of_some _ e)
 have stat : ∀ {σ' : St} {H' : Hp} {s' : Shared}, Inv Yd0 [] σ' H' s' → (∀ b ∈ fp, H' b = none) → ∀ b ∈ fp, FpOk Yd0 [] H' b := fun {σ' H' s'} I' hn b hb =>
  ⟨hn b hb, (I'.ok.exf b hb).1, I'.ok.exfs b hb, .inl hb, fun x c e => (I'.ok.exf b hb).2 x c e, fun p hp => absurd (show p ∈ ([] : List Ya9) ++ [] from hp) Yaw⟩
 have loop : codeAny Ym X.A (.compLoop Yz 0 (.ref it) (.ref D) ce) (compPost Ym X.A X.xe use Qf (.ref D) s3.heap.objs.size) s4 := by
  refine compLoop_anyD (fun n s' => ∃ i H', Inv Yd0 [] (wipe σ (own.map (·.2))) H' s' ∧ tn i s'.heap ∧ (∀ b ∈ fp, H' b = none) ∧ W i n H') ?_ m0 ⟨0, H3, I4, st4, nfp, w0⟩
  rintro n s5 ⟨i, H5, I5, st5, n5, w5⟩
  rcases turn i n H5 w5 with ⟨stop, qq⟩ | ⟨go, Nx, hNx, step⟩
  ·have td := T.done Yd0 rfl rfl rfl hc i [] s5 _ H5 Yiv I5 (stat I5 n5) st5 stop
   refine thnF td fun r s6 ⟨hr, I6⟩ => ?_
   subst hr
   have I7 : Inv X pins σ H5 s6 := I3.call' (ch := fp) I6.os I6.base I6.hok I6.bare fun b hb => ⟨(f3 b hb).1.2.2.2.1, (f3 b hb).1.2.1, (f3 b hb).1.2.2.2.2.1, (f3 b hb).1.2.2.2.2.2⟩
   have nC : H5 s3.heap.objs.size = none := by
    have z : H5 ce.locals = none := I6.free
    rw [cL] at z
    exact z
   obtain ⟨m, hn, _⟩ := I6.loc
   have hn : s6.heap.Ns ce.locals m := hn
   rw [cL] at hn
   exact hRR D s3.heap.objs.size s6 m H5 I7 qq hn (I3.fpOk Ye7 nC)
  ·have ti := T.item Yd0 rfl rfl rfl hc i [] s5 _ H5 Yiv I5 (stat I5 n5) st5 go
   refine thnF ti fun r s6 ⟨u, hr, h6⟩ => ?_
   subst hr
   refine thnF h6 fun _ s7 ⟨x, H7, I7, r7, y7, st7, n7⟩ => ?_
   have I7' := I7.pinned (stat I7 n7) (T.obj _ _ st7)
   refine thnF (pg.run _ s7 _ H7 x u _ I7' r7 (step x H7 y7)) fun _ s8 ⟨σ8, H8, I8, hw8, q8⟩ => ?_
   refine wpAny_pure ?_
   have fin : ∀ {s' : Shared} {H' : Hp}, Inv Yd0 ([] ++ pinsAt fp s7.heap) σ8 H' s' → Nx H' → ∃ m, m < n ∧ ∃ i H', Inv Yd0 [] (wipe σ (own.map (·.2))) H' s' ∧ tn i s'.heap ∧ (∀ b ∈ fp, H' b = none) ∧ W i m H' := fun {s' H'} I' nx => by
    obtain ⟨m', hm, w'⟩ := hNx H' nx
    have pin' : ∀ b ∈ fp, ∀ o, s7.heap.get? b = some o → s'.heap.get? b = some o ∧ H' b = none := fun b hb o e =>
     let z := I'.pin (b, o) (List.mem_append_right _ (List.mem_append_right _ (mem_pinsAt hb e)))
     ⟨z.1, z.2.1⟩
    have hl : (wipe σ (own.map (·.2))).length = σ8.length := by rw [← hw8, wipe_length]
    refine ⟨m', hm, i + 1, H', (I'.unpinned (pins := [])).weak hl (fun j v e => ?_), T.keep _ _ _ st7 fun b hb o e => (pin' b hb o e).1, fun b hb => ?_, w'⟩
    ·rw [← hw8] at e
     exact (wipe_some e).1
    ·obtain ⟨o, e, _⟩ := T.obj _ _ st7 b hb
     exact (pin' b hb o e).2
   rw [if_pos rfl]
   refine thnF (pk.run _ s8 σ8 H8 _ I8 q8) fun z s10 ⟨yk, H10, I10, r10, q10⟩ => ?_
   refine thnF (pe.run _ s10 σ8 H10 _ I10 q10) fun z2 s11 ⟨yv, H11, I11, r11, xs, k, b, nk, hD11, ks11, hz11, nx⟩ => ?_
   exact d_dictSetN (X := X.blk s3 H3 scope ce fp) hu I11 hD11 ks11 hz11 nk r10 r11 fun s12 I12 => fin I12 nx
 exact codeAny_compStart_dict loop (T.self X.A 0 _ _ _ st4 loop)
theorem pe_dcN {kx vx tg iter : Expr} {scope : Scope} {own : List Yh2} {pos : Pos} {wi : TI} {g : TG} {tk tv : TE} (hu : X.A.units + 64 < cLine) (hc : X.calm = true) (hN : X.N.Nodup) (hi : PI X tg iter wi) (ok : BlkOk X.N X.env.scope scope own)
  (hg : ∀ (s : Shared) (H : Hp) (C : Addr) (cl : List (Str × Addr)) (fp : List Addr), PG Yc tg g)
  (hk : ∀ (s : Shared) (H : Hp) (C : Addr) (cl : List (Str × Addr)) (fp : List Addr), PE Yc kx tk)
  (he : ∀ (s : Shared) (H : Hp) (C : Addr) (cl : List (Str × Addr)) (fp : List Addr), PE Yc vx tv) (hs : ∀ x, foldedSetIterable iter X.env x = pure x := by intro _; rfl) :
  PE X Yz (tDcN X.K X.w wi g tk tv (own.map (·.2))) := by
 refine ⟨fun pins s σ H Q I h => ?_⟩
 rw [arm_eval_DictComp]
 refine dc_coreN hu hc hN I hi ok hg hk he hs h fun D C s' m H' I' q hn f => ⟨m, hn, fun h'' sb => ?_⟩
 obtain ⟨f0, f1, f2, f3, f4, f5⟩ := f
 exact ⟨.ref D, H', I'.turned (t' := s'.toks) (fun b o hb e => (sb.2 b hb).trans e) f0 f1 f3 f4 f5, rfl, q⟩
theorem ps_setDcN {kx vx tg iter : Expr} {scope : Scope} {own : List Yh2} {pos py spos : Pos} {i : Nat} {y : Str} {wi : TI} {g : TG} {tk tv : TE} (hu : X.A.units + 64 < cLine) (hc : X.calm = true) (hN : X.N.Nodup) (hy : X.N[i]? = some y) (hyl : X.env.scope.names.lookup y = some .local)
  (hsw : swapsWith Yz (some (.Name y py)) spos.line X.env = pure true) (hi : PI X tg iter wi) (ok : BlkOk X.N X.env.scope scope own)
  (hg : ∀ (s : Shared) (H : Hp) (C : Addr) (cl : List (Str × Addr)) (fp : List Addr), PG Yc tg g)
  (hk : ∀ (s : Shared) (H : Hp) (C : Addr) (cl : List (Str × Addr)) (fp : List Addr), PE Yc kx tk)
  (he : ∀ (s : Shared) (H : Hp) (C : Addr) (cl : List (Str × Addr)) (fp : List Addr), PE Yc vx tv) (hs : ∀ x, foldedSetIterable iter X.env x = pure x := by intro _; rfl) :
  PS X (.Assign [.Name y py] Yz spos) (tAsg (tDcN X.K X.w wi g tk tv (own.map (·.2))) (gName i)) := by
 refine ⟨fun pins s σ H D I h => ?_⟩
 rw [exec_Assign_Name_used _ _ _ _ hsw]
 refine wpAny_bind (wpAny_standAt (wpAny_bind ?_))
 show wpAny _ X.A (do let _ ← comprehension Yz scope X.env (firstIterPos [⟨tg, iter, [], 0⟩] pos) newDict false (eval iter X.env) (some (assign (.Name y py) X.env))) _ _ s
 have h : tDcN X.K X.w wi g tk tv (own.map (·.2)) σ H (fun x H1 => gName i x σ H1 D.nx) := h
 refine wpAny_bind (thn (dc_coreN (Qf := fun _ s' => SP X pins D .next s') hu hc hN I hi ok hg hk he hs h fun L C s' m H' I' q hn f => ?_) fun _ s' hq => wpAny_pure (wpAny_pure hq))
 show wpAny _ _ (assign (.Name y py) X.env (.ref L)) _ _ _
 refine wpAny_assign_Name (store_ok2 (v := V.ref L) I' hN hy (.inl hyl) rfl (fun s2 I2 ⟨a, sb, ha⟩ => ?_) (.inr hyl))
 obtain ⟨f0, f1, f2, f3, f4, f5⟩ := f
 have haC : C ≠ a := by
  rcases ha with z | z
  ·rw [z]; exact f1
  ·exact fun e => f4 y a z e.symm
 refine ⟨m, hn.sameBut sb haC, fun h3 sb3 => ?_⟩
 exact ⟨_, H', I2.turned (t' := s2.toks) (fun b o hb e => (sb3.2 b hb).trans e) f0 f1 f3 f4 f5, q⟩
end
def dcompN (G : W → IS → Option IS) (Kf Vf : M W) (n : Nat) (eta : IS) : List W → IH → Res Unit
 | [], hp => .ok () hp
 | w :: ws, hp => match G w eta with
  | none => .bad
  | some eta1 => (noEr (Kf eta1 hp)).bind fun y h1 => (noEr (Vf eta1 h1)).bind fun z h2 => match asNk y, getT h2 n with
   | some (t, k), some kvs => if kvs.length < 16777216 then dcompN G Kf Vf n eta ws (h2.set n (some (.dit (putT kvs t k z)))) else .bad
   | _, _ => .bad
def mDCompN (Fi : M (List W)) (G : W → IS → Option IS) (Kf Vf : M W) (us : List Nat) : M W := fun eta hp => (Fi eta hp).bind fun ws h1 => (dcompN G Kf Vf h1.length Ya6 ws (h1 ++ [some (.dit [])])).bind fun _ h2 => .ok (.r h1.length) h2
section
variable {X : Cx} {Wx : WX} {kx vx tg iter : Expr} {Fi : M (List W)} {pos : Pos} {g : TG} {G : W → IS → Option IS} {vs : List Nat} {Kf Vf : M W} {own : List Yh2} {scope : Scope}
theorem t_dcompN (us : List Nat) (ok : TgOk X.K X.w g G vs) (hv : ∀ i ∈ vs, i ∈ us) : ∀ σ H Q, tE X.K X.w Wx (mDCompN Fi G Kf Vf us) σ H Q →
  tDcN X.K X.w Yg5 g (tE X.K X.w W0 Kf) (tE X.K X.w W0 Vf) us σ H Q := fun σ H Q h =>
 tM.bind1 (C := W) (k := fun (ws : List W) (eta : IS) (h1 : IH) => ((dcompN G Kf Vf h1.length Ya6 ws (h1 ++ [some (.dit [])])).bind fun _ h2 => .ok (.r h1.length) h2 : Res W)) h fun s0 eta ws J R0 S0 src g0 D hD => by
  have ok0 : CellOk X.K X.w s0 D (.dit []) (some Ycj) := ⟨[], rfl, rfl⟩
  have A1 := zen (c := .dit []) (o := DitO X.w D []) R0 hD
  have R1 := zff R0 hD ok0
  have hw : Sl X.K s0 Ya6 Ye8 := S0.wipe us
  have hrho : (s0.addL D (.dit []) Ycj).rho[s0.hp.length]? = some D := by
   obtain ⟨a, q1, q2⟩ := addL_r (K := X.K) (p := D) (c := .dit []) (o := DitO X.w D []) R0
   cases q2
   exact q1
  have keepR : ∀ {a b : S4}, Aft a b → a.rho[s0.hp.length]? = some D → b.rho[s0.hp.length]? = some D := fun A q => by
   obtain ⟨ex, e, _⟩ := A.pre
   rw [e, List.getElem?_append_left (List.getElem?_eq_some_iff.mp q).1]
   exact q
  have g1 := Go.aft g0 A1
  refine ⟨fun i m H => m = ws.length - i ∧ i ≤ ws.length ∧ ∃ s : S4, s.H = H ∧ Aft Yj2 s ∧ Rel X.K X.w s ∧ Go X.K X.w Wx (Rw X.K) Yj2 ((dcompN G Kf Vf s0.hp.length Ya6 (ws.drop i) s.hp).bind fun _ h2 => .ok (.r s0.hp.length) h2) Q,
   ⟨ws.length, by simp, Nat.zero_le _, s0.addL D (.dit []) Ycj, rfl, Aft.refl _, R1, g1⟩, ?_⟩
  rintro i m H ⟨rfl, hi, s, rfl, As, Rs, gs⟩
  obtain ⟨q1, q2⟩ := src s (A1.trans As) Rs i
  by_cases hlt : i < ws.length
  ·obtain ⟨go, yl⟩ := q1 ws[i] (List.getElem?_eq_getElem hlt)
   refine .inr ⟨go, fun H' => i + 1 ≤ ws.length ∧ ∃ s : S4, s.H = H' ∧ Aft Yj2 s ∧ Rel X.K X.w s ∧ Go X.K X.w Wx (Rw X.K) Yj2 ((dcompN G Kf Vf s0.hp.length Ya6 Yeu s.hp).bind fun _ h2 => .ok (.r s0.hp.length) h2) Q,
    fun H' n => ⟨ws.length - (i + 1), by omega, rfl, n⟩, fun x H' y => ?_⟩
   obtain ⟨s3, e3, hp3, A3, R3, rw3⟩ := yl x H' y
   subst e3
   have A03 := As.trans A3
   rw [List.drop_eq_getElem_cons hlt, ← hp3] at gs
   simp only [dcompN] at gs
   cases hG : G ws[i] (zbp eta us) with
   | none => simp only [hG, Res.bind] at gs; exact gs.elim
   | some eta1 =>
    simp only [hG, Res.bind_assoc] at gs
    obtain ⟨σ2, S2, w2, q4⟩ := ok.run s3 ws[i] x Ya6 Ye8 eta1 R3 rw3 (hw.aft (A1.trans A03) R0) hG
    refine q4 _ ⟨(w2 us hv).trans wipe_twice, s3, eta1, rfl, R3, S2, Go.noEr (Go.bind0 gs A03 fun yw yv s5 A5 R5 f5 g5 => ?_)⟩
    refine ⟨s5, eta1, rfl, R5, S2.aft A5 R3, Go.noEr (Go.bind0 g5 (A03.trans A5) fun zw zv s6 A6 R6 f6 g6 => ?_)⟩
    have A06 := (A03.trans A5).trans A6
    split at g6
    ·rename_i t k kvs hk hc
     split at g6
     ·rename_i hz
      have hr6 := keepR A06 hrho
      obtain ⟨vs6, c1, c2⟩ := R6.cell _ _ _ (getT_eq hc) hr6
      obtain ⟨b, nk, n1, n2, n3⟩ := nkey_of hk (f5.aft A6 R5)
      refine ⟨vs6, k, b, nk, c1, ⟨_, c2.keys⟩, by rw [← c2.length, sizeLine_eq]; exact hz, hlt, s6.setL s0.hp.length D (.dit (putT kvs t k zw)) (DitO X.w D (putN vs6 k b zv)), rfl, A06.trans (zgc R6 (getT_eq hc) hr6), rel_setL R6 (getT_eq hc) hr6 ⟨_, rfl, c2.put n1 n2 n3 f6⟩, g6⟩
     ·simp only [Res.bind] at g6; exact g6.elim
    ·simp only [Res.bind] at g6; exact g6.elim
  ·obtain rfl : i = ws.length := by omega
   refine .inl ⟨q2 rfl, ?_⟩
   rw [List.drop_length] at gs
   exact gs (.ref D) s rfl As Rs ⟨D, keepR As hrho, rfl⟩
theorem ie_dcompN (hu : X.A.units + 64 < cLine) (hc : X.calm = true) (hN : X.N.Nodup) (hi : II X Wx tg iter Fi) (ok : BlkOk X.N X.env.scope scope own)
  (hg : ∀ (s : Shared) (H : Hp) (C : Addr) (cl : List (Str × Addr)) (fp : List Addr), PG Yc tg g) (tok : TgOk X.K X.w g G vs)
  (hk : ∀ (s : Shared) (H : Hp) (C : Addr) (cl : List (Str × Addr)) (fp : List Addr), IE Yc W0 kx Kf)
  (he : ∀ (s : Shared) (H : Hp) (C : Addr) (cl : List (Str × Addr)) (fp : List Addr), IE Yc W0 vx Vf) (hv : ∀ i ∈ vs, i ∈ own.map (·.2) := by decide) (hs : ∀ x, foldedSetIterable iter X.env x = pure x := by intro _; rfl) :
  IE X Wx Yz (mDCompN Fi G Kf Vf (own.map (·.2))) :=
 PE.imp (pe_dcN (tk := tE X.K X.w W0 Kf) (tv := tE X.K X.w W0 Vf) hu hc hN hi ok hg hk he hs) (t_dcompN _ tok hv)
theorem st_dcompN {i : Nat} {y : Str} {py spos : Pos} (hu : X.A.units + 64 < cLine) (hc : X.calm = true) (hN : X.N.Nodup) (hy : X.N[i]? = some y) (hyl : X.env.scope.names.lookup y = some .local)
  (hsw : swapsWith Yz (some (.Name y py)) spos.line X.env = pure true) (hi : II X Wx tg iter Fi) (ok : BlkOk X.N X.env.scope scope own)
  (hg : ∀ (s : Shared) (H : Hp) (C : Addr) (cl : List (Str × Addr)) (fp : List Addr), PG Yc tg g) (tok : TgOk X.K X.w g G vs)
  (hk : ∀ (s : Shared) (H : Hp) (C : Addr) (cl : List (Str × Addr)) (fp : List Addr), IE Yc W0 kx Kf)
  (he : ∀ (s : Shared) (H : Hp) (C : Addr) (cl : List (Str × Addr)) (fp : List Addr), IE Yc W0 vx Vf) (hv : ∀ i ∈ vs, i ∈ own.map (·.2) := by decide) (hs : ∀ x, foldedSetIterable iter X.env x = pure x := by intro _; rfl) :
  ISt X Wx (.Assign [.Name y py] Yz spos) (mSet i (mDCompN Fi G Kf Vf (own.map (·.2)))) :=
 PS.imp (ps_setDcN (tk := tE X.K X.w W0 Kf) (tv := tE X.K X.w W0 Vf) hu hc hN hy hyl hsw hi ok hg hk he hs) fun D σ H h => by
 have h' : tE X.K X.w Wx (mDCompN Fi G Kf Vf (own.map (·.2))) σ H Yio :=
  tM.bind1 (R := fun (y : V) (H1 : Hp) => D.nx (σ.set i (some y)) H1) (k := fun (a : W) eta hp => .ok (Fl.nx Yf2) hp) h fun s eta a b R1 S1 f1 g1 => Go.nx R1 (S1.set i f1) g1
 exact t_dcompN _ tok hv σ H _ h'
end
def getTl (hp : IH) (i : Nat) : Option (List (T × W)) := match hp[i]? with
 | some (some (.dil kvs)) => some kvs
 | _ => none
theorem getTl_eq {hp : IH} {i : Nat} {ws : List (T × W)} (h : getTl hp i = some ws) : hp[i]? = some (some (.dil ws)) := by
 unfold getTl at h
 split at h
 ·rename_i kvs e
  simp only [Option.some.injEq] at h
  rw [e, h]
 ·cases h
def lockN (w : W) (hp : IH) : Res W := match w with
 | .r i => (match getT hp i with | some kvs => .ok (.r i) (hp.set i (some (.dil kvs))) | none => .bad)
 | _ => .bad
def mLockN (F : M W) : M W := fun eta hp => (F eta hp).bind fun a h1 => lockN a h1
def tLockN (w : World) (t : TE) : TE := fun σ H Q => t σ H fun x H1 => ∃ d xs, x = .ref d ∧ H1 d = some (DitO w d xs) ∧ ∀ od, Q x (upd H1 d (.frz od (DitO w d xs)))
theorem pe_lockN {X : Cx} {e : Expr} {t : TE} (h : PE X e t) : PE X e (tLockN X.w t) := by
 refine ⟨fun pins s σ H Q I q => ?_⟩
 refine thn (h.run pins s σ H _ I q) fun v s1 ⟨x, H1, I1, r, d, xs, ex, e, q1⟩ => ?_
 obtain ⟨od, I2⟩ := I1.lock e True.intro
 exact ⟨x, _, I2, r, q1 od⟩
theorem ie_lockN {X : Cx} {Wx : WX} {e : Expr} {F : M W} (he : IE X Wx e F) : IE X Wx e (mLockN F) := PE.imp (pe_lockN he) fun σ H Q h =>
 tM.bind1 (R := fun (x : V) (H1 : Hp) => ∃ d xs, x = .ref d ∧ H1 d = some (DitO X.w d xs) ∧ ∀ od, Q x (upd H1 d (.frz od (DitO X.w d xs)))) (k := fun (a : W) _ hp => lockN a hp) h fun s eta w x R1 S1 f1 g => by
  unfold lockN at g
  split at g
  ·rename_i i
   split at g
   ·rename_i kvs hd
    obtain ⟨a, vs, rfl, e1, e2, l, _⟩ := R1.dit hd f1
    refine ⟨a, vs, rfl, e2, fun od => ?_⟩
    have A := zgc (c := .dil kvs) (o := .frz od (DitO X.w a vs)) R1 (getT_eq hd) e1
    exact g (.ref a) (s.setL i a (.dil kvs) (.frz od (DitO X.w a vs))) rfl A (rel_setL R1 (getT_eq hd) e1 ⟨od, vs, rfl, l⟩) ⟨a, e1, rfl⟩
   ·exact g.elim
  ·exact g.elim
theorem Rel.dil {K : PySem.W.Frag} {ω : World} {s : S4} (R : Rel K ω s) {i : Nat} {v : V} {ws : List (T × W)} (g : getTl s.hp i = some ws) (r : Rw K s (.r i) v) : ∃ a ob xs, v = .ref a ∧ s.rho[i]? = some a ∧ s.H a = some (.frz ob (DitO ω a xs)) ∧ RwD K s ws xs ∧ ¬ Live s a := by
 obtain ⟨a, e1, e2⟩ := r
 obtain ⟨ob, xs, h1, h2⟩ := R.cell i _ a (getTl_eq g) e1
 refine ⟨a, ob, xs, e2, e1, h1, h2, ?_⟩
 rintro ⟨j, c, ⟨q1, q2⟩, q3⟩
 have : i = j := (List.getElem?_inj (List.getElem?_eq_some_iff.mp e1).1 R.nd).mp (e1.trans q3.symm)
 subst this
 rw [getTl_eq g] at q1
 cases q1
 exact q2
theorem dn_ofL {X : Cx} {pins : List Ya9} {σ : St} {H : Hp} {s : Shared} {a : Addr} {ob : Obj} {fz : Addr → Prop} {xs : List Ys} (I : Inv X pins σ H s) (e : H a = some (.frz ob (DitO X.w a xs))) (ks : KeysN X.K fz H xs) : (a == sysModules) = false ∧ ∃ ys, RelN xs ys ∧ s.heap.DictOfH (nestedKind X.prog X.w) a ys := by
 obtain ⟨_, ⟨z, hd, ys, r, nd, o, es, ep, h1, h2, h3, h4⟩, _, _⟩ := I.hok a _ e
 refine ⟨hd, ys, r, o, es, ep, h1, h2, h3, h4, fun y hy => ?_, nd⟩
 have all : ∀ {l : List (NestedKey × Addr × V)} {m : List (NestedKey × Addr × Value)}, RelN l m → KeysN X.K fz H l → ∀ y ∈ m, (nestedKind X.prog X.w).is s.heap y.1 y.2.1 := by
  intro l m q
  induction q with
  | nil => intro _ y hy; exact nomatch hy
  | @cons p q ps qs hq t ih =>
   intro kk y hy
   rcases List.mem_cons.mp hy with rfl | hy
   ·obtain ⟨t, a1, a2, a3⟩ := kk p Yv
    rw [← hq.1, ← hq.2.1]
    exact key_N I a1 a2 a3
   ·exact ih (fun x hx => kk x Yat) y hy
 exact all r ks y hy
def tLIn (KK : PySem.W.Frag) (w : World) (neg : Bool) (ty td : TE) : TE := fun σ H Q => ty σ H fun y H1 => td σ H1 fun x H2 => ∃ a ob xs k b, x = .ref a ∧ H2 a = some (.frz ob (DitO w a xs)) ∧ KeysX KK H2 xs ∧ NKey KK H2 y k b ∧ Q Yk2 H2
section
variable {X : Cx} {i o : Expr} {ty td : TE}
theorem pc_lnotin (hu : X.A.units + 64 < cLine) (hi : PE X i ty) (ho : PE X o td) : PC X .NotIn i o (tLIn X.K X.w true ty td) := by
 refine ⟨fun pins s σ H Q I h => ?_⟩
 refine thn (hi.run pins s σ H _ I h) fun iv s1 ⟨y, H1, I1, ry, q1⟩ => thn (ho.run pins s1 σ H1 _ I1 q1) fun u s2 ⟨x, H2, I2, rx, a, ob, xs, k, b, ex, e, ⟨fz, ks⟩, ⟨ey, fz', t, n1, n2, n3⟩, q2⟩ => ?_
 subst ex ey
 obtain rfl : u = Value.ref a := rx
 obtain rfl : iv = Value.ref b := ry
 obtain ⟨hd, ys, r, dd⟩ := dn_ofL I2 e ks
 show wpAny _ _ (do return Value.bool (!(← contains (Value.ref a) (Value.ref b)))) _ _ s2
 refine wpAny_bind (wpAny_contains_heap (room_N hu) (key_N I2 n1 n2 n3) hd dd (wpAny_pure ?_))
 refine ⟨.bl (!(valN xs k).isSome), H2, I2.tok _, ?_, q2⟩
 have := (r.val k).isSome_eq
 rw [Option.isSome_map] at this
 rw [this]
 rfl
end
def lIn (neg : Bool) : Op2 := fun b a hp => match a, asNk b with
 | .r i, some (_, k) => (match getTl hp i with | some kvs => .ok (.t (.bl (if neg then !(valT kvs k).isSome else (valT kvs k).isSome))) hp | none => .bad)
 | _, _ => .bad
section
variable {X : Cx} {Wx : WX} {k m : Expr} {Fk Fd : M W} {pos : Pos}
theorem t_lin {neg : Bool} {σ : St} {H : Hp} {Q : VK} (h : tE X.K X.w Wx (mBin (lIn neg) Fk Fd) σ H Q) : tLIn X.K X.w neg (tE X.K X.w Wx Fk) (tE X.K X.w Wx Fd) σ H Q :=
  tM.bind2 (Fam' := Rw X.K) (R := fun (y x : V) (H2 : Hp) => ∃ a ob xs k b, x = .ref a ∧ H2 a = some (.frz ob (DitO X.w a xs)) ∧ KeysX X.K H2 xs ∧ NKey X.K H2 y k b ∧ Q Yk2 H2) (k := fun (a b : W) _ hp => lIn neg a b hp) Rw.keep h fun s eta a b a' b' R1 S1 f2 f1 g => by
   unfold lIn at g
   split at g
   ·rename_i i t k hk
    split at g
    ·rename_i kvs h1
     obtain ⟨a, ob, xs, e, _, e2, l, _⟩ := R1.dil h1 f1
     obtain ⟨b, nk, _⟩ := nkey_of hk f2
     refine ⟨a, ob, xs, k, b, e, e2, ⟨_, l.keys⟩, nk, ?_⟩
     rw [l.isSome k]
     exact g _ s rfl Yl R1 Yk
    ·exact g.elim
   ·exact g.elim
theorem it_lNin (hu : X.A.units + 64 < cLine) (hi : IE X Wx k Fk) (ho : IE X Wx m Fd) (hm : behindInMarks .NotIn m = false := by rfl) : IT X Wx (.Compare k [.NotIn] [m] pos) (zah asB (mBin (lIn true) Fk Fd)) :=
 PT.imp (pt_cmp (pc_lnotin hu hi ho) hm) fun σ H Q h => t_lin (t_asB h)
end
def Itkn (w : World) (d : Addr) (o : Obj) (xs : List Ys) : It :=
 ⟨fun i H => H d = some (.frz o (DitO w d xs)) ∧ i < xs.length, fun i H x H' => H' = H ∧ ∃ y, xs[i]? = some y ∧ x = .ref y.2.1, fun i H => H d = some (.frz o (DitO w d xs)) ∧ xs.length ≤ i⟩
theorem frzN {X : Cx} {pins : List Ya9} {σ : St} {H : Hp} {s : Shared} {d : Addr} {o : Obj} {xs : List Ys} (I : Inv X pins σ H s) (e : H d = some (.frz o (DitO X.w d xs))) : (d == sysModules) = false ∧ s.heap.get? d = some o ∧ o.ExactDict ∧ ∃ (es : Array DictEntry) (ep : Nat), o.data = .dict es ep ∧ es.size = xs.length ∧
  ∀ (i : Nat) (hi : i < es.size), ∃ y, xs[i]? = some y ∧ es[i].key = .ref y.2.1 := by
 obtain ⟨ho, x⟩ := I.hok d _ e
 obtain ⟨z, lo, o', es, ep, h1, h2, h3, h4, h5⟩ := dn_raw x
 rw [ho] at h1
 cases h1
 exact ⟨lo, ho, h2, es, ep, h3, h4, h5⟩
theorem turn_keysN {P : Program} {w : World} {K : PySem.W.Frag} {tg : Expr} {d : Addr} {o : Obj} {es : Array DictEntry} {ep : Nat} {xs : List Ys} (it : Addr) (hod : o.data = .dict es ep) : Turn P w K tg (Itkn w d o xs) [it] it (fun i h => h.IsKeyIter it d i xs.length ep) where
 mem := by simp
 obj := fun i h st b hb => by
  have e : b = it := by simpa using hb
  subst e
  obtain ⟨oi, e, c, dd⟩ := st
  exact ⟨oi, e, fun v z => by rw [dd] at z; cases z⟩
 keep := fun i h h' st k => st.at fun oi e => k it Yaw oi e
 item := by
  intro X hP hw hK hc i pins s σ H E I hf st hg
  subst hP hw hK
  obtain ⟨hd, hi⟩ := hg
  obtain ⟨f0, f1, f2, f3, f4, f5⟩ := hf it Yaw
  obtain ⟨hs, hgd, hx, es', ep', hdt, hsz, ent⟩ := frzN I hd
  obtain ⟨rfl, rfl⟩ := dict_ep hod hdt
  have hi' : i < es'.size := by omega
  obtain ⟨y, hy, hkey⟩ := ent i hi'
  refine next_key_item st hgd hdt hsz (Array.getElem?_eq_getElem hi') fun h' st' sb => ?_
  have I1 : Inv X pins σ H { s with heap := h' } := I.turned (t' := s.toks) (fun b ob hb e => (sb.2 b hb).trans e) f0 f1 f3 f4 f5
  obtain ⟨oi, e, c, dd⟩ := id st'
  exact ⟨es'[i].key, rfl, go_of (s := { s with heap := h' }) e c dd Yct ⟨.ref y.2.1, H, I1, hkey, ⟨rfl, y, hy, rfl⟩, st', fun b hb => (hf b hb).1⟩⟩
 done := by
  intro X hP hw hK hc i pins s σ H E I hf st hg
  subst hP hw hK
  obtain ⟨hd, hi⟩ := hg
  obtain ⟨f0, f1, f2, f3, f4, f5⟩ := hf it Yaw
  obtain ⟨hs, hgd, hx, es', ep', hdt, hsz, ent⟩ := frzN I hd
  obtain ⟨rfl, rfl⟩ := dict_ep hod hdt
  exact next_key_end (I.ok.hd hc) st hgd hdt hsz hi fun h' eb => ⟨rfl, I.turned (t' := s.toks) (fun b ob hb e => eb b ob hb e) f0 f1 f3 f4 f5⟩
 self := fun A i s Q E st h => by
  refine wpAny_pyIter_slot st.typeIs F.slot_dict_keyiterator_iter (wpAny_call_entry F.slot_dict_keyiterator_iter st.typeIs F.entry_dict_keyiterator_iter ?_ (F.args_dict_keyiterator_iter_1 _))
  show wpAny _ _ (ret (.ref it)) _ _ s
  exact wpAny_pure ⟨_, rfl, "dict_keyiterator", _, st.typeIs, F.slot_dict_keyiterator_next.lookup, h⟩
def iKeysN (w : World) (td : TE) : TI := fun σ H R => td σ H fun x H1 => ∃ d o xs, x = .ref d ∧ H1 d = some (.frz o (DitO w d xs)) ∧ R (Itkn w d o xs) H1
theorem pi_keysN {X : Cx} {tg e : Expr} {td : TE} (he : PE X e td) : PI X tg e (iKeysN X.w td) := by
 refine ⟨fun pins s σ H R I h => ?_⟩
 refine thn Yeo fun u s1 ⟨x, H1, I1, rx, d, o, xs, ex, hd, q⟩ => ?_
 subst ex
 obtain rfl : u = Value.ref d := rx
 obtain ⟨hs, hgd, hx, es, ep, hdt, hsz, ent⟩ := frzN I1 hd
 refine iter_keys hs hgd hx hdt (pi_one (tk := s1.toks) I1 _ (turn_keysN _ hdt) ⟨_, Heap.get?_push_size _ rfl, rfl, ?_⟩ q)
 rw [hsz] <;> rfl
def keysN (a : W) (hp : IH) : Res (List W) := match a with
 | .r i => (match getTl hp i with | some kvs => .ok (kvs.map fun kv => W.t kv.1) hp | none => .bad)
 | _ => .bad
def mKeysN (F : M W) : M (List W) := fun eta hp => (F eta hp).bind keysN
theorem src_keysN {K : PySem.W.Frag} {ω : World} {s : S4} (R : Rel K ω s) {a : Addr} {ob : Obj} {kvs : List (T × W)} {xs : List Ys} (nl : ¬ Live s a) (e : s.H a = some (.frz ob (DitO ω a xs))) (l : RwD K s kvs xs) : SrcF K ω s (kvs.map fun kv => W.t kv.1) (Itkn ω a ob xs) := by
 intro s' A' R' i
 have q := A'.keep a _ e nl
 have hl := l.length
 have l' := RfL.aft A' R _ _ l.keyRf
 refine ⟨fun w hw => ?_, fun e2 => ⟨q, by rw [e2, List.length_map, hl]; exact Nat.le_refl _⟩⟩
 rw [List.getElem?_map, Option.map_eq_some_iff] at hw
 obtain ⟨kv, hk, rfl⟩ := hw
 have hi : i < kvs.length := (List.getElem?_eq_some_iff.mp hk).1
 refine ⟨⟨q, by omega⟩, fun x H' y => ?_⟩
 obtain ⟨eH, z, hz, ex⟩ := y
 refine ⟨s', eH.symm, rfl, Aft.refl _, R', ?_⟩
 obtain ⟨v, hv, rv⟩ := RfL.get (i := i) (w := kv.1) l' (by rw [List.getElem?_map, hk]; rfl)
 rw [keyVs, List.getElem?_map, hz] at hv
 cases hv
 rw [ex]
 exact rv
theorem ii_keysN {X : Cx} {Wx : WX} {tg e : Expr} {F : M W} (he : IE X Wx e F) : II X Wx tg e (mKeysN F) :=
 PI.imp (pi_keysN he) fun σ H Q h =>
 tM.bind1 (R := fun (x : V) (H1 : Hp) => ∃ d o xs, x = .ref d ∧ H1 d = some (.frz o (DitO X.w d xs)) ∧ Q (Itkn X.w d o xs) H1) (k := fun (a : W) _ h1 => keysN a h1) h fun s eta w v R1 S1 f1 g => by
  unfold keysN at g
  split at g
  ·rename_i i
   split at g
   ·rename_i kvs hd
    obtain ⟨a, ob, xs, rfl, _, e2, l, nl⟩ := R1.dil hd f1
    exact ⟨a, ob, xs, rfl, e2, Go.src R1 g (src_keysN R1 nl e2 l)⟩
   ·exact g.elim
  ·exact g.elim
end Mir
namespace Mir
open PySem PySem.Spec L2
open PyProof.Rows hiding St
end Mir
namespace Mir
open PySem PySem.Spec L2
open PyProof.Rows hiding St
/-- the pairs laid so far -/
structure ZLaid (Rel : Nat → Value → Value → Prop) (lo : Nat) (h : Heap) (as : List Addr) : Prop where
 rise : as.Pairwise (· < ·)
 above : ∀ a ∈ as, lo ≤ a
 pairs : ∀ (j : Nat) (a : Addr), as[j]? = some a → ∃ x y, Rel j x y ∧ IsTupOf2 h a x y
theorem ZLaid.there {Rel : Nat → Value → Value → Prop} {lo : Nat} {h : Heap} {as : List Addr} (g : ZLaid Rel lo h as) {a : Addr} (ha : a ∈ as) : a < h.objs.size := by
 obtain ⟨j, hj⟩ := List.mem_iff_getElem?.mp ha
 obtain ⟨_, _, _, e⟩ := g.pairs j a hj
 exact Heap.lt_size e
end Mir
namespace Mir
open PySem PySem.Spec L2
open PyProof.Rows hiding St
/-- what a suite asks of the class of its exception -/
structure XcF (K : PySem.W.Frag) (C : Addr) : Prop where
 ga : PySem.W.findIn K (.ref C) "__getattribute__" = some (some (.builtin "BaseException.__getattribute__"))
 gg : PySem.W.findIn K (.ref C) "__getattr__" = some none
 exC : PySem.W.subIn K (.ref C) Ya3 = some true
 hd : PySem.W.hasDictIn K C = true
 ha : PySem.W.findIn K (.ref C) "__class__" = some (some Yav)
 hn : PySem.W.specialIn K Yav "__get__" = some Yhv
 ht : PySem.W.takesIn K Yav = some true
 hm : PySem.W.mroIn K C Ykb = some true
theorem XcF.cl {K : PySem.W.Frag} {C : Addr} (x : XcF K C) : (PySem.W.clsIn K C).isSome = true := by
 obtain ⟨cd, hc, _⟩ := PySem.W.any_some x.hd
 rw [hc]; rfl
/-- a reading in a suite: slot i holds the exception, of class c -/
def tXM {A B : Type} (K : PySem.W.Frag) (ω : World) (Fam : S4 → A → B → Prop) (a : Addr) (cls : Value) (d : Option Addr) (i : Nat) (c : Str) (F : Ex → M A) : L2.St → Hp → (B → Hp → Prop) → Prop := fun σ H Q =>
 σ[i]? = some Yed ∧ ∃ (ex : Ex) (s : S4) (eta : IS), s.H = H ∧ Rel K ω s ∧ Sl K s eta σ ∧ ex.cls = c ∧ ExR K s ex cls d ∧ Go K ω W0 Fam s (F ex eta s.hp) Q
theorem ExR.aft {K : PySem.W.Frag} {ω : World} {s s' : S4} {e : Ex} {cls : Value} {d : Option Addr} (h : ExR K s e cls d) (A : Aft s s') (R : Rel K ω s) (nl : ∀ x, d = some x → ¬ Live s x) : ExR K s' e cls d := by
 obtain ⟨C, e1, cn, h⟩ := h
 refine ⟨C, e1, cn, ?_⟩
 rcases h with h | ⟨dd, vs, e2, e3, r⟩
 ·exact .inl h
 ·exact .inr ⟨dd, vs, e2, A.keep dd _ e3 (nl dd e2), RwF.aft A R _ _ r⟩
theorem ExR.nl {K : PySem.W.Frag} {ω : World} {s : S4} {e : Ex} {cls : Value} {d : Option Addr} (h : ExR K s e cls d) (R : Rel K ω s) : ∀ x, d = some x → ¬ Live s x := fun x ex l => by
 obtain ⟨C, _, _, h⟩ := h
 rcases h with ⟨_, h⟩ | ⟨dd, vs, e2, e3, _⟩
 ·rw [h] at ex; cases ex
 ·obtain rfl : dd = x := by rw [e2] at ex; exact Option.some.inj ex
  obtain ⟨i, c, ⟨hc, _⟩, hr⟩ := l
  have := R.cell i c dd hc hr
  rw [e3] at this
  cases c with
  | lst ws => obtain ⟨vs, e, _⟩ := this; cases e
  | dic kvs => obtain ⟨vs, e, _⟩ := this; cases e
  | ins c fs => obtain ⟨C, dx, vs, e, _⟩ := this; cases e
  | dit kvs => obtain ⟨vs, e, _⟩ := this; unfold DitO at e; cases e
  | tpl ws => obtain ⟨ob, vs, e, _⟩ := this; cases e
  | dil kvs => obtain ⟨ob, vs, e, _⟩ := this; cases e
section
variable {X : Cx} {a : Addr} {oe : Obj} {cls : Value} {d : Option Addr} {pn : List Ya9} {i : Nat} {c : Str}
def XE (X : Cx) (a : Addr) (oe : Obj) (cls : Value) (d : Option Addr) (pn : List Ya9) (i : Nat) (c : Str) (e : Expr) (F : Ex → M W) : Prop := PE (X.suite a Yhu) e (tXM X.K X.w (Rw X.K) a cls d i c F)
def XT (X : Cx) (a : Addr) (oe : Obj) (cls : Value) (d : Option Addr) (pn : List Ya9) (i : Nat) (c : Str) (e : Expr) (F : Ex → M Bool) : Prop := PT (X.suite a Yhu) e (tXM X.K X.w (fun _ (x y : Bool) => x = y) a cls d i c F)
def XW (X : Cx) (a : Addr) (oe : Obj) (cls : Value) (d : Option Addr) (pn : List Ya9) (i : Nat) (c : Str) (e : Expr) (F : Ex → M Bool) : Prop := PW (X.suite a Yhu) e (tXM X.K X.w (fun _ (x y : Bool) => x = y) a cls d i c F)
variable {e e2 e3 : Expr} {es : List Expr} {F G L : Ex → M W} {Fs : Ex → M (List W)} {U V' : Ex → M Bool} {pos p p2 : Pos} {n : Str}
theorem XW.t (h : XW X a oe cls d pn i c e U) : XT X a oe cls d pn i c e U := PW.pt h
variable {x : Str} {rest suite : List Stmt} {Gs : Ex → M Fl} {j : Nat}
end
section
variable {K : PySem.W.Frag} {C D : Addr} {b : Bool} {c t o : Str} {n : String}
theorem zev {T : String} (hm : PySem.W.kitMeta T = true) (s : PySem.W.subIn K (.ref C) (.type T) = some b) : PySem.W.kitOne K (.ref C) (.type T) = some b := by
 unfold PySem.W.kitOne
 rw [show ((Value.ref C) == .type T) = false from rfl, if_neg Yct]
 exact (if_pos hm).trans s
end
end Mir
namespace Mir
open PySem PySem.Spec L2
open PyProof.Rows hiding St
section
variable {P : Program} {w : World} {A : Around} {E : Value → Shared → Prop} {s : Shared}
/-- at a stands the set of the tuples L, with room to spare -/
structure SetGr (P : Program) (w : World) (h : Heap) (a : Addr) (L : List Yeg) (es : Array (Int × Value)) (ep : Nat) (t : SetTable) : Prop where
 ob : ∃ o, h.get? a = some o ∧ o.ExactSet ∧ o.data = .set es ep t
 rows : es.toList = L.map fun p => (hK P w p.2, Value.ref p.1)
 tab : TabOk t (L.map fun p => hK P w p.2)
 nd : (L.map (·.2)).Nodup
 tup : ∀ p ∈ L, IsK P w h p.2 p.1
 room : L.length * 5 < t.mask * 3
 few : L.length < 64
variable {a : Addr} {L : List Yeg} {es : Array (Int × Value)} {ep : Nat} {t : SetTable}
theorem SetGr.size (R : SetGr P w s.heap a L es ep t) : es.size = L.length := by
 rw [← Array.length_toList, R.rows, List.length_map]
theorem SetGr.psize (R : SetGr P w s.heap a L es ep t) : t.place.size = L.length := by rw [R.tab.sz, List.length_map]
theorem SetGr.fits (R : SetGr P w s.heap a L es ep t) : t.fits es.size = true := by
 have h1 := R.psize
 have h2 := R.size
 have h3 := R.room
 unfold SetTable.fits SetTable.fill
 rw [R.tab.dm, Bool.and_eq_true, beq_iff_eq, decide_eq_true_eq]
 show t.place.size = es.size ∧ t.place.size + 0 ≤ t.mask
 omega
theorem SetGr.at_ (R : SetGr P w s.heap a L es ep t) {i : Nat} {p : Addr × List Key} (h : L[i]? = some p) : es[i]? = some (hK P w p.2, Value.ref p.1) := by
 rw [← Array.getElem?_toList, R.rows, List.getElem?_map, h]
 rfl
end
end Mir
namespace Mir
open PySem PySem.Spec L2
open PyProof.Rows hiding St
/-- a step made n times over nothing -/
def recN (S : OpN → OpN) : Nat → OpN
 | 0 => fun _ _ => .bad
 | n + 1 => S (recN S n)
theorem recN_len {S : OpN → OpN} {m : Nat} (h : ∀ G ws hp, ws.length ≠ m → S G ws hp = .bad) : ∀ (k : Nat) ws hp, ws.length ≠ m → recN S k ws hp = .bad
 | 0, _, _, _ => rfl
 | k + 1, ws, hp, e => h (recN S k) ws hp e
section
variable {P : Program} {w : World} {K : PySem.W.Frag} {mg : Str → Option Value} {base : Heap} {f : Addr} {fd : FuncData} {ps : List Str}
theorem fnG_bot {k m : Nat} {CX : CXT} (hp : m = ps.length) : FnG P w K mg base CX k f fd ps (spM K w (fun _ _ => .bad) m) :=
 ⟨fun vs H Q E h => hp ▸ spM_len h, fun A outer s H args us vs Q E hr hg e0 hb r h => by
  obtain ⟨_, _, _, _, _, _, g⟩ := h
  exact g.elim⟩
theorem fnG_rec {S : OpN → OpN} {L m : Nat} {CX : CXT} (hS : ∀ G ws hp, ws.length ≠ m → S G ws hp = .bad)
  (step : ∀ (G : OpN) (r : Nat), (∀ ws hp, ws.length ≠ m → G ws hp = .bad) → FnG P w K mg base CX (L + r) f fd ps (spM K w G m) → FnG P w K mg base CX (L + r + 1) f fd ps (spM K w (S G) m)) (hp : m = ps.length) :
  ∀ n, FnG P w K mg base CX (L + n) f fd ps (spM K w (recN S n) m)
 | 0 => fnG_bot hp
 | n + 1 => step (recN S n) n (recN_len hS n) (fnG_rec hS step hp n)
end
end Mir
namespace Mir
open PySem PySem.Spec L2
open PyProof.Rows hiding St
/-- the run ends well, with a value and a heap of which Q holds -/
structure Wp {A : Type} (r : Res A) (Q : A → IH → Prop) : Prop where
 out : match r with
  | .ok a h => Q a h
  | _ => False
section
variable {A B : Type} {r : Res A} {k : A → IH → Res B} {P Q : A → IH → Prop} {R : B → IH → Prop} {a : A} {h hp : IH}
theorem Wp.ok (q : Q a h) : Wp (.ok a h) Q := ⟨q⟩
theorem Wp.ex (q : Wp r Q) : ∃ a h, r = .ok a h ∧ Q a h := by
 obtain ⟨q⟩ := q
 cases r <;> first | exact ⟨_, _, rfl, q⟩ | exact q.elim
theorem Wp.bind (q : Wp r fun a h => Wp (k a h) R) : Wp (r.bind k) R := by
 obtain ⟨a, h, rfl, q2⟩ := q.ex
 exact q2
theorem Wp.noEr (q : Wp r Q) : Wp (noEr r) Q := by
 obtain ⟨a, h, rfl, q2⟩ := q.ex
 exact Wp.ok q2
theorem Wp.mono (q : Wp r P) (i : ∀ a h, P a h → Q a h) : Wp r Q := by
 obtain ⟨a, h, rfl, q2⟩ := q.ex
 exact Wp.ok (i _ _ q2)
theorem Wp.of (e : r = .ok a h) (q : Q a h) : Wp r Q := by rw [e]; exact Wp.ok q
theorem Wp.rw {r' : Res A} (e : r = r') (q : Wp r' Q) : Wp r Q := by rw [e]; exact q
theorem Wp.itt {c : Prop} [Decidable c] {x y : Res A} (hc : c) (t : Wp x Q) : Wp (if c then x else y) Q := by rw [if_pos hc]; exact t
theorem Wp.itf {c : Prop} [Decidable c] {x y : Res A} (hc : ¬ c) (t : Wp y Q) : Wp (if c then x else y) Q := by rw [if_neg hc]; exact t
end
section
variable {eta : IS} {hp : IH} {Q : W → IH → Prop} {QL : List W → IH → Prop} {QB : Bool → IH → Prop} {QF : Fl → IH → Prop}
theorem zfy {i : Nat} {w : W} (e : eta[i]? = some (some w)) (q : Q w hp) : Wp (mVar i eta hp) Q := Wp.of (varP e) q
theorem vc_c {x : T} (q : Q (.t x) hp) : Wp (mC x eta hp) Q := Wp.ok q
theorem vc_bin {f : Op2} {Fa Fb : M W} (q : Wp (Fa eta hp) fun a h1 => Wp (Fb eta h1) fun b h2 => Wp (f a b h2) Q) : Wp (mBin f Fa Fb eta hp) Q := Wp.bind (q.mono fun _ _ q => Wp.bind q)
theorem vc_un {f : Op1} {Fa : M W} (q : Wp (Fa eta hp) fun a h1 => Wp (f a h1) Q) : Wp (mUn f Fa eta hp) Q := Wp.bind q
theorem vc_nil (q : QL [] hp) : Wp (mNil eta hp) QL := Wp.ok q
theorem zd8 {Fa : M W} {Fr : M (List W)} (q : Wp (Fa eta hp) fun a h1 => Wp (Fr eta h1) fun r h2 => QL (a :: r) h2) : Wp (zac Fa Fr eta hp) QL := Wp.bind (q.mono fun _ _ q => Wp.bind Yfu)
theorem vc_app {f : OpN} {Fs : M (List W)} (q : Wp (Fs eta hp) fun ws h1 => Wp (f ws h1) Q) : Wp (mApp f Fs eta hp) Q := Wp.bind q
theorem vc_test {f : W → IH → Res Bool} {F : M W} (q : Wp Yji fun a h1 => Wp (f a h1) QB) : Wp (zah f F eta hp) QB := Wp.bind q
theorem vc_asB {b : Bool} (q : QB b hp) : Wp (asB Ye9 hp) QB := Wp.ok q
theorem vc_and {U V : M Bool} (q : Wp (U eta hp) fun a h1 => Wp (if a then V eta h1 else .ok false h1) QB) : Wp (mAnd U V eta hp) QB := Wp.bind q
theorem vc_or {U V : M Bool} (q : Wp (U eta hp) fun a h1 => Wp (if a then .ok true h1 else V eta h1) QB) : Wp (mOr U V eta hp) QB := Wp.bind q
theorem vc_not {U : M Bool} (q : Wp (U eta hp) fun a h1 => QB (!a) h1) : Wp (mNot U eta hp) QB := Wp.bind Yfu
theorem vc_if {A : Type} {QA : A → IH → Prop} {U : M Bool} {F G : M A} (q : Wp (U eta hp) fun b h1 => Wp (if b then F eta h1 else G eta h1) QA) : Wp (mIf U F G eta hp) QA := Wp.bind q
theorem zgj (q : QF Yhm hp) : Wp (za8 eta hp) QF := Wp.ok q
theorem zb5 {S R : M Fl} (q : Wp (S eta hp) fun fl h1 => Wp (thenF R fl h1) QF) : Wp (mSeq S R eta hp) QF := Wp.bind q
theorem zem {R : M Fl} {e : IS} (q : Wp (R e hp) QF) : Wp (thenF R (.nx e) hp) QF := q
theorem vc_rt {R : M Fl} {w : W} (q : QF (.rt w) hp) : Wp (thenF R (.rt w) hp) QF := Wp.ok q
theorem vc_ret {F : M W} (q : Wp Yji fun a h1 => QF (.rt a) h1) : Wp (mRet F eta hp) QF := Wp.bind Yfu
theorem vc_drop {F : M W} (q : Wp Yji fun _ h1 => QF Yhm h1) : Wp (mDrop F eta hp) QF := Wp.bind Yfu
theorem zfa {i : Nat} {F : M W} (q : Wp Yji fun a h1 => QF (.nx Yf2) h1) : Wp (mSet i F eta hp) QF := Wp.bind Yfu
theorem vc_asg {F : M W} {G : W → IS → Option IS} (q : Wp Yji fun a h1 => ∃ e, G a eta = some e ∧ QF (.nx e) h1) : Wp (mAsg F G eta hp) QF := Wp.bind (q.mono fun a h1 ⟨e, he, q⟩ => by show Wp (match G a eta with | some e => .ok (.nx e) h1 | none => .bad) QF; rw [he]; exact Wp.ok q)
theorem vc_par2 {i j : Nat} {Fs : M (List W)} (q : Wp (Fs eta hp) fun ws h1 => ∃ a b, ws = [a, b] ∧ QF (.nx ((eta.set i (some a)).set j (some b))) h1) : Wp (mPar [i, j] Fs eta hp) QF := Wp.bind (q.mono fun ws h1 ⟨a, b, he, q⟩ => by subst he; exact Wp.ok q)
theorem vc_parG {n : Nat} {Fs : M (List W)} {Gs : List W → IS → Option IS} (q : Wp (Fs eta hp) fun ws h1 => (ws.length = n ∧ n ≤ 16777216) ∧ ∃ e, Gs ws eta = some e ∧ QF (.nx e) h1) : Wp (mParG n Fs Gs eta hp) QF := Wp.bind (q.mono fun ws h1 ⟨hl, e, he, q⟩ => by
 show Wp (if ws.length = n ∧ n ≤ 16777216 then (match Gs ws eta with | some e => .ok (.nx e) h1 | none => .bad) else .bad) QF
 rw [if_pos hl, he]
 exact Wp.ok q)
theorem vc_for {Fi : M (List W)} {G : W → IS → Option IS} {S : M Fl} (q : Wp (Fi eta hp) fun ws h1 => Wp (forL G S ws eta h1) QF) : Wp (mFor Fi G S eta hp) QF := Wp.bind q
theorem vc_sq {F : M W} (q : Wp Yji fun a h1 => Wp (sqI a h1) QL) : Wp (mSq F eta hp) QL := Wp.bind q
theorem vc_src {f : List W → IH → Res (List W)} {Fs : M (List W)} (q : Wp (Fs eta hp) fun ws h1 => Wp (f ws h1) QL) : Wp (mSrc f Fs eta hp) QL := Wp.bind q
theorem vc_call {f : OpN} {Fs : M (List W)} (q : Wp (Fs eta hp) fun ws h1 => Wp (f ws h1) Q) : Wp (zar f [] Fs eta hp) Q := Wp.bind (q.mono fun ws h1 q => by
 show Wp (noEr (f (ws ++ [].map W.t) h1)) Q
 rw [List.map_nil, List.append_nil]
 exact Wp.noEr q)
theorem vc_callD {f : OpN} {ds : List T} {Fs : M (List W)} (q : Wp (Fs eta hp) fun ws h1 => Wp (f (ws ++ ds.map W.t) h1) Q) : Wp (zar f ds Fs eta hp) Q := Wp.bind (q.mono fun ws h1 q => Wp.noEr q)
theorem vc_meth {ty : W → IH → Bool} {f : OpM} {Fo : M W} {Fs : M (List W)} (q : Wp (Fo eta hp) fun w h1 => ty w h1 = true ∧ Wp (Fs eta h1) fun ws h2 => Wp (f w ws h2) Q) : Wp (mMeth ty f Fo Fs eta hp) Q := Wp.bind (q.mono fun w h1 ⟨t, q⟩ => by
 show Wp (if ty w h1 = true then (Fs eta h1).bind fun ws h2 => f w ws h2 else .bad) Q
 rw [if_pos t]
 exact Wp.bind q)
theorem vc_sl {Fa : M W} {Fl Fh : MO} (q : Wp (Fa eta hp) fun a h1 => Wp (Fl eta h1) fun l h2 => Wp (Fh eta h2) fun h h3 => Wp (slW a l h h3) Q) : Wp (mSl Fa Fl Fh eta hp) Q := Wp.bind Ylh
theorem vc_slL {Fa : M W} {Fl Fh : MO} (q : Wp (Fa eta hp) fun a h1 => Wp (Fl eta h1) fun l h2 => Wp (Fh eta h2) fun h h3 => Wp (slL a l h h3) Q) : Wp (mSlL Fa Fl Fh eta hp) Q := Wp.bind Ylh
theorem vc_noPart {QO : Option Int → IH → Prop} (q : QO none hp) : Wp (zca eta hp) QO := Wp.ok q
theorem vc_part {QO : Option Int → IH → Prop} {F : M W} (q : Wp Yji fun a h1 => ∃ i, a = .t (.int i) ∧ QO (some i) h1) : Wp (ze8 F eta hp) QO := Wp.bind (q.mono fun a h1 ⟨i, e, q⟩ => by subst e; exact Wp.ok q)
theorem vc_fz {i : Nat} {S : M Fl} {w : W} (e : eta[i]? = some (some w)) (q : Wp (zdi w hp) fun w' h1 => Wp (S (eta.set i (some w')) h1) QF) : Wp (mFz i S eta hp) QF := by
 rw [p_fz, e]
 exact Wp.bind q
theorem vc_comp {fin : OpN} {Fi : M (List W)} {G : W → IS → Option IS} {U : M Bool} {E : M W} {vs : List Nat} (q : Wp (Fi eta hp) fun ws h1 => ws.length ≤ 16777216 ∧ Wp (zb3 G U E (zbp eta vs) ws h1) fun r h2 => Wp (fin r h2) Q) : Wp (zba fin Fi G U E vs eta hp) Q := Wp.bind (q.mono fun ws h1 ⟨hl, q⟩ => by
 show Wp (if ws.length ≤ 16777216 then (zb3 G U E (zbp eta vs) ws h1).bind fun r h2 => fin r h2 else .bad) Q
 rw [if_pos hl]
 exact Wp.bind q)
theorem vc_chain {f g : Op2} {Fa Fb Fc : M W} (q : Wp (Fa eta hp) fun a h1 => Wp (Fb eta h1) fun b h2 => Wp (f a b h2) fun z h3 => ∃ t, z = .t (.bl t) ∧ if t then Wp (Fc eta h3) fun c h4 => Wp (g b c h4) Q else Q (.t Yo) h3) : Wp (mChain f g Fa Fb Fc eta hp) Q :=
 Wp.bind (q.mono fun _ _ q => Wp.bind (q.mono fun _ _ q => Wp.bind (q.mono fun z h3 ⟨t, e, q⟩ => by subst e; cases t <;> first | exact Wp.ok q | exact Wp.bind q)))
theorem vc_fld {cs : List Str} {f : Str} {F : M W} (q : Wp Yji fun a h1 => Wp (fldW cs f a h1) Q) : Wp (mFld cs f F eta hp) Q := Wp.bind q
theorem vc_yes (q : QB true hp) : Wp (mYes eta hp) QB := Wp.ok q
theorem vc_lstE {ws : List W} {ts : List T} (e : allT ws = some ts) (hl : ts.length ≤ 16777216) (q : Q Yas hp) : Wp (zay ws hp) Q := by
 unfold zay
 simp only [e, hl, if_true]
 exact Wp.ok q
theorem vc_tupE {ws : List W} {ts : List T} (e : allT ws = some ts) (hl : ts.length ≤ 16777216) (q : Q Yaq hp) : Wp (zaw ws hp) Q := by
 unfold zaw
 simp only [e, hl, if_true]
 exact Wp.ok q
theorem allT_ts : ∀ ts : List T, allT Yw = some ts
 | [] => rfl
 | t :: ts => by simp only [List.map_cons, allT, allT_ts ts]; rfl
theorem vc_lstM {ts : List T} (hl : ts.length ≤ 16777216) (q : Q Yas hp) : Wp (zay Yw hp) Q := vc_lstE (allT_ts ts) hl q
theorem vc_sqL {ts : List T} (q : QL Yw hp) : Wp (sqI Yas hp) QL := Wp.ok q
theorem vc_sqT {ts : List T} (q : QL Yw hp) : Wp (sqI Yaq hp) QL := Wp.ok q
theorem vc_slWl {ts : List T} {lo hi : Option Int} (q : Q (.t (.lst Yi7)) hp) : Wp (slW Yas lo hi hp) Q := Wp.ok q
theorem vc_slWt {ts : List T} {lo hi : Option Int} (q : Q (.t (.tup Yi7)) hp) : Wp (slW Yaq lo hi hp) Q := Wp.ok q
theorem vc_slLl {ts : List T} {lo hi : Option Int} (q : Q Ydp (hp ++ [some (.lst (cutL Yw lo hi))])) : Wp (slL Yas lo hi hp) Q := Wp.ok q
/-- + of lists, live or not -/
theorem vc_addL {a b : W} {xs ys : List T} (ha : (hitems hp a) = some (xs.map W.t)) (hb : (hitems hp b) = some (ys.map W.t)) (hl : xs.length + ys.length ≤ 16777216) (q : Q Yll hp) : Wp (wAdd a b hp) Q := by
 have key : wAdd a b hp = (match (hitems hp a).bind allT, (hitems hp b).bind allT with
  | some xs, some ys => if xs.length + ys.length ≤ 16777216 then .ok Yll hp else .bad
  | _, _ => .bad) := by
  cases a with
  | t x => cases x <;> first | rfl | (simp [hitems] at ha)
  | r i => rfl
 rw [key, ha, hb, Option.bind_some, Option.bind_some, allT_ts, allT_ts]
 simp only [hl, if_true]
 exact Wp.ok q
theorem vc_sm {f : OpM} {Fo Fe : M W} (q : Wp (Fo eta hp) fun w h1 => ∃ a, w = .t (.str a) ∧ Wp (Fe eta h1) fun u h2 => Wp (f Yee [u] h2) Q) : Wp (mSM f Fo Fe eta hp) Q := Wp.bind (q.mono fun w h1 ⟨a, e, q⟩ => by subst e; exact Wp.bind q)
theorem vc_frz {F : M W} (q : Wp Yji fun a h1 => Wp (zdi a h1) Q) : Wp (mFrz F eta hp) Q := Wp.bind q
theorem vc_frzD {F : M W} (q : Wp Yji fun a h1 => Wp (freezeD a h1) Q) : Wp (mFrzD F eta hp) Q := Wp.bind q
/-- a comprehension that changes no heap: each is kept or not, and told -/
theorem vc_mapG {A : Type} {G : W → IS → Option IS} {U : M Bool} {E : M W} {src : A → W} {p : A → Bool} {g : A → T} : ∀ (as : List A), (∀ a ∈ as, ∃ e1, G (src a) eta = some e1 ∧ U e1 hp = .ok (p a) hp ∧ (p a = true → E e1 hp = .ok (.t (g a)) hp)) → zb3 G U E eta (as.map src) hp = .ok (((as.filter p).map g).map W.t) hp
 | [], _ => rfl
 | a :: as, h => by
  obtain ⟨e1, g1, u1, x1⟩ := h a Yv
  have ih := vc_mapG as fun b hb => h b Yja
  simp only [List.map_cons, zb3, turnL, g1, zd2, Res.bind_assoc, u1, zc7, zao, List.filter_cons]
  cases e : p a with
  | false => simp only [Bool.false_eq_true, if_false, zc7, zao, ih]
  | true => simp only [if_true, x1 e, zc7, zao, ih, List.map_cons]
theorem filter_tt {A : Type} : ∀ l : List A, l.filter (fun _ => true) = l := fun l => List.filter_eq_self.mpr fun _ _ => rfl
theorem vc_mapA {A : Type} {G : W → IS → Option IS} {E : M W} {src : A → W} {g : A → T} (as : List A) (h : ∀ a ∈ as, ∃ e1, G (src a) eta = some e1 ∧ E e1 hp = .ok (.t (g a)) hp) (q : QL ((as.map g).map W.t) hp) : Wp (zb3 G mYes E eta (as.map src) hp) QL := by
 have := vc_mapG (U := mYes) (p := fun _ => true) as fun a ha => let ⟨e1, a1, a2⟩ := h a ha; ⟨e1, a1, rfl, fun _ => a2⟩
 rw [filter_tt] at this
 exact Wp.of this q
theorem vc_fnM {n nn : Nat} {B : M Fl} {ws : List W} {eta : IS} (hl : ws.length = n) (he : ws.map some ++ List.replicate (nn - n) none = eta) (q : Wp (B eta hp) fun fl h1 => ∃ w, fl = .rt w ∧ Q w h1) : Wp (fnM n nn B ws hp) Q := by
 obtain ⟨fl, h1, e, w, rfl, q⟩ := q.ex
 exact Wp.of (fnM_ok hl he e) q
theorem vc_fnP {n nn : Nat} {B : M Fl} {ts : List T} {eta : IS} (hl : ts.length = n) (he : (ts.map W.t).map some ++ List.replicate (nn - n) none = eta) (q : Wp (B eta []) fun fl _ => ∃ t, fl = .rt (.t t) ∧ Q (.t t) hp) : Wp (fnP n nn B Yw hp) Q := by
 obtain ⟨fl, h1, e, t, rfl, q⟩ := q.ex
 exact Wp.of (zch hl he e) q
/-- a loop: I holds ahead of each turn, of what is still to come -/
theorem vc_loop {G : W → IS → Option IS} {S : M Fl} (I : List W → IS → IH → Prop) (turn : ∀ w ws eta hp, I (w :: ws) eta hp → ∃ e1, G w eta = some e1 ∧ Wp (S e1 hp) fun fl h => ∃ e, fl = .nx e ∧ I ws e h) : ∀ (ws : List W) (eta : IS) (hp : IH), I ws eta hp → (∀ e h, I [] e h → QF (.nx e) h) → Wp (forL G S ws eta hp) QF
 | [], eta, hp, i, q => Wp.ok (q _ _ i)
 | w :: ws, eta, hp, i, q => by
  obtain ⟨e1, g, t⟩ := turn w ws eta hp i
  obtain ⟨fl, h, e, e2, rfl, i2⟩ := t.ex
  have r := vc_loop I turn ws e2 h i2 q
  simp only [forL, g]
  rw [e, zao]
  exact r
/-- a comprehension: acc is what has been gathered -/
theorem vc_compL {G : W → IS → Option IS} {U : M Bool} {E : M W} (I : List W → List W → IH → Prop) (turn : ∀ w ws acc hp, I (w :: ws) acc hp → ∃ e1, G w eta = some e1 ∧ Wp (U e1 hp) fun b h1 => if b then Wp (E e1 h1) fun x h2 => I ws (acc ++ [x]) h2 else I ws acc h1) : ∀ (ws acc : List W) (hp : IH) (QL : List W → IH → Prop), I ws acc hp → (∀ r h, I [] (acc ++ r) h → QL r h) → Wp (zb3 G U E eta ws hp) QL
 | [], acc, hp, QL, i, q => Wp.ok (q [] _ (by rw [List.append_nil]; exact i))
 | w :: ws, acc, hp, QL, i, q => by
  obtain ⟨e1, g, t⟩ := turn w ws acc hp i
  obtain ⟨b, h1, eb, t⟩ := t.ex
  simp only [zb3, turnL, g, zd2, Res.bind_assoc, eb, zc7, zao]
  cases b with
  | false =>
   have := vc_compL I turn ws acc h1 QL (by simpa using t) q
   simp only [Bool.false_eq_true, if_false, zc7, zao]
   exact Wp.bind (this.mono fun _ _ q => Wp.ok q)
  | true =>
   simp only [if_true] at t ⊢
   obtain ⟨x, h2, ex, i2⟩ := t.ex
   have := vc_compL I turn ws (acc ++ [x]) h2 (fun r h => QL (x :: r) h) i2 fun r h i => q (x :: r) h (by rw [List.append_assoc] at i; exact i)
   simp only [ex, zc7, zao]
   exact Wp.bind (this.mono fun _ _ q => Wp.ok q)
end
end Mir
namespace Mir
open PySem PySem.Spec L2
open PyProof.Rows hiding St
/-- the run ends well (then Q) or with an error (then E) -/
structure Wq {A : Type} (r : Res A) (Q : A → IH → Prop) (E : Ex → IS → IH → Prop) : Prop where
 out : match r with
  | .ok a h => Q a h
  | .er e eta h => E e eta h
  | .bad => False
section
variable {A B : Type} {r : Res A} {k : A → IH → Res B} {P Q : A → IH → Prop} {R : B → IH → Prop} {a : A} {h hp : IH} {E E' : Ex → IS → IH → Prop} {e : Ex} {eta : IS}
theorem Wq.ok (q : Q a h) : Wq (.ok a h) Q E := ⟨q⟩
theorem Wq.er (q : E e eta h) : Wq (.er e eta h : Res A) Q E := ⟨q⟩
theorem Wq.cases (q : Wq r Q E) : (∃ a h, r = .ok a h ∧ Q a h) ∨ ∃ e eta h, r = .er e eta h ∧ E e eta h := by
 obtain ⟨q⟩ := q
 cases r with
 | ok a h => exact .inl ⟨a, h, rfl, q⟩
 | er e eta h => exact .inr ⟨e, eta, h, rfl, q⟩
 | bad => exact q.elim
theorem Wq.mono (q : Wq r P E) (i : ∀ a h, P a h → Q a h) (j : ∀ e eta h, E e eta h → E' e eta h) : Wq r Q E' := by
 rcases q.cases with ⟨a, h, rfl, q'⟩ | ⟨e, eta, h, rfl, q'⟩
 ·exact Wq.ok (i _ _ q')
 ·exact Wq.er (j _ _ _ q')
theorem Wq.bind (q : Wq r (fun a h => Wq (k a h) R E) E) : Wq (r.bind k) R E := by
 rcases q.cases with ⟨a, h, rfl, q'⟩ | ⟨e, eta, h, rfl, q'⟩
 ·exact q'
 ·exact Wq.er q'
end
end Mir
namespace D
open PySem PySem.Spec L2 Mir
open PyProof.Rows hiding St
theorem exm_self {K : PySem.W.Frag} {S : Addr} (h1 : PySem.W.subIn K (.ref S) Ya3 = some true) (h2 : PySem.W.isClsIn K S = true) (h3 : PySem.W.typeIn K (.ref S) = some Yb8) (h4 : PySem.W.subIn K (.ref S) (.ref S) = some true) : PySem.W.exmOne K (.ref S) (.ref S) = some true := by
 have h2' : (PySem.W.clsIn K S).isSome = true := h2
 unfold PySem.W.exmOne
 simp [PySem.W.kitCls, h1, h2', h3, h4]
abbrev DFn (K : PySem.W.Frag) (x q : Str) (s : Stmt) (a : Addr) (d : FuncData) : Prop := FunD K x q (defArgs s) (defBody s) (defScope s) [] [] a d
def MDf (K : PySem.W.Frag) (x : Str) (s : Stmt) (a : Addr) (d : FuncData) : Prop := PySem.W.nsIn K mainGlobals x = some Yed ∧ DFn K x x s a d
def HDf (K : PySem.W.Frag) (C : Addr) (x q : Str) (s : Stmt) (a : Addr) (d : FuncData) : Prop := PySem.W.findIn K (.ref C) x = some Yed ∧ PySem.W.isFn K (.ref a) = true ∧ DFn K x q s a d
section
variable {K : PySem.W.Frag} {x q : Str} {s : Stmt} {C a : Addr} {d : FuncData}
theorem DFn.of {oc kV dc pm cd ct : Value} {od an : Option Addr} {sl : Array Ybs} (h1 : K.lookup a = some ⟨oc, od, .func Yba, sl⟩) (h2 : PySem.W.codeIn K cd q = true) (h3 : PySem.W.keepIn K (.ref a) = true) :
  DFn K x q s a Yba := ⟨⟨oc, od, .none, kV, dc, pm, an, cd, ct, sl, rfl, h1, h2, .inl ⟨rfl, rfl⟩, .inl rfl⟩, h3⟩
theorem _root_.PyProof.Rows.FunD.kp {A : Arguments} {B : List Stmt} {S : Scope} {l : List V} {k : List Ygz} (h : FunD K x q A B S l k a d) : PySem.W.keepIn K (.ref a) = true := h.2
theorem MDf.of {oc kV dc pm cd ct : Value} {od an : Option Addr} {sl : Array Ybs} (h0 : PySem.W.nsIn K mainGlobals x = some Yed) (h1 : K.lookup a = some ⟨oc, od, .func Yip, sl⟩) (h2 : PySem.W.codeIn K cd x = true) (h3 : PySem.W.keepIn K (.ref a) = true) :
  MDf K x s a Yip := ⟨h0, DFn.of h1 h2 h3⟩
theorem HDf.of {oc kV dc pm cd ct : Value} {od an : Option Addr} {sl : Array Ybs} (h0 : PySem.W.findIn K (.ref C) x = some Yed) (h4 : PySem.W.isFn K (.ref a) = true) (h1 : K.lookup a = some ⟨oc, od, .func Yba, sl⟩) (h2 : PySem.W.codeIn K cd q = true) (h3 : PySem.W.keepIn K (.ref a) = true) :
  HDf K C x q s a Yba := ⟨h0, h4, DFn.of h1 h2 h3⟩
theorem HDf.me (h : HDf K C x q s a d) : Meth K C x a := ⟨h.1, h.2.1, h.2.2.kp⟩
theorem pp_of {p : Addr} {rs : List Value} (h1 : PySem.W.findIn K (.ref C) x = some (some (.ref p))) (h2 : PySem.W.specialIn K (.ref p) "__get__" = some (some (.builtin "property.__get__"))) (h3 : PySem.W.takesIn K (.ref p) = some true) (h4 : PySem.W.recIn K p "property" = some (.ref a :: rs)) : PropOf K C x p a := ⟨h1, h2, h3, ⟨_, h4⟩⟩
theorem cm_of {p : Addr} {rs : List Value} (h1 : PySem.W.findCls K (.ref C) Yb8 x = some (.get (.builtin "classmethod.__get__") (.ref p) .none (.ref C))) (h2 : PySem.W.recIn K p "classmethod" = some (.ref a :: rs)) (h3 : PySem.W.fnIn K a = true) : ClX.CMet K C Yb8 x p a := ⟨h1, ⟨_, h2⟩, h3⟩
end
theorem law_sp {K : PySem.W.Frag} {w : World} {F : OpN} {H : Hp} {a : Addr} {ns : List Int} (hF : ∃ hp', F [.t Ykm] [] = .ok (.t Yae) hp')
  (h : (∃ o, H a = some Ykg) ∨ (∃ (o : Obj) (its : Array Value) (m : Nat), K.lookup a = some o ∧ o.cls = .type "list" ∧ o.dict = none ∧ o.data = .seq its m ∧ its.size ≤ sizeLine ∧ Vals Ye1 its.toList)) :
  spM K w F 1 [.ref a] H (fun v _ => v = .bl true) fun _ _ _ => False := by
 obtain ⟨hp', e⟩ := hF
 let s : S4 := ⟨[], fun b => b = a ∧ ∃ o, H a = some Ykg, [], H⟩
 have nl : ∀ b, ¬ Live s b := fun b l => by
  obtain ⟨i, c, e1, _⟩ := l
  simp [s] at e1
 have R : Rel K w s := ⟨rfl, List.nodup_nil, fun b m => absurd m (by simp [s]), fun b f => by obtain ⟨e1, o, e2⟩ := f; subst e1; show H b ≠ none; rw [e2]; simp, fun b l => absurd l (nl b), fun i c b e1 => by simp [s] at e1⟩
 refine ⟨s, [.t Ykm], rfl, R, ?_, rfl, ?_⟩
 ·refine ⟨.ref a, [], rfl, ?_, rfl⟩
  simp only [Rw, Rf]
  refine ⟨a, ns.map V.int, rfl, ?_, ints_rf ns⟩
  rcases h with ⟨o, h⟩ | h
  ·exact .inl ⟨⟨rfl, o, h⟩, o, h⟩
  ·exact .inr h
 ·show Go K w W0 (Rw K) s (noEr (F [.t Ykm] [])) _
  rw [e]
  intro b s' _ _ _ r
  simpa only [Rw, Rf] using r
theorem no_cx {P : Program} {w : World} {o : List Env} {H : Hp} {s : Shared} {e : Value} {s' : Shared} (h : L2.CX P w o H s Yhj e s') : False := by
 obtain ⟨_, _, _, _, _, _, _, _, _, _, _, _, f⟩ := h
 exact f
def topS (i : Nat) : Stmt := PySem.Challenge.pw_untorn_k37_any_values_as_certificates.main.body.getD i (.Pass ⟨0, 0, 0, 0⟩)
abbrev s_w_deal : Stmt := topS 79
abbrev ypi : Stmt := topS 33
abbrev ylt : Stmt := topS 34
abbrev ytg : Stmt := topS 74
abbrev yth : Stmt := topS 63
abbrev yl8 : Stmt := topS 32
abbrev yvn : Stmt := topS 58
abbrev yez : Stmt := topS 59
abbrev yqh : Stmt := inClass (topS 64) 0
abbrev yqi : Stmt := inClass (topS 64) 1
abbrev yvo : Stmt := topS 75
abbrev yvp : Stmt := topS 60
abbrev yl0 : Stmt := topS 61
abbrev yj2 : Stmt := topS 62
abbrev yab : Stmt := inClass (topS 65) 0
abbrev yl9 : Stmt := inClass (topS 65) 1
abbrev yqj : Stmt := topS 76
abbrev ynp : Stmt := topS 69
abbrev yix : Stmt := topS 70
abbrev yfm : Stmt := topS 71
abbrev ynq : Stmt := topS 31
abbrev yti : Stmt := topS 72
abbrev ygv : Stmt := topS 73
abbrev yak : Stmt := inClass (topS 77) 0
abbrev yfn : Stmt := inClass (topS 77) 1
abbrev yyz : Stmt := topS 80
abbrev yy0 : Stmt := topS 81
abbrev yq7 : Stmt := topS 83
abbrev ykp : Stmt := inClass (topS 77) 6
abbrev yj3 : Stmt := inClass (topS 77) 5
abbrev yis : Stmt := topS 39
abbrev ytj : Stmt := inClass (topS 64) 3
abbrev ytk : Stmt := topS 41
abbrev yfo : Stmt := topS 46
abbrev ybl : Stmt := inClass (topS 77) 3
abbrev yit : Stmt := inClass (topS 77) 7
abbrev ydl : Stmt := topS 42
abbrev ynr : Stmt := inClass (topS 65) 3
abbrev yvq : Stmt := topS 43
abbrev yha : Stmt := topS 44
abbrev yiy : Stmt := topS 45
abbrev yj4 : Stmt := topS 12
abbrev yma : Stmt := topS 47
abbrev yxk : Stmt := topS 10
abbrev yy1 : Stmt := topS 14
abbrev ypj : Stmt := topS 15
abbrev ylu : Stmt := topS 16
abbrev ymb : Stmt := inClass (topS 77) 4
abbrev yi2 : Stmt := inClass (topS 64) 2
abbrev yj5 : Stmt := topS 11
abbrev yj6 : Stmt := topS 17
abbrev yb7 : Stmt := topS 18
abbrev yns : Stmt := topS 20
abbrev ygg : Stmt := topS 13
abbrev yj7 : Stmt := topS 19
abbrev yvr : Stmt := topS 22
abbrev ypk : Stmt := topS 21
abbrev yfp : Stmt := topS 23
abbrev ymc : Stmt := topS 24
abbrev ytl : Stmt := topS 25
abbrev ynt : Stmt := topS 40
abbrev yai : Stmt := topS 48
abbrev y2p : Stmt := topS 84
abbrev AllMk (F : OpN) : Prop := ∀ {l : PySem.W.OpenLaw} {w : World} {K : PySem.W.Frag} {h : Heap} {mg : Str → Option Value} {fa : Addr} (KX : K.In h) (G : h.Ns mainGlobals mg) (hfa : mg "law" = some (.ref fa))
  {yb : Addr} (ybn : PySem.W.nsIn K mainGlobals "Design" = some (some Yfa))
  (ypl : PySem.W.plainGet K yb Str.empty = true)
  (ypm : PySem.W.hasDictIn K yb = true)
  (ypn : PySem.W.plainOver K yb = true)
  (ypo : PySem.W.findIn K Yfa "__setattr__" = some Yby)
  (ypp : PySem.W.makesIn K yb = true)
  (ypq : PySem.W.keepIn K Yfa = true)
  (ypr : PySem.W.readsIn K yb Yb8 = true)
  (yps : PySem.W.specialIn K Yfa "__getattribute__" = some Yiq)
  (ye0 : PySem.W.findIn K Yfa "rounds" = some none)
  (ydf : PySem.W.findIn K Yfa "readers" = some none)
  (ygh : PySem.W.findIn K Yfa "kinds" = some none)
  {yo : Addr} (ycv : PySem.W.nsIn K mainGlobals "Kind" = some (some Yf4))
  (yxl : PySem.W.plainGet K yo Str.empty = true)
  (yxm : PySem.W.hasDictIn K yo = true)
  (yxn : PySem.W.plainOver K yo = true)
  (yxo : PySem.W.findIn K Yf4 "__setattr__" = some Yby)
  (yxp : PySem.W.makesIn K yo = true)
  (yxq : PySem.W.keepIn K Yf4 = true)
  (yxr : PySem.W.readsIn K yo Yb8 = true)
  (yxs : PySem.W.specialIn K Yf4 "__getattribute__" = some Yiq)
  (yi3 : PySem.W.findIn K Yf4 "deeds" = some none)
  (yi4 : PySem.W.findIn K Yf4 "steps" = some none)
  (yj8 : PySem.W.findIn K Yf4 "name" = some none)
  {ym : Addr} (ya7 : PySem.W.nsIn K mainGlobals "Reader" = some (some Yeh))
  (ypt : PySem.W.plainGet K ym Str.empty = true)
  (ypu : PySem.W.hasDictIn K ym = true)
  (ypv : PySem.W.plainOver K ym = true)
  (ypw : PySem.W.findIn K Yeh "__setattr__" = some Yby)
  (ypx : PySem.W.makesIn K ym = true)
  (ypy : PySem.W.keepIn K Yeh = true)
  (ypz : PySem.W.readsIn K ym Yb8 = true)
  (yp0 : PySem.W.specialIn K Yeh "__getattribute__" = some Yiq)
  (ygi : PySem.W.findIn K Yeh "deeds" = some none)
  (ygj : PySem.W.findIn K Yeh "steps" = some none)
  (yhb : PySem.W.findIn K Yeh "name" = some none)
  (ygk : PySem.W.findIn K Yeh "tests" = some none)
  (ye1 : PySem.W.findIn K Yeh "checks" = some none)
  (ih : PySem.W.specialIn K Yav "__get__" = some Yhv)
  (it : PySem.W.takesIn K Yav = some true)
  (ia_Kind : PySem.W.findIn K Yf4 "__class__" = some (some Yav))
  (im_Kind : PySem.W.mroIn K yo Ykb = some true)
  (ia_Reader : PySem.W.findIn K Yeh "__class__" = some (some Yav))
  (im_Reader : PySem.W.mroIn K ym Ykb = some true)
  (ia_Design : PySem.W.findIn K Yfa "__class__" = some (some Yav))
  (im_Design : PySem.W.mroIn K yb Ykb = some true)
  (kz_Kind_str : PySem.W.subIn K Yf4 Yjh = some false)
  (kz_Kind_tuple : PySem.W.subIn K Yf4 Yhs = some false)
  (kz_Kind_list : PySem.W.subIn K Yf4 (.type "list") = some false)
  (kz_Kind_int : PySem.W.subIn K Yf4 (.type "int") = some false)
  (kz_Kind_bool : PySem.W.subIn K Yf4 (.type "bool") = some false)
  (kz_Reader_str : PySem.W.subIn K Yeh Yjh = some false)
  (kz_Reader_tuple : PySem.W.subIn K Yeh Yhs = some false)
  (kz_Reader_list : PySem.W.subIn K Yeh (.type "list") = some false)
  (kz_Reader_int : PySem.W.subIn K Yeh (.type "int") = some false)
  (kz_Reader_bool : PySem.W.subIn K Yeh (.type "bool") = some false)
  (kz_Design_str : PySem.W.subIn K Yfa Yjh = some false)
  (kz_Design_tuple : PySem.W.subIn K Yfa Yhs = some false)
  (kz_Design_list : PySem.W.subIn K Yfa (.type "list") = some false)
  (kz_Design_int : PySem.W.subIn K Yfa (.type "int") = some false)
  (kz_Design_bool : PySem.W.subIn K Yfa (.type "bool") = some false)
  {yn : Addr} (ydm : PySem.W.nsIn K mainGlobals "InvalidKind" = some (some Yj3))
  {yq8 yq9 : Str} {yra : Addr} {yrb ykq : List Value} {yrc : List Str} {yrd : List Value} {yre : Bool} {yrf : Option Bool} {yrg : Option Addr} {yrh yri yrj yrk yrl : Option Value} (yhc : K.lookup yn = some (excClassObj yq8 yq9 yn yra yrb ykq true yrc yrd yre yrf yrg yrh yri yrj yrk yrl "ValueError.__new__"))
  (yhd : PySem.HandSPX.refsVE ykq = true)
  (ygl : PySem.W.findIn K Yj3 "__setattr__" = some Yby)
  (ydn : PySem.W.subIn K Yj3 Ya3 = some true)
  (ydo : PySem.W.typeIn K Yj3 = some Yb8)
  (yhe : PySem.W.keepIn K Yj3 = true)
  {ya5 : Addr} (ydp : PySem.W.findIn K Yj3 "__init__" = some (some (.ref ya5)))
  (ydq : PySem.W.typeIn K (.ref ya5) = some Yfh)
  {yrm yhf yhg yhh yhi : Value} {yrn yhj : Option Addr} {yb8 ydr : Addr} {yro : Array Ybs} (yhk : K.lookup ya5 = some ⟨yrm, yrn, .func Y8, yro⟩)
  (yhl : PySem.W.codeIn K (.ref yb8) "InvalidKind.__init__" = true)
  {yrp : Value} {yrq : Option Addr} {ykr : Array Value} {yrr : Array Ybs} {yks : Str} {yrs : Tok} (yhm : K.lookup yb8 = some ⟨yrp, yrq, .fields ykr, yrr⟩)
  (yhn : ykr[2]? = some (.str yks yrs))
  (yho : ((l.prog.main.file : Str) == yks) = true)
  {yrt : Value} {yru : Option Addr} {yrv : Array Ybs} (yhp : K.lookup ydr = some ⟨yrt, yru, .cell (some Yj3), yrv⟩)
  (yhq : PySem.W.ks_superIn K yn yn "__init__" = some Ydh)
  (yhr : PySem.W.subIn K Yj3 (.type "ValueError") = some true)
  (yhs : PySem.W.mroIn K yn Yj3 = some true)
  (ygm : PySem.W.findIn K Yj3 "word" = some none)
  (ygn : PySem.W.isClsIn K yn = true)
  (ygo : PySem.W.subIn K Yj3 Yj3 = some true)
  {yi : Addr} (ycn : PySem.W.nsIn K mainGlobals "InvalidReader" = some (some Yj4))
  {ynu ynv : Str} {ynw : Addr} {ynx yjf : List Value} {yny : List Str} {ynz : List Value} {yn0 : Bool} {yn1 : Option Bool} {yn2 : Option Addr} {yn3 yn4 yn5 yn6 yn7 : Option Value} (ye2 : K.lookup yi = some (excClassObj ynu ynv yi ynw ynx yjf true yny ynz yn0 yn1 yn2 yn3 yn4 yn5 yn6 yn7 "ValueError.__new__"))
  (ye3 : PySem.HandSPX.refsVE yjf = true)
  (ydg : PySem.W.findIn K Yj4 "__setattr__" = some Yby)
  (yco : PySem.W.subIn K Yj4 Ya3 = some true)
  (ycp : PySem.W.typeIn K Yj4 = some Yb8)
  (ye4 : PySem.W.keepIn K Yj4 = true)
  {yar : Addr} (ycq : PySem.W.findIn K Yj4 "__init__" = some (some (.ref yar)))
  (ycr : PySem.W.typeIn K (.ref yar) = some Yfh)
  {yn8 ye5 ye6 ye7 ye8 : Value} {yn9 ye9 : Option Addr} {ybp ycs : Addr} {yoa : Array Ybs} (yfa : K.lookup yar = some ⟨yn8, yn9, .func Y6, yoa⟩)
  (yfb : PySem.W.codeIn K (.ref ybp) "InvalidReader.__init__" = true)
  {yob : Value} {yoc : Option Addr} {yjg : Array Value} {yod : Array Ybs} {yjh : Str} {yoe : Tok} (yfc : K.lookup ybp = some ⟨yob, yoc, .fields yjg, yod⟩)
  (yfd : yjg[2]? = some (.str yjh yoe))
  (yfe : ((l.prog.main.file : Str) == yjh) = true)
  {yof : Value} {yog : Option Addr} {yoh : Array Ybs} (yff : K.lookup ycs = some ⟨yof, yog, .cell (some Yj4), yoh⟩)
  (yfg : PySem.W.ks_superIn K yi yi "__init__" = some Ydh)
  (yfh : PySem.W.subIn K Yj4 (.type "ValueError") = some true)
  (yfi : PySem.W.mroIn K yi Yj4 = some true)
  (ydh : PySem.W.findIn K Yj4 "word" = some none)
  (ydi : PySem.W.isClsIn K yi = true)
  (ydj : PySem.W.subIn K Yj4 Yj4 = some true)
  {yj : Addr} (yds : PySem.W.nsIn K mainGlobals "InvalidText" = some (some Yj5))
  {yrw yrx : Str} {yry : Addr} {yrz ykt : List Value} {yr0 : List Str} {yr1 : List Value} {yr2 : Bool} {yr3 : Option Bool} {yr4 : Option Addr} {yr5 yr6 yr7 yr8 yr9 : Option Value} (yht : K.lookup yj = some (excClassObj yrw yrx yj yry yrz ykt true yr0 yr1 yr2 yr3 yr4 yr5 yr6 yr7 yr8 yr9 "ValueError.__new__"))
  (yhu : PySem.HandSPX.refsVE ykt = true)
  (ygp : PySem.W.findIn K Yj5 "__setattr__" = some Yby)
  (ydt : PySem.W.subIn K Yj5 Ya3 = some true)
  (ydu : PySem.W.typeIn K Yj5 = some Yb8)
  (yhv : PySem.W.keepIn K Yj5 = true)
  {yal : Addr} (ydv : PySem.W.findIn K Yj5 "__init__" = some (some (.ref yal)))
  (ydw : PySem.W.typeIn K (.ref yal) = some Yfh)
  {ysa yhw yhx yhy yhz : Value} {ysb yh0 : Option Addr} {yb9 ydx : Addr} {ysc : Array Ybs} (yh1 : K.lookup yal = some ⟨ysa, ysb, .func Y9, ysc⟩)
  (yh2 : PySem.W.codeIn K (.ref yb9) "InvalidText.__init__" = true)
  {ysd : Value} {yse : Option Addr} {yku : Array Value} {ysf : Array Ybs} {ykv : Str} {ysg : Tok} (yh3 : K.lookup yb9 = some ⟨ysd, yse, .fields yku, ysf⟩)
  (yh4 : yku[2]? = some (.str ykv ysg))
  (yh5 : ((l.prog.main.file : Str) == ykv) = true)
  {ysh : Value} {ysi : Option Addr} {ysj : Array Ybs} (yh6 : K.lookup ydx = some ⟨ysh, ysi, .cell (some Yj5), ysj⟩)
  (yh7 : PySem.W.ks_superIn K yj yj "__init__" = some Ydh)
  (yh8 : PySem.W.subIn K Yj5 (.type "ValueError") = some true)
  (yh9 : PySem.W.mroIn K yj Yj5 = some true)
  (ygq : PySem.W.findIn K Yj5 "at" = some none)
  (ygr : PySem.W.isClsIn K yj = true)
  (ygs : PySem.W.subIn K Yj5 Yj5 = some true)
  (xsup : PySem.W.nsIn K mainGlobals "super" = some none)
  (xany : PySem.W.nsIn K PySem.cStatics "thirdparty.any" = some none)
  (xtop : (l.prog.main.scope.names.lookup ("super" : Str)).isSome = false)
  {v_MOST_LETTERS : Tok} (w_MOST_LETTERS : PySem.W.nsIn K mainGlobals "MOST_LETTERS" = some (some (.int (4) v_MOST_LETTERS)))
  {v_MOST_DIGITS_designs : Tok} (w_MOST_DIGITS_designs : PySem.W.nsIn K mainGlobals "MOST_DIGITS_designs" = some (some (.int (9) v_MOST_DIGITS_designs)))
  {v_MOST_DIGITS_scripts : Tok} (w_MOST_DIGITS_scripts : PySem.W.nsIn K mainGlobals "MOST_DIGITS_scripts" = some (some (.int (9) v_MOST_DIGITS_scripts)))
  {v_LEAST_ROUND : Tok} (w_LEAST_ROUND : PySem.W.nsIn K mainGlobals "LEAST_ROUND" = some (some (.int (2) v_LEAST_ROUND)))
  {v_ENTRIES : Tok} (w_ENTRIES : PySem.W.nsIn K mainGlobals "ENTRIES" = some (some (.int (8) v_ENTRIES)))
  {v_LETTERS : Tok} (w_LETTERS : PySem.W.nsIn K mainGlobals "LETTERS" = some (some (.str "abcdefghijklmnopqrstuvwxyz" v_LETTERS)))
  {v_DIGITS : Tok} (w_DIGITS : PySem.W.nsIn K mainGlobals "DIGITS" = some (some (.str "0123456789" v_DIGITS)))
  {v_NAMED : Tok} (w_NAMED : PySem.W.nsIn K mainGlobals "NAMED" = some (some (.str ": " v_NAMED)))
  {v_BESIDE : Tok} (w_BESIDE : PySem.W.nsIn K mainGlobals "BESIDE" = some (some (.str ", " v_BESIDE)))
  {v_KIND : Tok} (w_KIND : PySem.W.nsIn K mainGlobals "KIND" = some (some (.str "kind " v_KIND)))
  {v_IF : Tok} (w_IF : PySem.W.nsIn K mainGlobals "IF" = some (some (.str " if " v_IF)))
  {v_READER : Tok} (w_READER : PySem.W.nsIn K mainGlobals "READER" = some (some (.str "reader " v_READER)))
  {ykw : Addr} {o_BARRED : Obj} {us_BARRED : List Value} {ytm : Nat} (w_BARRED : PySem.W.nsIn K mainGlobals "BARRED" = some (some (.ref ykw)))
  (lk_BARRED : K.lookup ykw = some o_BARRED)
  (yjq : o_BARRED.cls = .type "tuple")
  (yjr : o_BARRED.dict = none)
  (oa_BARRED : o_BARRED.data = .seq us_BARRED.toArray ytm)
  (or_BARRED : Vals Yir us_BARRED)
  (oz_BARRED : us_BARRED.length ≤ 1000)
  {yca : Addr} {o_WRITER_WORDS : Obj} {us_WRITER_WORDS : List Value} {yia : Nat} (w_WRITER_WORDS : PySem.W.nsIn K mainGlobals "WRITER_WORDS" = some (some (.ref yca)))
  (lk_WRITER_WORDS : K.lookup yca = some o_WRITER_WORDS)
  (ybs : o_WRITER_WORDS.cls = .type "tuple")
  (ybt : o_WRITER_WORDS.dict = none)
  (oa_WRITER_WORDS : o_WRITER_WORDS.data = .seq us_WRITER_WORDS.toArray yia)
  (or_WRITER_WORDS : Vals ((["write", "bump"] : List Str).map V.str) us_WRITER_WORDS)
  (oz_WRITER_WORDS : us_WRITER_WORDS.length ≤ 1000)
  {ycb : Addr} {o_READER_WORDS : Obj} {us_READER_WORDS : List Value} {yib : Nat} (w_READER_WORDS : PySem.W.nsIn K mainGlobals "READER_WORDS" = some (some (.ref ycb)))
  (lk_READER_WORDS : K.lookup ycb = some o_READER_WORDS)
  (ybu : o_READER_WORDS.cls = .type "tuple")
  (ybv : o_READER_WORDS.dict = none)
  (oa_READER_WORDS : o_READER_WORDS.data = .seq us_READER_WORDS.toArray yib)
  (or_READER_WORDS : Vals ((["read", "look"] : List Str).map V.str) us_READER_WORDS)
  (oz_READER_WORDS : us_READER_WORDS.length ≤ 1000)
  {ycw : Addr} {o_SURE_FAULTS : Obj} {us_SURE_FAULTS : List Value} {yi5 : Nat} (w_SURE_FAULTS : PySem.W.nsIn K mainGlobals "SURE_FAULTS" = some (some (.ref ycw)))
  (lk_SURE_FAULTS : K.lookup ycw = some o_SURE_FAULTS)
  (ycc : o_SURE_FAULTS.cls = .type "tuple")
  (ycd : o_SURE_FAULTS.dict = none)
  (oa_SURE_FAULTS : o_SURE_FAULTS.data = .seq us_SURE_FAULTS.toArray yi5)
  (or_SURE_FAULTS : Vals ((["early", "torn"] : List Str).map V.str) us_SURE_FAULTS)
  (oz_SURE_FAULTS : us_SURE_FAULTS.length ≤ 1000)
  {ysk : Addr} {o_FITS : Obj} {us_FITS : List Value} {yzo : Nat} (w_FITS : PySem.W.nsIn K mainGlobals "FITS" = some (some (.ref ysk)))
  (lk_FITS : K.lookup ysk = some o_FITS)
  (ynk : o_FITS.cls = .type "tuple")
  (ynl : o_FITS.dict = none)
  (oa_FITS : o_FITS.data = .seq us_FITS.toArray yzo)
  (or_FITS : Vals ((["new", "open", "past", "torn"] : List Str).map V.str) us_FITS)
  (oz_FITS : us_FITS.length ≤ 1000)
  (ylv : PySem.W.nsIn K mainGlobals "enumerate" = some none)
  (y2q : PySem.W.nsIn K mainGlobals "int" = some none)
  (y2r : PySem.W.nsIn K mainGlobals "abs" = some none)
  (y2s : PySem.W.nsIn K mainGlobals "all" = some none)
  (yj9 : PySem.W.nsIn K mainGlobals "isinstance" = some none)
  (y2t : PySem.W.nsIn K mainGlobals "str" = some none)
  (y2u : PySem.W.nsIn K mainGlobals "len" = some none)
  (yxt : PySem.W.nsIn K mainGlobals "tuple" = some none)
  (yzp : PySem.W.nsIn K mainGlobals "list" = some none)
  (y2v : PySem.W.nsIn K mainGlobals "set" = some none)
  (yzq : PySem.W.nsIn K mainGlobals "bool" = some none)
  (ytn : PySem.W.nsIn K mainGlobals "sorted" = some none)
  (yxu : PySem.W.nsIn K mainGlobals "range" = some none)
  (yzr : PySem.W.nsIn K mainGlobals "dict" = some none)
  (y2w : PySem.W.nsIn K mainGlobals "zip" = some none)
  (y2x : PySem.W.nsIn K mainGlobals "any" = some none)
  {ad_w_deal : Addr} {y1i : FuncData} (ykx : MDf K "_law_deal" s_w_deal ad_w_deal y1i)
  {ad_is_name : Addr} {yzs : FuncData} (yjs : MDf K "is_name" ypi ad_is_name yzs)
  {ad_number_in : Addr} {yvs : FuncData} (yf0 : MDf K "number_in" ylt ad_number_in yvs)
  {ad_round_in : Addr} {yx0 : FuncData} (yic : MDf K "round_in" ytg ad_round_in yx0)
  {ad_named_in : Addr} {yx1 : FuncData} (yid : MDf K "named_in" yth ad_named_in yx1)
  {ad_is_sequence : Addr} {ysl : FuncData} (ycx : MDf K "is_sequence" yl8 ad_is_sequence ysl)
  {ad_deed_in : Addr} {yzt : FuncData} (yjt : MDf K "deed_in" yvn ad_deed_in yzt)
  {ad_deeds_in : Addr} {yx2 : FuncData} (yie : MDf K "deeds_in" yez ad_deeds_in yx2)
  {ad_Kind_init : Addr} {yvt : FuncData} (yf1 : HDf K yo "__init__" "Kind.__init__" yqh ad_Kind_init yvt)
  {yka ad_Kind_read : Addr} (cm_Kind_read : ClX.CMet K yo Yb8 "read" yka ad_Kind_read)
  {yvu : FuncData} (yiz : DFn K "read" "Kind.read" yqi ad_Kind_read yvu)
  {ad_kind_in : Addr} {yzu : FuncData} (yju : MDf K "kind_in" yvo ad_kind_in yzu)
  {ad_spot_in : Addr} {yzv : FuncData} (yjv : MDf K "spot_in" yvp ad_spot_in yzv)
  {ad_test_in : Addr} {yzw : FuncData} (yjw : MDf K "test_in" yl0 ad_test_in yzw)
  {ad_tests_in : Addr} {yx3 : FuncData} (yif : MDf K "tests_in" yj2 ad_tests_in yx3)
  {ad_Reader_init : Addr} {yky ydy ydz yd0 yce yd1 : Value} {ykz yd2 : Option Addr} {sl_Reader_init : Array Ybs}
  {yb1 : Addr} {to_Reader_init : Obj} {tn_Reader_init : Nat}
  (at_Reader_init : PySem.W.findIn K Yeh "__init__" = some (some (.ref ad_Reader_init)))
  (fn_Reader_init : PySem.W.isFn K (.ref ad_Reader_init) = true)
  (yi6 : K.lookup ad_Reader_init = some ⟨yky, ykz, .func Ya4, sl_Reader_init⟩)
  (yi7 : PySem.W.codeIn K yce "Reader.__init__" = true)
  (yi8 : PySem.W.keepIn K (.ref ad_Reader_init) = true)
  {e_Reader_init : Addr} {eo_Reader_init : Obj} {en_Reader_init : Nat}
  (t_Reader_init : K.lookup yb1 = some to_Reader_init)
  (u_Reader_init : to_Reader_init.data = .seq ([.ref e_Reader_init] : List Value).toArray tn_Reader_init)
  (el_Reader_init : K.lookup e_Reader_init = some eo_Reader_init)
  (ec_Reader_init : eo_Reader_init.cls = .type "tuple")
  (ed_Reader_init : eo_Reader_init.dict = none)
  (ea_Reader_init : eo_Reader_init.data = .seq #[] en_Reader_init)
  {yig ad_Reader_read : Addr} (cm_Reader_read : ClX.CMet K ym Yb8 "read" yig ad_Reader_read)
  {ysm : FuncData} (yfq : DFn K "read" "Reader.read" yl9 ad_Reader_read ysm)
  {ad_reader_in : Addr} {yvv : FuncData} (yf2 : MDf K "reader_in" yqj ad_reader_in yvv)
  {ad_are_unlike : Addr} {yue : FuncData} (yd3 : MDf K "are_unlike" ynp ad_are_unlike yue)
  {ad_are_kinds : Addr} {yvw : FuncData} (yf3 : MDf K "are_kinds" yix ad_are_kinds yvw)
  {ad_are_readers : Addr} {ysn : FuncData} (ycy : MDf K "are_readers" yfm ad_are_readers ysn)
  {ad_is_integer : Addr} {yuf : FuncData} (yd4 : MDf K "is_integer" ynq ad_is_integer yuf)
  {ad_is_round : Addr} {yx4 : FuncData} (yih : MDf K "is_round" yti ad_is_round yx4)
  {ad_are_rounds : Addr} {yug : FuncData} (yd5 : MDf K "are_rounds" ygv ad_are_rounds yug)
  {ad_Design_init : Addr} {yk0 yd6 yd7 yd8 ycf yd9 : Value} {yk1 yea : Option Addr} {sl_Design_init : Array Ybs}
  {yb2 : Addr} {to_Design_init : Obj} {tn_Design_init : Nat}
  (at_Design_init : PySem.W.findIn K Yfa "__init__" = some (some (.ref ad_Design_init)))
  (fn_Design_init : PySem.W.isFn K (.ref ad_Design_init) = true)
  (yi9 : K.lookup ad_Design_init = some ⟨yk0, yk1, .func Ya5, sl_Design_init⟩)
  (yja : PySem.W.codeIn K ycf "Design.__init__" = true)
  (yjb : PySem.W.keepIn K (.ref ad_Design_init) = true)
  {e_Design_init : Addr} {eo_Design_init : Obj} {en_Design_init : Nat}
  (t_Design_init : K.lookup yb2 = some to_Design_init)
  (u_Design_init : to_Design_init.data = .seq ([.ref e_Design_init] : List Value).toArray tn_Design_init)
  (el_Design_init : K.lookup e_Design_init = some eo_Design_init)
  (ec_Design_init : eo_Design_init.cls = .type "tuple")
  (ed_Design_init : eo_Design_init.dict = none)
  (ea_Design_init : eo_Design_init.data = .seq #[] en_Design_init)
  {ycg ad_Design_read : Addr} (cm_Design_read : ClX.CMet K yb Yb8 "read" ycg ad_Design_read)
  {yso : FuncData} (yfr : DFn K "read" "Design.read" yfn ad_Design_read yso)
  {ad_w_draw : Addr} {y1j : FuncData} (yk2 : MDf K "_law_draw" yyz ad_w_draw y1j)
  {ad_w_pick : Addr} {y1k : FuncData} (yk3 : MDf K "_law_pick" yy0 ad_w_pick y1k)
  {ad_w_any : Addr} {y2z : FuncData} (ynm : MDf K "_law_any" yq7 ad_w_any y2z)
  {ad_Design_thing : Addr} {yp1 : FuncData} (yeb : HDf K yb "thing" "Design.thing" ykp ad_Design_thing yp1)
  {ad_Design_reader : Addr} {yoi : FuncData} (yc8 : HDf K yb "reader" "Design.reader" yj3 ad_Design_reader yoi)
  {ad_need_sure_fault : Addr} {yl2 : FuncData} (ybm : MDf K "need_sure_fault" yis ad_need_sure_fault yl2)
  {ad_Kind_len : Addr} {yx5 : FuncData} (ykb : HDf K yo "__len__" "Kind.__len__" ytj ad_Kind_len yx5)
  {ad_is_below : Addr} {yx6 : FuncData} (yii : MDf K "is_below" ytk ad_is_below yx6)
  {ad_is_progress : Addr} {ysp : FuncData} (ycz : MDf K "is_progress" yfo ad_is_progress ysp)
  {yaj ad_Design_counters : Addr} (yp : PropOf K yb "counters" yaj ad_Design_counters)
  {yl3 : FuncData} (yb5 : DFn K "counters" "Design.counters" ybl ad_Design_counters yl3)
  {ad_Design_round_of : Addr} {yl4 : FuncData} (yb6 : HDf K yb "round_of" "Design.round_of" yit ad_Design_round_of yl4)
  {ad_are_counts : Addr} {yuh : FuncData} (yec : MDf K "are_counts" ydl ad_are_counts yuh)
  {ad_Reader_len : Addr} {yui : FuncData} (ygw : HDf K ym "__len__" "Reader.__len__" ynr ad_Reader_len yui)
  {ad_is_seen : Addr} {yzx : FuncData} (yjx : MDf K "is_seen" yvq ad_is_seen yzx)
  {ad_are_seen : Addr} {yx7 : FuncData} (yij : MDf K "are_seen" yha ad_are_seen yx7)
  {ad_is_lot_of : Addr} {yvx : FuncData} (yf4 : MDf K "is_lot_of" yiy ad_is_lot_of yvx)
  {ad_parts_left : Addr} {yuj : FuncData} (yed : MDf K "parts_left" yj4 ad_parts_left yuj)
  {ad_is_standing : Addr} {ysq : FuncData} (yc0 : MDf K "is_standing" yma ad_is_standing ysq)
  {ad_start : Addr} {y20 : FuncData} (ynn : MDf K "start" yxk ad_start y20)
  {ad_bumped : Addr} {y1l : FuncData} (yk4 : MDf K "bumped" yy1 ad_bumped y1l)
  {ad_noticed : Addr} {yzy : FuncData} (yjy : MDf K "noticed" ypj ad_noticed yzy)
  {ad_with_deed : Addr} {yvy : FuncData} (yf5 : MDf K "with_deed" ylu ad_with_deed yvy)
  {ad_Design_kind : Addr} {ysr : FuncData} (yfs : HDf K yb "kind" "Design.kind" ymb ad_Design_kind ysr)
  {ych ad_Kind_writes : Addr} (ya9 : PropOf K yo "writes" ych ad_Kind_writes)
  {yss : FuncData} (yft : DFn K "writes" "Kind.writes" yi2 ad_Kind_writes yss)
  {ad_parts_read : Addr} {yuk : FuncData} (yee : MDf K "parts_read" yj5 ad_parts_read yuk)
  {ad_with_begin : Addr} {yul : FuncData} (yef : MDf K "with_begin" yj6 ad_with_begin yul)
  {ad_writer_steps : Addr} {yp2 : FuncData} (yci : MDf K "writer_steps" yb7 ad_writer_steps yp2)
  {ad_value_seen : Addr} {yum : FuncData} (yeg : MDf K "value_seen" yns ad_value_seen yum)
  {ad_parts_written : Addr} {yoj : FuncData} (ybw : MDf K "parts_written" ygg ad_parts_written yoj)
  {ad_fit_behind : Addr} {yun : FuncData} (yeh : MDf K "fit_behind" yj7 ad_fit_behind yun)
  {ad_is_even : Addr} {yzz : FuncData} (yjz : MDf K "is_even" yvr ad_is_even yzz)
  {ad_is_same : Addr} {yz0 : FuncData} (yj0 : MDf K "is_same" ypk ad_is_same yz0)
  {ad_is_accepted : Addr} {yst : FuncData} (yc1 : MDf K "is_accepted" yfp ad_is_accepted yst)
  {ad_reader_step : Addr} {ysu : FuncData} (yc2 : MDf K "reader_step" ymc ad_reader_step ysu)
  {ad_fault_of : Addr} {yx8 : FuncData} (yik : MDf K "fault_of" ytl ad_fault_of yx8)
  {ad_led_on : Addr} {y1m : FuncData} (yk5 : MDf K "led_on" ynt ad_led_on y1m)
  {ad_certifies : Addr} {yok ygx ygy ygz yei yg0 : Value} {yol yg1 : Option Addr} {sl_certifies : Array Ybs}
  {yda : Addr} {to_certifies : Obj} {tn_certifies : Nat}
  (ylw : PySem.W.nsIn K mainGlobals "certifies" = some (some (.ref ad_certifies)))
  (ylx : K.lookup ad_certifies = some ⟨yok, yol, .func Ybb, sl_certifies⟩)
  (yly : PySem.W.codeIn K yei "certifies" = true)
  (y6 : PySem.W.keepIn K (.ref ad_certifies) = true)
  (t_certifies : K.lookup yda = some to_certifies)
  (u_certifies : to_certifies.data = .seq ([.none] : List Value).toArray tn_certifies)
  {ad_law : Addr} {y4k : FuncData} (yz1 : MDf K "law" y2p ad_law y4k), ∃ fd : FuncData, (∀ (s : Shared) (v : Value), BindsTo s fd ⟨[v], []⟩ [("_law_script", v)]) ∧ ∀ base : Heap, K.In base → base.Ns mainGlobals mg → FnG l.prog w K mg base (L2.CX l.prog w) 26 fa fd ["_law_script"] (spM K w F 1)
end D
section
namespace D
open PySem PySem.W PySem.Calls PyProof.Rows
abbrev rowH : OpenRow := OpenLaw.row PySem.Challenge.rw_untorn_k37_any_values_as_certificates
abbrev viewH : Program := view rowH.prog [84]
def looseH : List PySem.Str := (["_wall", "RecordError", "InvalidKind", "InvalidReader", "InvalidDesign", "InvalidText", "InvalidFault", "NoName", "start", "parts_read", "parts_left", "parts_written", "bumped", "noticed", "with_deed", "with_begin", "writer_steps", "fit_behind", "value_seen", "is_same", "is_even", "is_accepted", "reader_step", "fault_of", "BARRED", "LETTERS", "DIGITS", "MOST_LETTERS", "is_integer", "is_sequence"] : List PySem.Str) ++ (["is_name", "number_in", "SURE_FAULTS", "FITS", "ENTRIES", "need_sure_fault", "led_on", "is_below", "are_counts", "is_seen", "are_seen", "is_lot_of", "is_progress", "is_standing", "certifies", "WRITER_WORDS", "READER_WORDS", "MOST_DIGITS_scripts", "KIND", "READER", "NAMED", "IF", "BESIDE", "deed_in", "deeds_in", "spot_in", "test_in", "tests_in", "named_in", "Kind"] : List PySem.Str) ++ (["Reader", "LEAST_ROUND", "MOST_DIGITS_designs", "are_unlike", "are_kinds", "are_readers", "is_round", "are_rounds", "round_in", "kind_in", "reader_in", "Design", "_law_deal", "_law_draw", "_law_pick", "_law_mixed", "_law_any"] : List PySem.Str)
theorem obsH_eq {as : List Addr} (s : SharedT) : as.map (HandSHeadRun.getT s) = as.map s.abs.heap.get? := congrArg (fun g => as.map g) (funext (HandSHeadRun.getT_eq s))
end D
local macro_rules | `(tactic| o_headL (kHook $K $a $e)) => `(tactic| refine HandSHeadRun.head_any (r := D.rowH) (q := D.viewH) (H := PySem.W.kHook $K $a $e) (ob := fun s => List.map (HandSHeadRun.getT s) $a) (M := 12000) (loose := D.looseH) (d := HandSHeadRun.topDef D.rowH.prog 84) (kwd := []) (fun s => D.obsH_eq s) (by kernel_rfl) (fun s => by kernel_rfl) (fun w os => by kernel_rfl) (by kernel_rfl) (by kernel_rfl) (by kernel_rfl) (by rfl) (by first | assumption | decide +kernel) (by decide +kernel) ⟨rfl, rfl, rfl, rfl, rfl, by decide +kernel⟩ ?hw ?hc)
local macro_rules | `(tactic| simp_arith!) => `(tactic| first | (as_aux_lemma => k_is) | k_is)
open PySem PySem.W PyProof.Rows
set_option maxHeartbeats 0 in
theorem D.early {F : Mir.OpN} (hM : D.AllMk F) (hL : ∀ {ns : List Int}, ns.length ≤ 63 → ∃ hp', F [.t (.scr (ns.map Mir.T.int))] [] = .ok (.t Yae) hp') : PySem.Challenge.rw_untorn_k37_any_values_as_certificates.Holds := by
 w_on; o_law; k_headL; (case hw => w_witness2)
 k_fill
 refine Mir.walkG (l := PySem.Challenge.rw_untorn_k37_any_values_as_certificates) (n := 63) (k := 26) (x := "_law_script") (CX := fun w => L2.CX PySem.Challenge.rw_untorn_k37_any_values_as_certificates.prog w) (sp := fun w => Mir.spM _ w F 1) rfl Yct rfl ⟨rfl, by decide, by decide⟩ (fun w h Y => PySem.W.kIn_of Y) ?F (fun _ _ _ _ hl hS => D.law_sp (hL hl) hS) (fun _ _ _ _ _ h => D.no_cx h)
 case F =>
  intro w mg fa h KX G hmg
  refine' hM KX G hmg ?ybn ?ypl ?ypm ?ypn ?ypo ?ypp ?ypq ?ypr ?yps ?ye0 ?ydf ?ygh ?ycv ?yxl ?yxm ?yxn ?yxo ?yxp ?yxq ?yxr ?yxs ?yi3 ?yi4 ?yj8 ?ya7 ?ypt ?ypu ?ypv ?ypw ?ypx ?ypy ?ypz ?yp0 ?ygi ?ygj ?yhb ?ygk ?ye1 ?ih ?it ?ia_Kind ?im_Kind ?ia_Reader ?im_Reader ?ia_Design ?im_Design ?kz_Kind_str ?kz_Kind_tuple ?kz_Kind_list ?kz_Kind_int ?kz_Kind_bool ?kz_Reader_str ?kz_Reader_tuple ?kz_Reader_list ?kz_Reader_int ?kz_Reader_bool ?kz_Design_str ?kz_Design_tuple ?kz_Design_list ?kz_Design_int ?kz_Design_bool ?ydm ?yhc ?yhd ?ygl ?ydn ?ydo ?yhe ?ydp ?ydq ?yhk ?yhl ?yhm ?yhn ?yho ?yhp ?yhq ?yhr ?yhs ?ygm ?ygn ?ygo ?ycn ?ye2 ?ye3 ?ydg ?yco ?ycp ?ye4 ?ycq ?ycr ?yfa ?yfb ?yfc ?yfd ?yfe ?yff ?yfg ?yfh ?yfi ?ydh ?ydi ?ydj ?yds ?yht ?yhu ?ygp ?ydt ?ydu ?yhv ?ydv ?ydw ?yh1 ?yh2 ?yh3 ?yh4 ?yh5 ?yh6 ?yh7 ?yh8 ?yh9 ?ygq ?ygr ?ygs ?xsup ?xany ?xtop ?w_MOST_LETTERS ?w_MOST_DIGITS_designs ?w_MOST_DIGITS_scripts ?w_LEAST_ROUND ?w_ENTRIES ?w_LETTERS ?w_DIGITS ?w_NAMED ?w_BESIDE ?w_KIND ?w_IF ?w_READER ?w_BARRED ?lk_BARRED ?yjq ?yjr ?oa_BARRED ?or_BARRED ?oz_BARRED ?w_WRITER_WORDS ?lk_WRITER_WORDS ?ybs ?ybt ?oa_WRITER_WORDS ?or_WRITER_WORDS ?oz_WRITER_WORDS ?w_READER_WORDS ?lk_READER_WORDS ?ybu ?ybv ?oa_READER_WORDS ?or_READER_WORDS ?oz_READER_WORDS ?w_SURE_FAULTS ?lk_SURE_FAULTS ?ycc ?ycd ?oa_SURE_FAULTS ?or_SURE_FAULTS ?oz_SURE_FAULTS ?w_FITS ?lk_FITS ?ynk ?ynl ?oa_FITS ?or_FITS ?oz_FITS ?ylv ?y2q ?y2r ?y2s ?yj9 ?y2t ?y2u ?yxt ?yzp ?y2v ?yzq ?ytn ?yxu ?yzr ?y2w ?y2x ?ykx ?yjs ?yf0 ?yic ?yid ?ycx ?yjt ?yie ?yf1 ?cm_Kind_read ?yiz ?yju ?yjv ?yjw ?yif ?at_Reader_init ?fn_Reader_init ?yi6 ?yi7 ?yi8 ?t_Reader_init ?u_Reader_init ?el_Reader_init ?ec_Reader_init ?ed_Reader_init ?ea_Reader_init ?cm_Reader_read ?yfq ?yf2 ?yd3 ?yf3 ?ycy ?yd4 ?yih ?yd5 ?at_Design_init ?fn_Design_init ?yi9 ?yja ?yjb ?t_Design_init ?u_Design_init ?el_Design_init ?ec_Design_init ?ed_Design_init ?ea_Design_init ?cm_Design_read ?yfr ?yk2 ?yk3 ?ynm ?yeb ?yc8 ?ybm ?ykb ?yii ?ycz ?yp ?yb5 ?yb6 ?yec ?ygw ?yjx ?yij ?yf4 ?yed ?yc0 ?ynn ?yk4 ?yjy ?yf5 ?yfs ?ya9 ?yft ?yee ?yef ?yci ?yeg ?ybw ?yeh ?yjz ?yj0 ?yc1 ?yc2 ?yik ?yk5 ?ylw ?ylx ?yly ?y6 ?t_certifies ?u_certifies ?yz1
  (case ybn | ypl | ypm | ypn | ypo | ypp | ypq | ypr | yps | ye0 | ydf | ygh | ycv | yxl | yxm | yxn | yxo | yxp | yxq | yxr | yxs | yi3 | yi4 | yj8 | ya7 | ypt | ypu | ypv | ypw | ypx | ypy | ypz | yp0 | ygi | ygj | yhb | ygk | ye1 | ih | it | ia_Kind | im_Kind | ia_Reader | im_Reader | ia_Design | im_Design | kz_Kind_str | kz_Kind_tuple | kz_Kind_list | kz_Kind_int | kz_Kind_bool | kz_Reader_str | kz_Reader_tuple | kz_Reader_list | kz_Reader_int | kz_Reader_bool | kz_Design_str | kz_Design_tuple | kz_Design_list | kz_Design_int => simp_arith!)
  (case kz_Design_bool | ydm | yhc => simp_arith!)
  (case yhd => first | rfl | decide)
  (case ygl | ydn | ydo | yhe | ydp | ydq | yhk | yhl | yhm => simp_arith!)
  (case yhn => exact rfl)
  (case yho => first | rfl | decide +kernel)
  (case yhp => simp_arith!)
  (case yhq => ks_is)
  (case yhr | yhs | ygm | ygn => simp_arith!)
  (case ygo => first | rfl | k_is)
  (case ycn | ye2 => simp_arith!)
  (case ye3 => first | rfl | decide)
  (case ydg | yco | ycp | ye4 | ycq | ycr | yfa | yfb | yfc => simp_arith!)
  (case yfd => exact rfl)
  (case yfe => first | rfl | decide +kernel)
  (case yff => simp_arith!)
  (case yfg => ks_is)
  (case yfh | yfi | ydh | ydi => simp_arith!)
  (case ydj => first | rfl | k_is)
  (case yds | yht => simp_arith!)
  (case yhu => first | rfl | decide)
  (case ygp | ydt | ydu | yhv | ydv | ydw | yh1 | yh2 | yh3 => simp_arith!)
  (case yh4 => exact rfl)
  (case yh5 => first | rfl | decide +kernel)
  (case yh6 => simp_arith!)
  (case yh7 => ks_is)
  (case yh8 | yh9 | ygq | ygr => simp_arith!)
  (case ygs => first | rfl | k_is)
  (case xsup | xany => simp_arith!)
  (case xtop => first | rfl | decide +kernel)
  (case w_MOST_LETTERS | w_MOST_DIGITS_designs | w_MOST_DIGITS_scripts | w_LEAST_ROUND | w_ENTRIES | w_LETTERS | w_DIGITS | w_NAMED | w_BESIDE | w_KIND | w_IF | w_READER | w_BARRED | lk_BARRED => simp_arith!)
  (case yjq => exact rfl)
  (case yjr => exact rfl)
  (case oa_BARRED => exact rfl)
  (case or_BARRED => repeat (first | exact .nil | refine .cons ⟨_, rfl⟩ ?_))
  (case oz_BARRED => decide)
  (case w_WRITER_WORDS | lk_WRITER_WORDS => simp_arith!)
  (case ybs => exact rfl)
  (case ybt => exact rfl)
  (case oa_WRITER_WORDS => exact rfl)
  (case or_WRITER_WORDS => repeat (first | exact .nil | refine .cons ⟨_, rfl⟩ ?_))
  (case oz_WRITER_WORDS => decide)
  (case w_READER_WORDS | lk_READER_WORDS => simp_arith!)
  (case ybu => exact rfl)
  (case ybv => exact rfl)
  (case oa_READER_WORDS => exact rfl)
  (case or_READER_WORDS => repeat (first | exact .nil | refine .cons ⟨_, rfl⟩ ?_))
  (case oz_READER_WORDS => decide)
  (case w_SURE_FAULTS | lk_SURE_FAULTS => simp_arith!)
  (case ycc => exact rfl)
  (case ycd => exact rfl)
  (case oa_SURE_FAULTS => exact rfl)
  (case or_SURE_FAULTS => repeat (first | exact .nil | refine .cons ⟨_, rfl⟩ ?_))
  (case oz_SURE_FAULTS => decide)
  (case w_FITS | lk_FITS => simp_arith!)
  (case ynk => exact rfl)
  (case ynl => exact rfl)
  (case oa_FITS => exact rfl)
  (case or_FITS => repeat (first | exact .nil | refine .cons ⟨_, rfl⟩ ?_))
  (case oz_FITS => decide)
  (case ylv | y2q | y2r | y2s | yj9 | y2t | y2u | yxt | yzp | y2v | yzq | ytn | yxu | yzr | y2w | y2x | at_Reader_init | fn_Reader_init | yi6 | yi7 | yi8 | t_Reader_init => simp_arith!)
  (case u_Reader_init => exact rfl)
  (case el_Reader_init => simp_arith!)
  (case ec_Reader_init => exact rfl)
  (case ed_Reader_init => exact rfl)
  (case ea_Reader_init => exact rfl)
  (case at_Design_init | fn_Design_init | yi9 | yja | yjb | t_Design_init => simp_arith!)
  (case u_Design_init => exact rfl)
  (case el_Design_init => simp_arith!)
  (case ec_Design_init => exact rfl)
  (case ed_Design_init => exact rfl)
  (case ea_Design_init => exact rfl)
  (case ylw | ylx | yly | y6 | t_certifies => simp_arith!)
  (case u_certifies => exact rfl)
  (case ykx | yjs | yf0 | yic | yid | ycx | yjt | yie | yju | yjv | yjw | yif | yf2 | yd3 | yf3 | ycy | yd4 | yih | yd5 | yk2 | yk3 | ynm | ybm | yii | ycz | yec | yjx | yij | yf4 | yed | yc0 | ynn | yk4 | yjy | yf5 | yee | yef | yci | yeg | ybw | yeh | yjz | yj0 | yc1 | yc2 | yik | yk5 | yz1 => (refine' D.MDf.of ?a ?b ?c ?d; (case a => simp_arith!); (case b => simp_arith!); (case c => simp_arith!); (case d => simp_arith!)))
  (case yf1 | yeb | yc8 | ykb | yb6 | ygw | yfs => (refine' D.HDf.of ?a ?b ?c ?d ?e; (case a => simp_arith!); (case b => simp_arith!); (case c => simp_arith!); (case d => simp_arith!); (case e => simp_arith!)))
  (case yp | ya9 => (refine' D.pp_of ?a ?b ?c ?d; (case a => simp_arith!); (case b => simp_arith!); (case c => simp_arith!); (case d => simp_arith!)))
  (case cm_Kind_read | cm_Reader_read | cm_Design_read => (refine' D.cm_of ?a ?b ?c; (case a => simp_arith!); (case b => simp_arith!); (case c => simp_arith!)))
  (case yiz | yfq | yfr | yb5 | yft => (refine' D.DFn.of ?a ?b ?c; (case a => simp_arith!); (case b => simp_arith!); (case c => simp_arith!)))
end
namespace D
open PySem PySem.Spec L2 Mir
open PyProof.Rows hiding St
local macro_rules | `(tactic| simp_arith [$as,*]) => `(tactic| simp -implicitDefEqProofs only [Nat.reduceAdd, Nat.reduceMul, Nat.reduceSub, Nat.reduceLeDiff, Nat.reduceLT, Nat.reduceEqDiff, Nat.reduceBEq, Int.reduceAdd, Int.reduceSub, Int.reduceMul, Int.reduceNeg, Int.reduceLT, Int.reduceLE, Int.reduceEq, Int.reduceToNat, Int.reduceBEq, Int.reduceNegSucc, reduceIte, reduceCtorEq, if_true, if_false, Bool.false_eq_true, eq_self, and_self, and_true, true_and, and_false, false_and, decide_true, decide_false, decide_eq_true_eq, List.map_nil, List.map_cons, List.append_nil, List.nil_append, List.cons_append, List.getElem?_cons_zero, List.getElem?_cons_succ, List.set_cons_zero, List.set_cons_succ, List.length_cons, List.length_nil, List.replicate_succ, List.replicate_zero, Option.map_some, Option.bind_some, Bool.not_true, Bool.not_false, Bool.and_true, Bool.true_and, Bool.and_false, Bool.false_and, beq_self_eq_true, List.zip_cons_cons, List.zip_nil_right, List.foldl_cons, List.foldl_nil, Option.isSome_some, Option.isSome_none, ite_true, ite_false, List.length_map, zao, bind_bad, bind_er, zc7, noEr_bad, then_nx, then_rt, then_bk, then_ct, p_var, p_c, p_bin, p_un, p_nil, p_cons, p_star, p_app, p_frz, zci, p_and, p_or, p_not, p_if, p_andV, p_orV, p_notV, p_chain, p_skip, p_seq, zfm, p_retN, p_drop, p_brk, p_cnt, p_asg, p_set, p_par, p_parG, p_aug, p_for, p_while, p_comp, p_sq, p_src, p_yes, p_call, p_meth0, p_meth, p_sl, p_noPart, p_part, p_disp, p_dput, p_fz, p_gN, p_gsN, p_gsC, p_gTp, p_gTt, p_gAp, p_gAt, p_gAl, zd3, seqT_t, seqT_l, seqT_s, items_t, items_l, items_s, items_r, litems_l, litems_s, litems_r, hitems_l, hitems_r, asT_t, asT_r, getL_new, zeq, allI_map, allS_map, allB_map, asB_bl, truW_bl, iNeg_i, opI_ii, opC_ii, cYes_t, wLt_ii, wLt_ss, wAdd_ii, isN_n, isN_i, isN_b, isN_t, isB_bb, oInt_i, oAbs_i, oMax2_i, oMin2_i, oLen_l, oLen_t, oLen_r, oTup_t, oTup_l, oListF_l, oListF_t, oListL_l, oListL_t, sqI_l, sqI_t, sqI_s, enum1_1, zip2_2, isL_r, isL_l, isTp_t, freeze_t, freeze_r, fit_n, fit_b, fit_i, fit_s, fit_t, fit_l, fitL_n, fitL_c, eqT_nn, eqT_ii, eqT_bb, eqT_ss, eqT_tt, eqT_ll, eqTL_nn, eqTL_cn, eqTL_nc, eqTL_cc, allT_n, allT_c, lstOf_e, tupOf_e, newL_e, oAppend_r, oPop_r, asK_i, asK_s, dGet_s, ev_for0, ev_for1, ev_atl0, ev_atl1, ev_atl2, ev_atl3, ev_ixl0, ev_ixt0, ev_ixl1, ev_ixt1, ev_ixl2, ev_ixt2, ev_ixl3, ev_ixt3, ev_atl4, ev_ixl4, ev_ixt4, ev_gt, ev_ge, ev_le, ev_sub, ev_eqi, ev_eqs, ev_eqb, ev_wipe0, ev_wipe1, ev_comp1, $as,*])
local macro_rules | `(tactic| simp_all_arith) => `(tactic| repeat (first | (with_reducible refine zb5 ?_) | (with_reducible refine zem ?_) | (with_reducible refine zfa ?_) | (with_reducible refine vc_if ?_) | (with_reducible refine vc_test ?_) | (with_reducible refine vc_bin ?_) | (with_reducible refine vc_un ?_) | (with_reducible refine zd8 ?_) | (with_reducible refine vc_nil ?_) | (with_reducible refine vc_app ?_) | (with_reducible refine vc_call ?_) | (with_reducible refine vc_callD ?_) | (with_reducible refine vc_and ?_) | (with_reducible refine vc_or ?_) | (with_reducible refine vc_not ?_) | (with_reducible refine zgj ?_) | (with_reducible refine vc_ret ?_) | (with_reducible refine vc_drop ?_) | (with_reducible refine vc_sl ?_) | (with_reducible refine vc_slL ?_) | (with_reducible refine vc_noPart ?_) | (with_reducible refine vc_part ?_) | (with_reducible refine vc_for ?_) | (with_reducible refine vc_sq ?_) | (with_reducible refine vc_src ?_) | (with_reducible refine vc_asg ?_) | (with_reducible refine vc_fld ?_) | (with_reducible refine vc_c ?_) | ((with_reducible apply zfy); · rfl) | (with_reducible refine vc_asB ?_) | ((with_reducible apply vc_fz); · rfl) | (with_reducible refine vc_meth ?_) | (with_reducible refine vc_comp ?_) | (with_reducible refine vc_rt ?_) | (with_reducible refine vc_yes ?_) | ((with_reducible apply vc_lstE); (· rfl); (· exact Nat.le_of_ble_eq_true rfl)) | ((with_reducible apply vc_tupE); (· rfl); (· exact Nat.le_of_ble_eq_true rfl)) | (with_reducible refine vc_sqL ?_) | (with_reducible refine vc_sqT ?_) | (with_reducible refine vc_slWl ?_) | (with_reducible refine vc_slWt ?_) | (with_reducible refine vc_slLl ?_) | (with_reducible refine vc_sm ?_) | (with_reducible refine vc_frz ?_) | (with_reducible refine vc_frzD ?_) | (with_reducible refine vc_chain ?_) | (with_reducible refine vc_par2 ?_) | (with_reducible refine vc_parG ?_) | (with_reducible refine Wp.rw wAdd_ii ?_) | (with_reducible refine Wp.rw ev_eqi ?_) | (with_reducible refine Wp.rw ev_eqs ?_) | (with_reducible refine Wp.rw oLen_l ?_) | (with_reducible refine Wp.rw oLen_t ?_) | (with_reducible refine Wp.rw iGt_ii ?_) | (with_reducible refine Wp.rw wLt_ii ?_) | (with_reducible refine Wp.rw ev_sub ?_) | (with_reducible refine Wp.rw ev_le ?_) | (with_reducible refine Wp.rw ev_ge ?_) | (with_reducible refine Wp.rw freeze_t ?_) | (with_reducible refine Wp.ok ?_)))
/-- what isinstance answers -/
def zbo : CT → CT → Option Bool := fun t c => match t, c with
 | .inl a, .inl b => kitB a b
 | .inr a, .inr b => if a = b ∧ (a = "Kind" ∨ a = "Reader" ∨ a = "Design") then some true else none
 | .inr a, .inl b => if (a = "Kind" ∨ a = "Reader" ∨ a = "Design") ∧ (b = "str" ∨ b = "tuple" ∨ b = "list" ∨ b = "int" ∨ b = "bool") then some false else none
 | _, _ => none
def zgo : M Bool := zah asB (mBin iGe (mVar 5) (mBin iPow (mC (.int 10)) (mC (.int 18))))
def zgp : M W := mVar 5
def zf9 : M Fl := mSet 3 (mBin iMod (mApp oInt (zac (mBin wAdd (mBin wMul (mBin wAdd (mBin wAdd (mVar 3) (mVar 4)) Ybr) (mC (.int 48271))) (mBin iMod (mApp oInt Ybe) (mC (.int 2147483587)))) (mNil))) (mC (.int 2147483647)))
def zew : M W := mApp oAbs (zac (mApp oInt Ybe) (mNil))
def B_w_deal : M Fl := mSeq (mSet 2 (zba zay (mSq (mSl (mVar 0) (ze8 (mVar 1)) (ze8 (mC (.int 64))))) (gN 5) mYes zew [5])) (mSeq (mSet 3 (mBin wAdd (mC (.int 51749)) (mBin wMul (mC (.int 13)) (mVar 1)))) (mSeq (mFor (mSrc enum1 Yah) Yb9 zf9) (mRet (mDisp ((.inr "great", mUn oRevL (zba zay (mSq (mVar 2)) (gN 5) zgo zgp [5])) :: (.inr "stirred", mVar 3) :: [])))))
def F_w_deal : OpN := fnM 2 6 B_w_deal
def f_is_name_c1 : M W := mBin (inS false) (mVar 1) (mC (.str "abcdefghijklmnopqrstuvwxyz"))
def B_is_name : M Fl := mSeq (mIf (mOr Ya8 (mOr (zah asB (mBin Yfr (mVar 0) (mC (.tup ((["if", "bump", "even", "kind", "look", "read", "same"] : List Str).map T.str))))) (mNot (zah asB (mChain iLe iLe Yq Yim (mC (.int (4)))))))) Ycz (za8)) (mRet (mApp oAll (zac (zba zay (mStrI (mVar 0)) (gN 1) mYes f_is_name_c1 [1]) (mNil))))
def zb0 : OpN := fnP 1 2 B_is_name
def f_number_in_c1 : M W := mBin (inS false) (mVar 2) (mC (.str "0123456789"))
def B_number_in : M Fl := mSeq (mIf (mOr (mNot (zah asB (mChain iLe iLe Yq Yim (mVar 1)))) (mNot (zah truW (mApp oAll (zac (zba zay (mStrI (mVar 0)) (gN 2) mYes f_number_in_c1 [2]) (mNil)))))) Yjj (za8)) (mRet (mIf (mAnd (zah asB (mBin Yx Yis (mC (.str "0")))) (zah asB (mBin Ya7 (mVar 0) (mC (.str "0"))))) Yar (mApp oIntS Yy)))
def zcx : OpN := fnP 2 3 B_number_in
def B_round_in : M Fl := mSeq (mSet 1 (mSM zcp (mVar 0) Yjb)) (mSeq (mIf (mOr (zah asB (mBin Ya7 Yjc (mC (.int 3)))) (mOr (zah asB (mBin Ya7 (mBin ixW (mVar 1) Yh) (mC (.str "round")))) (mNot (zah truW (zar zb0 [] (zac (mBin ixW (mVar 1) Yq) (mNil))))))) Yjj (za8)) (mSeq (mSet 2 (zar zcx [] (zac (mBin ixW (mVar 1) Ybr) (zac (mC (.int (9))) (mNil))))) (mRet (mIf (zah asB (mBin Ygj (mVar 2) Yar)) Yar (mApp zaw (zac (mBin ixW (mVar 1) Yq) Yah))))))
def zd0 : OpN := fnP 1 3 B_round_in
def B_named_in : M Fl := mSeq (mAsg (mSM zbd (mVar 0) (mC Yki)) (gA 3 (gsC (gN 2) (gsC (gN 3) (gsC (gN 4) gsN))))) (mRet (mIf (zah truW (mSM zb2 (mVar 2) (mVar 1))) (mApp zaw (zac (mSl (mVar 2) (ze8 Yjc) zca) Ycb)) (mApp zaw (zac Ya2 (zac Ya2 (mNil))))))
def zbv : OpN := fnP 2 5 B_named_in
def B_is_sequence : M Fl := mRet (mApp Ybp (zac (mVar 0) (zac (mApp zaw (zac (mC (.ty "list")) Y0)) (mNil))))
def zav : OpN := fnP 1 1 B_is_sequence
def B_deed_in : M Fl := mSeq (mIf Ya8 Yjj (za8)) (mSeq (mSet 2 (mSM zcp (mVar 0) Yjb)) (mSeq (mIf (mOr (zah asB (mBin Ya7 Yk3 Ybr)) (mOr (zah asB (mBin (inW true) Ydb (mVar 1))) (mNot (zah truW (zar zb0 [] (zac Ygo (mNil))))))) Yjj (za8)) (mRet (mApp zaw (zac Ydb (zac Ygo (mNil)))))))
def F_deed_in : OpN := fnP 2 3 B_deed_in
def zcy : M Bool := mAnd (zah asB (mBin Ykl (mVar 5) Yar)) (zah asB (mBin Yx (mBin ixW (mVar 5) Yh) (mBin ixW (mVar 1) Yh)))
def zc2 : M W := mBin ixW (mVar 5) Yq
def zdo : M W := zar F_deed_in [] (zac (mVar 4) Yaa)
def B_deeds_in : M Fl := mSeq (mIf Yei Yjj (za8)) (mSeq (mSet 2 (zba zay Ybd (gN 4) mYes zdo [4])) (mSeq (mSet 3 (zba zay (mSq (mVar 2)) (gN 5) zcy zc2 [5])) (mRet (mIf (mOr (zah asB (mBin Yfr Yar (mVar 2))) (zah asB (mBin Ya7 (mLenSet (mVar 3)) Yhd))) Yar (mApp oTup Yah)))))
def zer : OpN := fnP 2 6 B_deeds_in
def B_Kind_init : M Fl := mSeq (mIf (mNot (zah truW (zar zb0 [] Yaa))) (mRaise (mExc "InvalidKind" "word" (zac (mC (.str "name")) (mNil)))) (za8)) (mSeq (mSet 3 (zar zer [] (zac (mVar 2) (zac (mC (.tup ((["write", "bump"] : List Str).map T.str))) (mNil))))) (mSeq (mIf (mOr (zah asB (mBin Ygj (mVar 3) Yar)) (zah asB (mBin Yx Yhd Yh))) (mRaise (mExc "InvalidKind" "word" (zac (mC (.str "steps")) (mNil)))) (za8)) (mSeq (zdt ["Kind", "Reader"] "name" (mVar 0) (mVar 1)) (mSeq (zdt ["Kind", "Reader"] "steps" (mVar 0) (mApp oTup Yah)) (zdt ["Kind", "Reader"] "deeds" (mVar 0) (mVar 3))))))
def ze0 : OpN := fnX 3 4 B_Kind_init
def zda : M Fl := mRet (mFrzI (mMakeL 0 "Kind" ze0 [] (zac (mVar 2) (zac (mSM zcp (mVar 3) (mC (.str ", "))) (mNil)))))
def zfn : M Ex := mExc "InvalidText" "at" (zac Yh (mNil))
def ze1 : M Fl := mSeq (mAsg (zar zbv [] (zac (mVar 1) (zac (mC (.str "kind ")) (mNil)))) (gA 2 Ybj)) (zel (hitC "InvalidKind") 4 zda zfn)
def zce : OpN := fnX 2 5 ze1
def zdh : M Fl := mRet (zfx "Kind" zce [] (mC Ybv) Yy)
def f_kind_in_l2 : M Fl := mRet Yar
def B_kind_in : M Fl := mTry (hitC "InvalidText") zdh f_kind_in_l2
def zd5 : OpN := fnP 1 1 B_kind_in
def B_spot_in : M Fl := mSeq (mSet 2 (zar zcx [] (zac (mVar 0) (zac (mC (.int (9))) (mNil))))) (mRet (mIf (mAnd (zah asB (mBin Ykl (mVar 2) Yar)) (mAnd (zah asB (mBin wLt (mVar 2) Yjc)) (zah asB (mBin Yx (mBin ixW (mBin ixW (mVar 1) (mVar 2)) Yh) Yg8)))) (mVar 2) Yar))
def zes : OpN := fnP 2 3 B_spot_in
def zcd : M W := zar zes [] (zac (mVar 4) Yaa)
def B_test_in : M Fl := mSeq (mIf Ya8 Yjj (za8)) (mSeq (mSet 2 (mSM zcp (mVar 0) Yjb)) (mSeq (mSet 3 (zba zay Yk4 (gN 4) mYes zcd [4])) (mSeq (mIf (zah asB (mBin Yfr Yar (mVar 3))) Yjj (za8)) (mSeq (mIf (mAnd (zah asB (mBin Yx Ydb Yiy)) (zah asB (mBin Yx Yhd Yq))) (mRet (mApp zaw (zac Yiy (zac Ydc (mNil))))) (za8)) (mSeq (mIf (mOr (zah asB (mBin Ya7 Ydb (mC (.str "same")))) (mOr (zah asB (mBin Ya7 Yhd Ybr)) (zah asB (mBin iGe Ydc (mBin ixW (mVar 3) Yq))))) Yjj (za8)) (mRet (mIf (zah asB Yf6) (mApp zaw Yjv) Yar)))))))
def F_test_in : OpN := fnP 2 5 B_test_in
def zdk : M W := zar F_test_in [] (zac (mVar 3) Yaa)
def B_tests_in : M Fl := mSeq (mIf Yei Yjj (za8)) (mSeq (mSet 2 (zba zay Ybd (gN 3) mYes zdk [3])) (mRet (mIf (mOr (zah asB (mBin Yfr Yar (mVar 2))) (zah asB (mBin Ya7 (mLenSetT (mVar 2)) Yk3))) Yar (mApp oTup Yah))))
def zdg : OpN := fnP 2 4 B_tests_in
def zck : M W := mVar 6
def B_Reader_init : M Fl := mSeq (mIf (mNot (zah truW (zar zb0 [] Yaa))) (mRaise (mExc "InvalidReader" "word" (zac (mC (.str "name")) (mNil)))) (za8)) (mSeq (mSet 4 (zar zer [] (zac (mVar 2) (zac (mC (.tup ((["read", "look"] : List Str).map T.str))) (mNil))))) (mSeq (mIf (mOr (zah asB (mBin Ygj (mVar 4) Yar)) (zah asB Yid)) (mRaise (mExc "InvalidReader" "word" (zac (mC (.str "steps")) (mNil)))) (za8)) (mSeq (mSet 5 (zar zdg [] (zac (mVar 3) Ycb))) (mSeq (mIf (zah asB (mBin Ygj (mVar 5) Yar)) (mRaise (mExc "InvalidReader" "word" (zac (mC (.str "checks")) (mNil)))) (za8)) (mSeq (zdt ["Kind", "Reader"] "name" (mVar 0) (mVar 1)) (mSeq (zdt ["Kind", "Reader"] "steps" (mVar 0) (mApp oTup Yah)) (mSeq (zdt ["Reader"] "checks" (mVar 0) (mApp oTup Yr)) (mSeq (zdt ["Kind", "Reader"] "deeds" (mVar 0) (mVar 4)) (zdt ["Reader"] "tests" (mVar 0) (mVar 5))))))))))
def zdm : OpN := fnX 4 8 B_Reader_init
def zbq : M Fl := mRet (mFrzI (mMakeL 0 "Reader" zdm [] (zac (mVar 2) Yaf)))
def zeb : M Ex := mExc "InvalidText" "at" (zac Yh (mNil))
def zc0 : M Fl := mSeq (mAsg (zar zbv [] (zac (mVar 1) (zac (mC Yie) (mNil)))) (gA 2 Ybj)) (mSeq Yg0 Yc7)
def zbk : OpN := fnX 2 8 zc0
def zcm : M Fl := mRet (zfx "Reader" zbk [] (mC Yai) Yy)
def f_reader_in_l2 : M Fl := mRet Yar
def B_reader_in : M Fl := mTry (hitC "InvalidText") zcm f_reader_in_l2
def zcu : OpN := fnP 1 1 B_reader_in
def B_are_unlike : M Fl := mRet (mAndV (mBin iGt Yim Yh) (mBin Yx (mLenSet (mVar 0)) Yim))
def zdf : OpN := fnP 1 1 B_are_unlike
def zd1 : M W := mFld ["Kind", "Reader"] "name" (mVar 1)
def zdb : M W := mApp Ybp (zac (mVar 1) (zac (mC Ybv) (mNil)))
def B_are_kinds : M Fl := mSeq (mIf (mOr Yei (mNot (zah truW (mApp oAll (zac (zba zay Ybd (gN 1) mYes zdb [1]) (mNil)))))) Ycz (za8)) (mRet (zar zdf [] (zac (zba zay Ybd (gN 1) mYes zd1 [1]) (mNil))))
def zgn : OpN := fnP 1 2 B_are_kinds
def zdc : M W := mFld ["Kind", "Reader"] "name" (mVar 1)
def zcj : M W := mApp Ybp (zac (mVar 1) (zac (mC Yai) (mNil)))
def B_are_readers : M Fl := mSeq (mIf (mOr Yei (mNot (zah truW (mApp oAll (zac (zba zay Ybd (gN 1) mYes zcj [1]) (mNil)))))) Ycz (za8)) (mRet (zar zdf [] (zac (zba zay Ybd (gN 1) mYes zdc [1]) (mNil))))
def zek : OpN := fnP 1 2 B_are_readers
def B_is_integer : M Fl := mRet (mAndV (mApp Ybp (zac (mVar 0) (zac (mC (.ty "int")) (mNil)))) (mNotV (mApp Ybp (zac (mVar 0) (zac (mC (.ty "bool")) (mNil))))))
def zbz : OpN := fnP 1 1 B_is_integer
def B_is_round : M Fl := mSeq (mIf (mOr (mNot Yfb) (mOr (zah asB (mBin Ya7 Yim Ybr)) (mNot (zah truW (zar zb0 [] (zac Yis (mNil))))))) Ycz (za8)) (mRet (mAndV (zar zbz [] (zac Ylp (mNil))) (mBin iGe Ylp (mC (.int (2))))))
def F_is_round : OpN := fnP 1 1 B_is_round
def zcr : M W := mVar 2
def zct : M W := zar F_is_round [] Yaa
def B_are_rounds : M Fl := mSeq (mIf (mOr Yei (mNot (zah truW (mApp oAll (zac (zba zay Ybd (gN 1) mYes zct [1]) (mNil)))))) Ycz (za8)) (mRet (mBin Yx (mLenSet (zba zay Ybd (gT 2 Ybj) mYes zcr [2, 3])) Yim))
def zfk : OpN := fnP 1 4 B_are_rounds
def B_Design_init : M Fl := mSeq (mIf (mNot (zah truW (zar zgn [] Yaa))) (mBad) (za8)) (mSeq (mIf (mNot (zah truW (zar zek [] Yah))) (mBad) (za8)) (mSeq (mIf (mNot (zah truW (zar zfk [] Yr))) (mBad) (za8)) (mSeq (zdt ["Design"] "kinds" (mVar 0) (mApp oTup Yaa)) (mSeq (zdt ["Design"] "readers" (mVar 0) (mApp oTup Yah)) (zdt ["Design"] "rounds" (mVar 0) (mApp oTup (zac (mApp oSortQ Yr) (mNil))))))))
def zcz : OpN := fnX 4 4 B_Design_init
def zby : M Bool := mAnd (zah asB (mBin Ykl (mBin ixW (mVar 6) (mVar 8)) Yar)) (zah asB (mBin iGe (mVar 8) (mVar 3)))
def zbx : M W := mVar 8
def zax : M Fl := mSeq (mSet 6 (mApp zaw (zac (zar zd0 [] Ybe) (zac (zar zd5 [] Ybe) (zac (zar zcu [] Ybe) (mNil)))))) (mSeq (mSet 7 (zba zay Yfi (gN 8) zby zbx [8])) (mSeq (mIf (zah asB (mBin Yx (mApp oLen Yjd) Yh)) (mBad) (za8)) (mSeq (mSet 3 (mBin ixW (mVar 7) Yh)) (mDrop (mMeth isL zec (mBin zf5 (mVar 2) (mVar 3)) (zac (mBin ixW (mVar 6) (mVar 3)) (mNil)))))))
def B_Design_read : M Fl := mSeq (mSet 2 (mApp tplOf (zac Yg9 (zac Yg9 (zac Yg9 (mNil)))))) (mSeq (mSet 3 Yh) (mSeq (mFor (mSrc enum1 (zac (mSM zcp (mVar 1) (mC (.str "\n"))) (mNil))) Yb9 zax) (mRet (mFrzI (mMakeL 0 "Design" zcz [] (zac (mFrz (mBin zf5 (mVar 2) Yq)) Yit))))))
def zbj : OpN := fnX 2 9 B_Design_read
def ze4 : M Fl := mDrop (mMeth0 isL oPop (mVar 2))
def B_w_draw : M Fl := mSeq (mSet 2 (mBin dGet (mVar 0) (mC (.str "great")))) (mSeq (mWhile 4096 (mAnd Yhe (zah asB (mBin Yx (mBin ixW (mVar 2) (mUn iNeg Yq)) Yh))) ze4) (mSeq (mIf Yhe (mSeq (mSet 3 (mMeth0 isL oPop (mVar 2))) (mSeq (mDrop (mMeth isL zec (mVar 2) (zac (mBin iDiv (mVar 3) (mVar 1)) (mNil)))) (mRet (mBin iMod (mApp oInt Yr) (mVar 1))))) (za8)) (mSeq (mDPut (mVar 0) (mC (.str "stirred")) (mBin iMod (mApp oInt (zac (mBin wAdd (mBin wMul (mBin dGet (mVar 0) (mC (.str "stirred"))) (mC (.int 48271))) (mC (.int 19))) (mNil))) (mC (.int 2147483647)))) (mRet (mBin iMod (mApp oInt (zac (mBin iDiv (mBin dGet (mVar 0) (mC (.str "stirred"))) (mC (.int 16))) (mNil))) (mVar 1))))))
def zdr : OpN := fnM 2 4 B_w_draw
def B_w_pick : M Fl := mRet (mBin ixW (mVar 1) (zar zdr [] (zac (mVar 0) (zac Yjc (mNil)))))
def F_w_pick : OpN := fnM 2 2 B_w_pick
def f_w_any_c1 (G : OpN) : M W := zar G [] (zac (mVar 0) (zac (mBin iSub (mVar 1) Yq) (mNil)))
def B_w_any (G : OpN) : M Fl := mSeq (mSet 2 (zar zdr [] (zac (mVar 0) (zac (mC (.int 8)) (mNil))))) (mSeq (mIf (mAnd (zah asB (mBin wLt (mVar 2) (mC (.int 4)))) (zah asB (mBin iGt (mVar 1) Yh))) (mSeq (mSet 3 (zba zay Yiu (gN 5) mYes (f_w_any_c1 G) [5])) (mRet (mIf (zah asB (mBin Yx (mVar 2) Yh)) (mVar 3) (mApp oTup Yr)))) (za8)) (mSeq (mSet 4 (mApp zay (zac (mC (.str "late")) (zac (mC (.str "fit")) (zac Ya2 (zac (mC Yae) (zac (mC Yo) (zac Yh (zac Yq (zac (mBin iPow (mC (.int 10)) (mC (.int 20))) (zac Yar (zac (mC (.str "move")) (mNil))))))))))))) (mRet (zar F_w_pick [] (zac (mVar 0) (zac (mBin wAdd (mVar 4) Yew) (mNil)))))))
def S_w_any (G : OpN) : OpN := fnM 2 6 (B_w_any G)
def F_w_any : OpN := recN S_w_any 12
def zfv : M Fl := mIf (mAnd (zah truW (mApp Ybp (zac (mVar 2) Yif))) (zah asB (mBin Yx (mFld ["Kind", "Reader"] "name" (mVar 3)) (mVar 2)))) (mRet (mVar 3)) (za8)
def B_Design_thing : M Fl := mSeq (mFor (mSq (mVar 1)) (gN 3) zfv) (mBad)
def zc9 : OpN := fnP 3 4 B_Design_thing
def B_Design_reader : M Fl := mRet (mMethC "Design" "thing" zc9 [] (mVar 0) (zac (mFld ["Design"] "readers" (mVar 0)) Yaa))
def zcb : OpN := fnP 2 2 B_Design_reader
def B_need_sure_fault : M Fl := mIf (mOr Ya8 (zah asB (mBin (inW true) (mVar 0) (mC (.tup ((["early", "torn"] : List Str).map T.str)))))) (mBad) (za8)
def zbu : OpN := fnP 1 1 B_need_sure_fault
def B_Kind_len : M Fl := mRet (mApp oLen (zac Yao (mNil)))
def zfz : OpN := fnP 1 1 B_Kind_len
def B_is_below : M Fl := mRet (mAndV (zar zbz [] Yy) (mChain iLe wLt Yh (mVar 0) (mVar 1)))
def zcc : OpN := fnP 2 2 B_is_below
def zee : M Bool := zah asB (mBin Yx (mFld ["Kind", "Reader"] "name" (mVar 4)) (mVar 1))
def zd9 : M W := mLenOwn "Kind" zfz (mVar 4)
def B_is_progress : M Fl := mSeq (mIf (mNot (zah truW (mApp Ybp (zac (mVar 1) Yif)))) Ycz (za8)) (mSeq (mSet 3 (zba zay (mSq Ygv) (gN 4) zee zd9 [4])) (mSeq (mIf (zah asB (mBin Yx Yhd Yh)) (mRet (mAndV (mBin Yx (mVar 1) Ya2) (mAndV (zar zbz [] Yah) (mBin Yx (mVar 2) Yh)))) (za8)) (mRet (mAndV (zar zcc [] (zac (mVar 2) (zac Ydc (mNil)))) (mBin iGt (mVar 2) Yh)))))
def zgg : OpN := fnP 3 5 B_is_progress
def zeh : M Bool := zah asB (mBin Yfr (mVar 4) (mApp zaw (zac (mC (.str "bump")) (zac Yg8 (mNil)))))
def zei : M W := mApp oStr Ybe
def zc6 : M W := mFld ["Kind", "Reader"] "deeds" (mVar 2)
def zc8 : M W := mVar 3
def B_Design_counters : M Fl := mSeq (mSet 1 (mComp2 zay (mSq (mApp zaw (mStar Ygv (mStar (mFld ["Design"] "readers" (mVar 0)) (mNil))))) (gN 2) mYes zc6 (gN 3) mYes zc8 [2, 3] [3])) (mRet (mApp oTup (zac (mSortSetC (mSq (mVar 1)) Yb9 zeh zei [4, 5]) (mNil))))
def za5 : OpN := fnP 1 6 B_Design_counters
def B_Design_round_of : M Fl := mRet (mGet1 (mFrzD (mApp oDictP (zac (mFld ["Design"] "rounds" (mVar 0)) (mNil)))) (mVar 1))
def za1 : OpN := fnP 2 2 B_Design_round_of
def f_are_counts_c1 : M W := zar zcc [] (zac (mVar 4) (zac (mIf (zah asB (mBin Ygj (mVar 5) Yar)) Ybr (mVar 5)) (mNil)))
def zey : M W := mMethC "Design" "round_of" za1 [] (mVar 0) Yr
def B_are_counts : M Fl := mSeq (mIf (mOr (mNot (zah truW (mApp Ybp (zac (mVar 1) Y0)))) (zah asB (mBin Ya7 Yjc (mApp oLen (zac Yfy (mNil)))))) Ycz (za8)) (mSeq (mSet 2 (zba zay (mSq Yfy) (gN 3) mYes zey [3])) (mRet (mApp oAll (zac (zba zay (mSrc zip2 (zac (mVar 1) Yah)) Yb9 mYes f_are_counts_c1 [4, 5]) (mNil)))))
def F_are_counts : OpN := fnP 2 6 B_are_counts
def B_Reader_len : M Fl := mRet (mApp oLen (zac Yao (mNil)))
def zd4 : OpN := fnP 1 1 B_Reader_len
def B_is_seen : M Fl := mSeq (mIf (zah asB (mBin Ykl (mVar 1) Yar)) (mRet (zar zcc [] (zac (mVar 0) Yaa))) (za8)) (mSeq (mIf (mOr (mNot Yfb) (zah asB (mBin Ya7 Yim Ybr))) Ycz (za8)) (mRet (mAndV (zar zcc [] (zac Yis (zac Ybr (mNil)))) (mApp Ybp (zac Ylp (zac (mC (.ty "bool")) (mNil)))))))
def F_is_seen : OpN := fnP 2 2 B_is_seen
def f_are_seen_c1 : M W := zar F_is_seen [] (zac (mVar 7) (zac (mMethC "Design" "round_of" za1 [] (mVar 0) Ycc) (mNil)))
def zf6 : M Bool := zah asB (mBin Yx (mVar 5) Yg8)
def zgk : M W := mVar 6
def B_are_seen : M Fl := mSeq (mSet 4 (zba zay (mSq (mSl Yig zca (ze8 (mVar 2)))) (gT 2 (gsC (gN 5) (gsC (gN 6) gsN))) zf6 zgk [5, 6])) (mSeq (mIf (mOr (mNot Yfc) (zah asB (mBin Ya7 Yhd (mApp oLen Ycb)))) Ycz (za8)) (mRet (mApp oAll (zac (zba zay (mSrc zip2 (zac (mVar 3) Ycb)) (gT 2 (gsC (gN 7) (gsC (gN 8) gsN))) mYes f_are_seen_c1 [7, 8]) (mNil)))))
def F_are_seen : OpN := fnP 4 9 B_are_seen
def f_is_lot_of_c1 : M W := mBin wLt (mVar 3) (mVar 4)
def f_is_lot_of_c2 : M W := mAndV (mApp Ybp (zac (mVar 2) Yif)) (mBin Yfr (mVar 2) (mVar 1))
def B_is_lot_of : M Fl := mSeq (mIf (mOr (mNot Yfb) (mNot (zah truW (mApp oAll (zac (zba zay Ybd (gN 2) mYes f_is_lot_of_c2 [2]) (mNil)))))) Ycz (za8)) (mRet (mApp oAll (zac (zba zay (mSrc zip2 (zac (mVar 0) (zac (mSl (mVar 0) (ze8 Yq) zca) (mNil)))) (gT 2 (gsC (gN 3) (gsC (gN 4) gsN))) mYes f_is_lot_of_c1 [3, 4]) (mNil))))
def F_is_lot_of : OpN := fnP 2 5 B_is_lot_of
def f_parts_left_c1 : M Bool := zah asB (mBin Yx (mVar 2) (mC (.str "read")))
def f_parts_left_c2 : M W := mVar 3
def B_parts_left : M Fl := mRet (zba zay (mSq (mSl Yao (ze8 (mVar 1)) zca)) (gT 2 Ybj) f_parts_left_c1 f_parts_left_c2 [2, 3])
def zcs : OpN := fnP 2 4 B_parts_left
def B_is_standing : M Fl := mSeq (mIf (mOr (mNot (zah truW (mApp Ybp (zac (mVar 2) Y0)))) (zah asB (mBin Ya7 Yk3 (mC (.int (8)))))) Ycz (za8)) (mSeq Yax (mSeq (mIf (mOr (mNot (zah truW (zar zgg [] (zac (mVar 0) (zac (mVar 4) Ybe))))) (mOr (mNot (zah truW (zar F_are_counts [] (zac (mVar 0) (zac (mVar 6) (mNil)))))) (mNot (zah truW (zar zcc [] (zac (mVar 7) (zac (mLenOwn "Reader" zd4 (mVar 1)) (mNil)))))))) Ycz (za8)) (mSeq (mIf (mOr (mNot (zah truW (zar F_are_seen [] (zac (mVar 0) (zac (mVar 1) (zac (mVar 7) Ycc)))))) (mOr (mNot (zah truW (mApp Ybp (zac (mVar 9) Yif)))) (zah asB (mBin (inW true) (mVar 9) (mC (.tup ((["new", "open", "past", "torn"] : List Str).map T.str))))))) Ycz (za8)) (mSeq (mIf (mNot (zah truW (zar F_is_lot_of [] (zac (mVar 10) (zac (mIf Yd1 (zar zcs [] (zac (mVar 1) Yjd)) (mApp zay (mNil))) (mNil)))))) Ycz (za8)) (mSeq (mIf (mOr (mNot (zah truW (zar zcc [] (zac (mVar 11) (zac (mIf (zah asB (mBin Ygj (mVar 3) Yar)) Yq (mBin wAdd (mVar 3) Yq)) (mNil)))))) (mAnd (zah asB (mBin Yx (mVar 4) Ya2)) Yhh)) Ycz (za8)) (mRet (mOrV (mBin iGt (mVar 7) Yh) (mAndV (mBin Yx (mVar 9) (mC (.str "open"))) (mBin Yx (mVar 11) Yh)))))))))
def zcg : OpN := fnP 4 12 B_is_standing
def f_start_c1 : M W := mC (.int 0)
def B_start : M Fl := mRet (mApp zaw (zac Ya2 (zac Yh (zac (mApp oTup (zac (zba zay (mSq Yfy) (gN 1) mYes f_start_c1 [1]) (mNil))) Yc4))))
def F_start : OpN := fnP 1 2 B_start
def f_bumped_l1 : M Fl := mSeq (mSet 6 (mMethC "Design" "round_of" za1 [] (mVar 0) Ycb)) (mDrop (mMeth isL zec (mVar 3) (zac (mIf (zah asB (mBin Yx (mVar 4) (mVar 2))) (mBin iMod Yk5 (mIf (zah asB (mBin Ygj (mVar 6) Yar)) Ybr (mVar 6))) (mVar 5)) (mNil))))
def B_bumped : M Fl := mSeq (mSet 3 Yg9) (mSeq (mFor (mSrc zip2 (zac Yfy Yaa)) Yb9 f_bumped_l1) (mFz 3 (mRet (mApp oTup Yr))))
def F_bumped : OpN := fnP 3 7 B_bumped
def f_noticed_c1 : M Bool := zah asB (mBin Yx (mVar 6) Yg8)
def f_noticed_c2 : M W := mVar 7
def B_noticed : M Fl := mSeq (mSet 4 (mSl (zba zay (mSq Yig) Yca f_noticed_c1 f_noticed_c2 [6, 7]) zca (ze8 Yk3))) (mSeq (mIf (mOr (zah asB (mBin Ykl (mMethC "Design" "round_of" za1 [] (mVar 0) Yr) Yar)) (zah asB (mBin (inW true) (mVar 3) (mVar 4)))) (mRet (mVar 2)) (za8)) (mSeq (mSet 5 (mBin iSub (mBin iSub (mApp oLen Ycb) Yq) (mMeth isL oIndexS (mUn oRev (mVar 4)) Yr))) (mRet (mApp zaw (mStar (mSl (mVar 2) zca (ze8 (mVar 5))) (zac (mApp zaw (zac (mBin ixW (mBin ixW (mVar 2) (mVar 5)) Yh) (zac (mC Yae) (mNil)))) (mStar (mSl (mVar 2) (ze8 Yk5) zca) (mNil))))))))
def F_noticed : OpN := fnP 4 8 B_noticed
def f_with_deed_c1 : M W := mApp oStr (zac (mVar 14) (mNil))
def B_with_deed : M Fl := mSeq Yax (mSeq (mAsg (mBin ixW (mFld ["Kind", "Reader"] "deeds" (mVar 3)) (mVar 5)) (gA 2 (gsC (gN 12) (gsC (gN 13) gsN)))) (mSeq (mIf (zah asB (mBin Yx (mVar 12) (mC (.str "bump")))) (mSeq (mSet 6 (zar F_bumped [] (zac (mVar 0) (zac (mVar 6) (zac (mVar 13) (mNil)))))) (mSet 8 (zar F_noticed [] (zac (mVar 0) (zac (mVar 1) (zac (mVar 8) (zac (mVar 13) (mNil)))))))) (mIf (mAnd Yd1 (mAnd (zah asB (mBin Yfr (mVar 13) (zar zcs [] (zac (mVar 1) Yjd)))) (zah asB (mBin (inW true) (mVar 13) (mVar 10))))) (mSet 10 (mApp oTup (zac (mApp oSort (zac (zba zay (mSq (mApp zaw (mStar (mVar 10) (zac (mVar 13) (mNil))))) (gN 14) mYes f_with_deed_c1 [14]) (mNil))) (mNil)))) (za8))) (mSeq (mIf (zah asB (mBin Yx Yk5 (mLenOwn "Kind" zfz (mVar 3)))) (mRet (mApp zaw (zac Ya2 (zac Yh (zac (mVar 6) (zac (mVar 7) (zac (mVar 8) (zac (mIf Yhh (mC (.str "open")) (mVar 9)) (zac (mVar 10) (zac (mVar 11) (mNil))))))))))) (za8)) (mRet (mApp zaw (zac (mFld ["Kind", "Reader"] "name" (mVar 3)) (zac Yk5 (zac (mVar 6) (zac (mVar 7) (zac (mVar 8) (zac (mVar 9) (zac (mVar 10) (zac (mVar 11) (mNil))))))))))))))
def zet : OpN := fnP 4 15 B_with_deed
def B_Design_kind : M Fl := mRet (mMethC "Design" "thing" zc9 [] (mVar 0) (zac Ygv Yaa))
def zdj : OpN := fnP 2 2 B_Design_kind
def f_Kind_writes_c1 : M Bool := zah asB (mBin Yx (mVar 1) (mC (.str "write")))
def f_Kind_writes_c2 : M W := mVar 2
def B_Kind_writes : M Fl := mRet (mApp oTup (zac (zba zay (mSq Yao) (gT 2 (gsC (gN 1) (gsC (gN 2) gsN))) f_Kind_writes_c1 f_Kind_writes_c2 [1, 2]) (mNil)))
def zdl : OpN := fnP 1 3 B_Kind_writes
def f_parts_read_c1 : M Bool := zah asB (mBin Yx (mVar 2) (mC (.str "read")))
def f_parts_read_c2 : M W := mVar 3
def B_parts_read : M Fl := mRet (zba zay (mSq (mSl Yao zca (ze8 (mVar 1)))) (gT 2 Ybj) f_parts_read_c1 f_parts_read_c2 [2, 3])
def F_parts_read : OpN := fnP 2 4 B_parts_read
def f_with_begin_c1 : M W := mBin Yfr (mVar 13) (mProp "Kind" zdl (mVar 3))
def B_with_begin : M Fl := mSeq (mAsg (mVar 2) (gA 8 (gsC (gN 5) (gsC (gN 6) (gsC (gN 7) (gsC (gN 8) (gsC (gN 9) (gsC (gN 10) (gsC (gN 11) (gsC (gN 12) gsN)))))))))) (mSeq (mIf (mAnd (zah asB (mBin iGt (mVar 8) Yh)) (zah asB (mBin Ykl (mVar 4) Yar))) (mSeq (mAug 12 iAdd Yq) (mIf (zah asB (mBin iGt (mVar 12) (mVar 4))) Yjj (za8))) (za8)) (mSeq (mIf (mAnd (zah asB (mBin Yx (mVar 10) (mC (.str "open")))) (zah truW (mApp oAny (zac (zba zay (mSq (zar F_parts_read [] (zac (mVar 1) Ycc))) (gN 13) mYes f_with_begin_c1 [13]) (mNil))))) (mSet 10 (mC (.str "past"))) (za8)) (mRet (zar zet [] (zac (mVar 0) (zac (mVar 1) (zac (mApp zaw (zac (mVar 5) (zac (mVar 6) (zac (mVar 7) (zac (mVar 8) (zac (mVar 9) (zac (mVar 10) (zac (mVar 11) (zac (mVar 12) (mNil)))))))))) Yr)))))))
def F_with_begin : OpN := fnP 5 14 B_with_begin
def zfs : M Bool := zah asB (mBin Ykl (mVar 7) Yar)
def zfr : M W := mApp zaw (zac (mVar 6) Yjd)
def zdz : M W := mApp zaw (zac (mFld ["Kind", "Reader"] "name" (mVar 5)) (zac (zar F_with_begin [] (zac (mVar 0) (zac (mVar 1) (zac (mVar 2) (zac (mVar 5) Yr))))) (mNil)))
def B_writer_steps : M Fl := mSeq (mIf (zah asB (mBin Ya7 Ydb Ya2)) (mRet (mApp zay (zac (mApp zaw (zac Yar (zac (zar zet [] (zac (mVar 0) (zac (mVar 1) (zac (mVar 2) (zac (mMethC "Design" "kind" zdj [] (mVar 0) (zac Ydb (mNil))) (mNil)))))) (mNil)))) (mNil)))) (za8)) (mSeq (mSet 4 (zba zay (mSq Ygv) (gN 5) mYes zdz [5])) (mRet (zba zay (mSq (mVar 4)) Yca zfs zfr [6, 7])))
def zfo : OpN := fnP 4 8 B_writer_steps
def B_value_seen : M Fl := mSeq (mSet 3 (mBin dGetT (mFrzD (mApp dzipE (zac Yfy (zac (mBin ixW (mVar 1) Ybr) (mNil))))) (mVar 2))) (mRet (mIf (zah asB (mBin Ygj (mMethC "Design" "round_of" za1 [] (mVar 0) Yah) Yar)) (mApp zaw (zac (mVar 3) (zac (mC Yo) (mNil)))) (mVar 3)))
def F_value_seen : OpN := fnP 3 4 B_value_seen
def zfi : M Bool := zah asB (mBin Yx (mVar 2) (mC (.str "write")))
def zfb : M W := mVar 3
def B_parts_written : M Fl := mRet (zba zay (mSq (mSl Yao zca (ze8 (mVar 1)))) (gT 2 Ybj) zfi zfb [2, 3])
def zeu : OpN := fnP 2 4 B_parts_written
def f_fit_behind_c1 : M Bool := zah asB (mBin Yfr (mVar 14) (mVar 13))
def f_fit_behind_c2 : M W := mApp oStr (zac (mVar 14) (mNil))
def B_fit_behind : M Fl := mSeq Yax (mSeq (mIf (mOr (zah asB (mBin Yx (mVar 9) Yab)) (mAnd Yd1 (zah asB (mBin Yfr (mVar 3) (mVar 10))))) (mRet (mApp zaw (zac Yab (zac Yaj (mNil))))) (za8)) (mSeq (mIf Yd1 (mRet (mApp zaw (zac (mC (.str "past")) (zac (mVar 10) (mNil))))) (za8)) (mSeq (mSet 12 (mIf (zah asB (mBin Ya7 (mVar 4) Ya2)) (mMethC "Design" "kind" zdj [] (mVar 0) Ycb) Yar)) (mSeq (mIf (mOr (zah asB (mBin Ygj (mVar 12) Yar)) (zah asB (mBin (inW true) (mVar 3) (mProp "Kind" zdl (mVar 12))))) (mRet (mApp zaw (zac (mVar 9) (zac Yaj (mNil))))) (za8)) (mSeq (mSet 13 (zar zeu [] (zac (mVar 12) Ybe))) (mSeq (mIf (zah asB (mBin Yfr (mVar 3) (mVar 13))) (mRet (mApp zaw (zac (mC (.str "new")) (zac Yaj (mNil))))) (za8)) (mSeq (mIf Yhh (mRet (mApp zaw (zac Yab (zac Yaj (mNil))))) (za8)) (mRet (mApp zaw (zac (mC (.str "past")) (zac (mApp oTup (zac (mApp oSort (zac (zba zay (mSq (zar zcs [] (zac (mVar 1) (zac (mBin wAdd (mVar 7) Yq) (mNil))))) (gN 14) f_fit_behind_c1 f_fit_behind_c2 [14]) (mNil))) (mNil))) (mNil))))))))))))
def F_fit_behind : OpN := fnP 4 15 B_fit_behind
def B_is_even : M Fl := mRet (mBin Yx (mBin iMod (mIf Yfb Yis (mVar 0)) Ybr) Yh)
def F_is_even : OpN := fnP 1 1 B_is_even
def f_is_same_c1 : M Bool := zah asB (mBin Yx (mBin ixW Yao (mVar 4)) (mVar 3))
def f_is_same_c2 : M W := mBin ixW (mBin dGetT (mVar 1) (mVar 4)) Yq
def B_is_same : M Fl := mSeq (mIf (mNot (zah truW (mApp Ybp (zac (mBin dGetT (mVar 1) Ygo) Y0)))) (mRet (mBin Yx (mBin dGetT (mVar 1) Ygo) (mBin dGetT (mVar 1) (mBin ixW (mVar 2) Ybr)))) (za8)) (mSeq (mSet 3 (mBin ixW Yao Ygo)) (mRet (mNotV (mApp oAny (zac (zba zay (mSrc rng2 (zac Ygo (zac (mBin ixW (mVar 2) Ybr) (mNil)))) (gN 4) f_is_same_c1 f_is_same_c2 [4]) (mNil))))))
def F_is_same : OpN := fnP 3 5 B_is_same
def f_is_accepted_l1 : M Fl := mSeq (mSet 5 (mIf (zah asB (mBin Yx (mBin ixW (mVar 4) Yh) Yiy)) (zar F_is_even [] (zac (mBin dGetT (mVar 3) (mBin ixW (mVar 4) Yq)) (mNil))) (zar F_is_same [] (zac (mVar 0) (zac (mVar 3) Ycb))))) (mIf (mNot (zah truW (mVar 5))) Ycz (za8))
def zed : M Bool := zah asB (mBin Yx (mBin ixW (mVar 7) Yh) Yg8)
def zea : M W := mVar 6
def B_is_accepted : M Fl := mSeq (mSet 2 (zba zay (mSrc enum1 (zac Yao (mNil))) Yca zed zea [6, 7])) (mSeq (mSet 3 (mFrzD (mApp dzipE (zac (mVar 2) Yaa)))) (mSeq (mFor (mSq (mFld ["Reader"] "tests" (mVar 0))) (gN 4) f_is_accepted_l1) (mRet (mC Yae))))
def zge : OpN := fnP 2 8 B_is_accepted
def B_reader_step : M Fl := mSeq (mAsg (mVar 2) (gA 8 (gsC (gN 3) (gsC (gN 4) (gsC (gN 5) (gsC (gN 6) (gsC (gN 7) (gsC (gN 8) (gsC (gN 9) (gsC (gN 10) gsN)))))))))) (mSeq (mAsg (mBin ixW Yig (mVar 6)) (gA 2 (gsC (gN 11) (gsC (gN 12) gsN)))) (mSeq (mIf (zah asB (mBin Yx (mVar 11) Yg8)) (mSet 7 (mApp zaw (mStar (mVar 7) (zac (zar F_value_seen [] (zac (mVar 0) (zac (mVar 2) (zac (mVar 12) (mNil))))) (mNil))))) (mAsg (zar F_fit_behind [] (zac (mVar 0) (zac (mVar 1) (zac (mVar 2) (zac (mVar 12) (mNil)))))) (gA 2 (gsC (gN 8) (gsC (gN 9) gsN))))) (mSeq (mIf (zah asB (mBin wLt (mBin wAdd (mVar 6) Yq) (mLenOwn "Reader" zd4 (mVar 1)))) (mRet (mApp zaw (zac (mApp zaw (zac (mVar 3) (zac (mVar 4) (zac (mVar 5) (zac (mBin wAdd (mVar 6) Yq) (zac (mVar 7) (zac (mVar 8) (zac (mVar 9) (zac (mVar 10) (mNil)))))))))) (zac Yar (mNil))))) (za8)) (mRet (mApp zaw (zac (mApp zaw (zac (mVar 3) (zac (mVar 4) (zac (mVar 5) Yc4)))) (zac (mApp zaw (zac (zar zge [] (zac (mVar 1) Yjd)) Ycc)) (mNil))))))))
def zgd : OpN := fnP 3 13 B_reader_step
def B_fault_of : M Fl := mSeq (mAsg (mVar 0) (gA 2 (gsC (gN 1) (gsC (gN 2) gsN)))) (mSeq (mIf (mNot (zah truW (mVar 1))) Yjj (za8)) (mRet (mIf (zah asB (mBin Yx (mVar 2) Yab)) Yab (mIf (zah asB (mBin Yx (mVar 2) (mC (.str "new")))) (mC (.str "early")) Yar))))
def F_fault_of : OpN := fnP 1 3 B_fault_of
def f_led_on_c1 : M W := mApp zaw (zac (mVar 5) (zac Yar (mNil)))
def B_led_on : M Fl := mSeq (mSet 4 (zba newL (mSq (zar zfo [] (zac (mVar 0) (zac (mVar 1) (zac (mVar 2) Yr))))) (gT 2 (gsC (gN 7) (gsC (gN 5) gsN))) mYes f_led_on_c1 [7, 5])) (mSeq (mAsg (zar zgd [] (zac (mVar 0) (zac (mVar 1) Yah))) (gA 2 (gsC (gN 5) (gsC (gN 6) gsN)))) (mSeq (mDrop (mMeth isL zec (mVar 4) (zac (mApp zaw (zac (mVar 5) (zac (mIf (zah asB (mBin Ygj (mVar 6) Yar)) Yar (zar F_fault_of [] (zac (mVar 6) (mNil)))) (mNil)))) (mNil)))) (mFz 4 (mRet (mVar 4)))))
def F_led_on : OpN := fnP 4 8 B_led_on
def f_certifies_l1 : M Fl := mIf (mOr (zah asB (mBin Yx (mVar 9) (mVar 2))) (zah asB (mBin (lIn true) (mVar 8) (mVar 6)))) Ycz (za8)
def f_certifies_l2 : M Fl := mFor (mSq (zar F_led_on [] (zac (mVar 0) (zac (mVar 5) (zac (mVar 7) Ycb))))) (gT 2 (gsC (gN 8) (gsC (gN 9) gsN))) f_certifies_l1
def zfq : M W := mVar 7
def zfp : M W := mC Yae
def zcn : M W := zar zcg [] (zac (mVar 0) (zac (mVar 5) (zac (mVar 7) Ycb)))
def B_certifies : M Fl := mSeq (mSet 5 (mMethC "Design" "reader" zcb [] (mVar 0) Yaa)) (mSeq (mDrop (zar zbu [] Yah)) (mSeq (mIf (mOr (mNot Yfc) (mNot (zah truW (mApp oAll Yfd)))) Ycz (za8)) (mSeq (mSet 6 (mDCompN (mSq (mVar 3)) (gN 7) zfq zfp [7])) (mSeq (mIf (zah asB (mBin (lIn true) (zar F_start [] Yy) (mLockN (mVar 6)))) Ycz (za8)) (mSeq (mFor (mKeysN (mVar 6)) (gN 7) f_certifies_l2) (mRet (mC Yae)))))))
def zap : OpN := fnP 5 10 B_certifies
def f_law_c1 : M W := mApp zaw (zac Ya2 (zac Yh (zac Yaj (zac Yq (zac Yaj (zac (mVar 11) (zac Yaj (zac Yh (mNil)))))))))
def f_law_l1 : M Fl := mSeq (mIf (zah asB Yh7) Ycz (za8)) (mIf (zah asB Yek) Ycz (za8))
def f_law_l2 : M Fl := mSeq (mSet 5 (zar F_w_any [] (zac (mVar 1) (zac (mC (.int 7)) (mNil))))) (mFor (mSq (mApp zaw (zac Yab (zac (mC (.str "early")) (mNil))))) (gN 6) f_law_l1)
def B_law : M Fl := mSeq (mSet 1 (zar F_w_deal [] (zac (mVar 0) (zac Yh (mNil))))) (mSeq (mSet 2 (zfx "Design" zbj [] (mC Ybl) (zac (mC (.str "kind move: write a\nreader r: read a")) (mNil)))) (mSeq (mSet 3 (mApp zaw (zac Ya2 (zac Yh (zac Yaj Yc4))))) (mSeq (mFor (mSrc rng1 (zac (mC (.int 14)) (mNil))) (gN 4) f_law_l2) (mSeq (mIf (mOr Ykr Ydr) Ycz (za8)) (mSeq (mSet 7 (zfx "Design" zbj [] (mC Ybl) (zac (mC (.str "kind move: write a, write b\nreader r: read a")) (mNil)))) (mSeq (mSet 8 (mApp zaw (zac (mC (.str "move")) (zac Yq (zac Yaj Yc4))))) (mSeq (mIf (mOr Yd5 Yd7) Ycz (za8)) (mSeq (mIf (mOr Yks Ye5) Ycz (za8)) (mSeq (mIf (mOr Ygd Yd6) Ycz (za8)) (mSeq (mSet 9 (zfx "Design" zbj [] (mC Ybl) (zac (mC (.str "kind move: write a\nreader r: read a, read b")) (mNil)))) (mSeq (mSet 10 (mBin wAdd (mApp zaw Yr) (mApp oTup (zac (zba zay (mSq (mApp zaw (zac (mC (.str "open")) (zac (mC (.str "past")) (zac Yab (mNil)))))) (gN 11) mYes f_law_c1 [11]) (mNil))))) (mSeq (mIf (mOr Yd8 Yfz) Ycz (za8)) (mRet (mAndV (mBin (isB false) Yfj (mC Yae)) (mBin (isB false) Ygp (mC Yo))))))))))))))))
def F_law : OpN := fnM 1 12 B_law
/-- where the draws lie: the dict i, the great cells j -/
structure DealAt (i j : Nat) (gs : List Int) (st : Int) (hp : IH) : Prop where
 d : getD hp i = some [(.inr "great", .r j), (.inr "stirred", .t (.int st))]
 g : getL hp j = some (gs.map wI)
 len : gs.length ≤ 63
 lo : 0 ≤ st
 hi : st < 2147483647
theorem DealAt.ne {i j : Nat} {gs : List Int} {st : Int} {hp : IH} (h : DealAt i j gs st hp) : i ≠ j := by
 intro e
 subst e
 have a := zfl h.d
 have b := zc5 h.g
 rw [a] at b
 cases b
theorem ne_nil {gs : List Int} {hp : IH} {j : Nat} (h : getL hp j = some (gs.map wI)) : eqW true (.r j) (.t Yho) hp = .ok (.t (.bl (!gs.isEmpty))) hp := by
 unfold eqW
 simp only [asT_r, h, Option.bind_some, allT_ints, Option.map_some, asT_t, fit_l, fitL_ints, fitL_n]
 cases gs <;> simp
abbrev popT : M Bool := mAnd Yhe (zah asB (mBin Yx (mBin ixW (mVar 2) (mUn iNeg Yq)) Yh))
theorem pop_loop {i j : Nat} {wd : W} {c : Option W} : ∀ (n : Nat) (gs : List Int) (hp : IH), gs.length < n → getL hp j = some (gs.map wI) →
  ∃ gs' : List Int, gs'.length ≤ gs.length ∧ whileL popT ze4 n [some (.r i), some wd, some (.r j), c] hp = .ok (.nx [some (.r i), some wd, some (.r j), c]) (hp.set j (some (.lst (gs'.map wI)))) := by
 intro n
 induction n with
 | zero => intro gs hp h; omega
 | succ n ih =>
  intro gs hp h hg
  have hj := getL_lt hg
  rcases List.eq_nil_or_concat gs with e | ⟨ys, y, e⟩
  ·subst e
   refine ⟨[], Nat.le_refl _, ?_⟩
   unfold whileL
   simp [ne_nil hg]
   exact (set_same (zc5 hg)).symm
  ·rw [List.concat_eq_append] at e
   subst e
   have hg' : getL hp j = some (ys.map wI ++ [wI y]) := by rw [hg]; simp
   by_cases hy : y = 0
   ·obtain ⟨gs', l, q⟩ := ih ys (hp.set j (some (.lst (ys.map wI)))) (by simp at h; omega) (zeq hj)
    refine ⟨gs', by simp; omega, ?_⟩
    unfold whileL
    simp only [p_and, zci, p_bin, p_var, p_app, p_nil, List.getElem?_cons_succ, List.getElem?_cons_zero, zao, lstOf_e, allT_n]
    simp [ne_nil hg, hg', atI_end, ze4, hy]
    unfold ze4 at q
    simpa using q
   ·refine ⟨ys ++ [y], Nat.le_refl _, ?_⟩
    unfold whileL
    simp [ne_nil hg, hg', atI_end, hy, set_same (zc5 hg')]
theorem gs_ne : ¬ Str.ofString "great" = Str.ofString "stirred" := by decide
theorem valG {a b : W} : valW [(.inr Yes, a), (.inr Yde, b)] (.inr Yes) = some a := by simp [valW]
theorem valS {a b : W} : valW [(.inr Yes, a), (.inr Yde, b)] (.inr Yde) = some b := by simp [valW, List.find?_cons, gs_ne]
theorem putS {a b c : W} : putW [(.inr Yes, a), (.inr Yde, b)] (.inr Yde) c = [(.inr Yes, a), (.inr Yde, c)] := by simp [putW, gs_ne]
theorem draw_ok {i j : Nat} {gs : List Int} {st : Int} {hp : IH} {wide : Int} (d : DealAt i j gs st hp) (hw : 0 < wide) (hw2 : wide < 2 ^ 64) :
  ∃ (n : Int) (hp' : IH) (gs' : List Int) (st' : Int), zdr [.r i, .t (.int wide)] hp = .ok (.t (.int n)) hp' ∧ 0 ≤ n ∧ n < wide ∧ DealAt i j gs' st' hp' ∧ hp'.length = hp.length ∧ ∀ k, k ≠ i → k ≠ j → hp'[k]? = hp[k]? := by
 obtain ⟨hd, hg, hl, lo, hi⟩ := d
 have hne : i ≠ j := DealAt.ne ⟨hd, hg, hl, lo, hi⟩
 have hj := getL_lt hg
 have hi' := getD_lt hd
 obtain ⟨g2, l2, q2⟩ := pop_loop (i := i) (j := j) (wd := .t (.int wide)) (c := none) 4096 gs hp Yf hg
 have hg2 : getL (hp.set j (some (.lst (g2.map wI)))) j = some (g2.map wI) := zeq hj
 have hmod : ∀ x : Int, 0 ≤ x % wide ∧ x % wide < wide := fun x => ⟨Int.emod_nonneg _ Yf, Int.emod_lt_of_pos _ hw⟩
 rcases List.eq_nil_or_concat g2 with e | ⟨ys, y, e⟩
 ·subst e
  have hd2 : getD (hp.set j (some (.lst (List.map wI [])))) i = some [(.inr "great", .r j), (.inr "stirred", .t (.int st))] := by rw [getD_ne hne.symm]; exact hd
  refine ⟨((st * 48271 + 19) % 2147483647 / 16) % wide, (hp.set j (some Yho)).set i (some (.dic [(.inr "great", .r j), (.inr "stirred", .t (.int ((st * 48271 + 19) % 2147483647)))])), [], (st * 48271 + 19) % 2147483647, ?_, (hmod _).1, (hmod _).2, ⟨?_, ?_, ?_, ?_, ?_⟩, ?_, ?_⟩
  ·have he : eqW true (.r j) (.t Yho) (hp.set j (some Yho)) = .ok (.t Yo) (hp.set j (some Yho)) := by simpa using ne_nil (gs := []) (by simpa using hg2)
   have c1 : cMul st 48271 = true := cMul_ok Yf Yf
   have c2 : ∀ x, cMod x 2147483647 = true := fun x => cMod_ok Yf
   have c3 : ∀ x, cDiv x 16 = true := fun x => cDiv_ok Yf Yf
   simp only [List.map_nil] at hd2 q2
   have hi2 : i < (hp.set j (some Yho)).length := by simpa using hi'
   simp only [zdr, fnM, B_w_draw]
   simp [hd, valG, q2, he, hd2, valS, c1, c2, putS, getD_set hi2, c3, cMod_ok hw]
  ·rw [getD_set (by simpa using hi')]
  ·rw [getL_ne hne, zeq (by simpa using hj)]; rfl
  ·simp
  ·exact Int.emod_nonneg _ Yf
  ·exact Int.emod_lt_of_pos _ Yf
  ·simp
  ·intro k h1 h2
   rw [List.getElem?_set_ne (Ne.symm h1), List.getElem?_set_ne (Ne.symm h2)]
 ·rw [List.concat_eq_append] at e
  subst e
  have hne2 := ne_nil hg2
  have hg3 : getL (hp.set j (some (.lst ((ys ++ [y]).map wI)))) j = some (ys.map wI ++ [wI y]) := by rw [hg2]; simp
  refine ⟨y % wide, hp.set j (some (.lst ((ys ++ [y / wide]).map wI))), ys ++ [y / wide], st, ?_, (hmod _).1, (hmod _).2, ⟨?_, ?_, ?_, lo, hi⟩, ?_, ?_⟩
  ·have hl2 : ys.length < 16777216 := by simp at l2; omega
   simp only [List.map_append, List.map_cons, List.map_nil] at hne2 q2 hg3
   simp only [zdr, fnM, B_w_draw]
   simp [hd, valG, q2, hne2, hg3, zeq, hj, hl2, cDiv_ok hw hw2, cMod_ok hw]
  ·rw [getD_ne hne.symm]; exact hd
  ·rw [zeq hj]
  ·simp at l2 ⊢; omega
  ·simp
  ·intro k h1 h2
   rw [List.getElem?_set_ne (Ne.symm h2)]
theorem DealAt.ltA {i j : Nat} {gs : List Int} {st : Int} {hp : IH} (h : DealAt i j gs st hp) : i < hp.length ∧ j < hp.length := ⟨getD_lt h.d, getL_lt h.g⟩
theorem DealAt.keepA {i j : Nat} {gs : List Int} {st : Int} {hp hp' : IH} (h : DealAt i j gs st hp) (h1 : hp'[i]? = hp[i]?) (h2 : hp'[j]? = hp[j]?) : DealAt i j gs st hp' := by
 obtain ⟨a, b, c, e, f⟩ := h
 exact ⟨by unfold getD at a ⊢; rw [h1]; exact a, by unfold getL at b ⊢; rw [h2]; exact b, c, e, f⟩
/-- the draws lie at i and j -/
def Deal (i j : Nat) (hp : IH) : Prop := ∃ gs st, DealAt i j gs st hp
theorem Deal.ne {i j : Nat} {hp : IH} (d : Deal i j hp) : i ≠ j := let ⟨_, _, h⟩ := d; h.ne
theorem Deal.lt {i j : Nat} {hp : IH} (d : Deal i j hp) : i < hp.length ∧ j < hp.length := let ⟨_, _, h⟩ := d; h.ltA
/-- cells besides the draws' stay -/
def Ext (i j : Nat) (hp hp' : IH) : Prop := hp.length ≤ hp'.length ∧ ∀ k, k < hp.length → k ≠ i → k ≠ j → hp'[k]? = hp[k]?
theorem Ext.refl {i j : Nat} {hp : IH} : Ext i j hp hp := ⟨Nat.le_refl _, fun _ _ _ _ => rfl⟩
theorem Ext.trans {i j : Nat} {a b c : IH} (h : Ext i j a b) (g : Ext i j b c) : Ext i j a c :=
 ⟨Nat.le_trans h.1 g.1, fun k hk h1 h2 => (g.2 k (Nat.lt_of_lt_of_le hk h.1) h1 h2).trans (h.2 k hk h1 h2)⟩
theorem Deal.keep {i j : Nat} {hp hp' : IH} (d : Deal i j hp) (h1 : hp'[i]? = hp[i]?) (h2 : hp'[j]? = hp[j]?) : Deal i j hp' := by
 obtain ⟨gs, st, h⟩ := d
 exact ⟨gs, st, h.keepA h1 h2⟩
theorem draw_is {i j : Nat} {hp : IH} {wide : Int} (d : Deal i j hp) (hw : 0 < wide) (hw2 : wide < 2 ^ 64) :
  ∃ (n : Int) (hp' : IH), zdr [.r i, .t (.int wide)] hp = .ok (.t (.int n)) hp' ∧ 0 ≤ n ∧ n < wide ∧ Deal i j hp' ∧ hp'.length = hp.length ∧ ∀ k, k ≠ i → k ≠ j → hp'[k]? = hp[k]? := by
 obtain ⟨gs, st, h⟩ := d
 obtain ⟨n, hp', gs', st', h1, h2, h3, h4, h5, h6⟩ := draw_ok h hw hw2
 exact ⟨n, hp', h1, h2, h3, ⟨gs', st', h4⟩, h5, h6⟩
theorem pick_is {i j : Nat} {hp : IH} {ts : List T} (d : Deal i j hp) (h0 : 0 < ts.length) (h1 : ts.length < 2 ^ 60) :
  ∃ (t : T) (hp' : IH), t ∈ ts ∧ F_w_pick [.r i, .t (.lst ts)] hp = .ok (.t t) hp' ∧ Deal i j hp' ∧ Ext i j hp hp' := by
 obtain ⟨n, hp', e, n0, n1, d', l, k⟩ := draw_is (wide := ts.length) d Yf Yf
 have hn : n.toNat < ts.length := by omega
 refine ⟨ts[n.toNat], hp', List.getElem_mem _, ?_, d', ⟨by omega, fun q _ h2 h3 => k q h2 h3⟩⟩
 have ha : atI Yw n = some (.t ts[n.toNat]) := by
  rw [atI_nn n0 (by simpa using n1)]
  simp [hn]
 simp [F_w_pick, fnM, B_w_pick, e, ha]
theorem stir_loop {w0 w1 w2 : W} : ∀ (cs : List Int) (k : Nat) (st : Int) (o4 o5 : Option W) (hp : IH), cs.length + k ≤ 64 → 0 ≤ st → st < 2147483647 →
  ∃ (st' : Int) (o4' o5' : Option W), 0 ≤ st' ∧ st' < 2147483647 ∧ forL Yb9 zf9 (zga k (cs.map T.int)) [some w0, some w1, some w2, some (.t (.int st)), o4, o5] hp = .ok (.nx [some w0, some w1, some w2, some (.t (.int st')), o4', o5']) hp
 | [], _, st, o4, o5, hp, _, h0, h1 => ⟨st, o4, o5, h0, h1, rfl⟩
 | c :: cs, k, st, o4, o5, hp, hk, h0, h1 => by
  have c1 : cMul (st + k + 2) 48271 = true := cMul_ok (by simp only [List.length_cons] at hk; omega) Yf
  have c2 : ∀ x, cMod x 2147483647 = true := fun x => cMod_ok Yf
  have c3 : ∀ x, cMod x 2147483587 = true := fun x => cMod_ok Yf
  obtain ⟨st', o4', o5', a, b, q⟩ := stir_loop (w0 := w0) (w1 := w1) (w2 := w2) cs (k + 1) (((st + k + 2) * 48271 + c % 2147483587) % 2147483647) (some (.t (.int k))) (some (.t (.int c))) hp (by simp only [List.length_cons] at hk; omega) (Int.emod_nonneg _ Yf) (Int.emod_lt_of_pos _ Yf)
  refine ⟨st', o4', o5', a, b, ?_⟩
  rw [← q]
  simp [zga, forL, zf9, c1, c2, c3]
theorem deal_is {ns : List Int} {hp : IH} (hn : ns.length ≤ 63) : ∃ (hp' : IH), F_w_deal [.t Ykm, .t (.int 0)] hp = .ok Ydp hp' ∧ Deal hp.length (hp.length + 1) hp' ∧ hp'.length = hp.length + 2 ∧ ∀ k, k < hp.length → hp'[k]? = hp[k]? := by
 let cs : List Int := (cutL ns (some 0) (some 64)).map fun c => if c < 0 then -c else c
 have lc : cs.length ≤ 63 := by
  have := cutL_len ns (some 0) (some 64)
  simp only [cs, List.length_map]
  omega
 obtain ⟨st, o4, o5, a, b, q⟩ := stir_loop (w0 := .t Ykm) (w1 := .t (.int 0)) (w2 := .t (.lst (cs.map T.int))) cs 0 51749 none none hp Yf Yf Yf
 let f : T → T := fun t => match t with | .int c => .int (if c < 0 then -c else c) | t => t
 let p : T → Bool := fun t => match t with | .int c => decide ((10 : Int) ^ 18 ≤ c) | _ => false
 let g : Int → Bool := fun c => decide ((10 : Int) ^ 18 ≤ c)
 have ef : (cutL Ybx (some 0) (some 64)).map f = cs.map T.int := by
  rw [cutL_map, List.map_map]
  simp only [cs, List.map_map]
  rfl
 have hc : zb3 (gN 5) mYes zew (zbp [some (.t Ykm), some Ycn, none, none, none, none] [5]) ((cutL Ybx (some 0) (some 64)).map W.t) hp = .ok ((cs.map T.int).map W.t) hp := by
  rw [← ef]
  refine comp_map fun t ht => ?_
  rw [cutL_map, List.mem_map] at ht
  obtain ⟨c, _, e⟩ := ht
  subst e
  simp [zew, zbp, f]
 have hfl : (cs.map T.int).filter p = (cs.filter g).map T.int := by
  rw [List.filter_map]
  rfl
 let h1 : IH := hp ++ [some (.dic [])]
 have hc2 : zb3 (gN 5) zgo zgp (zbp [some (.t Ykm), some Ycn, some (.t (.lst (cs.map T.int))), some (.t (.int st)), o4, o5] [5]) ((cs.map T.int).map W.t) h1 = .ok (((cs.filter g).map T.int).map W.t) h1 := by
  have e : (((cs.map T.int).filter p).map (fun t => t)).map W.t = ((cs.filter g).map T.int).map W.t := by rw [hfl, List.map_id']
  rw [← e]
  refine comp_filter (fun t ht => ?_) fun t ht _ => ?_
  ·rw [List.mem_map] at ht
   obtain ⟨c, _, e⟩ := ht
   subst e
   simp [zgo, zbp, p, cPow]
  ·simp [zgp, zbp]
 have l1 : h1.length = hp.length + 1 := by simp [h1]
 have lz : (cs.filter g).length ≤ 63 := Nat.le_trans (List.length_filter_le _ _) lc
 let h2 : IH := h1 ++ [some (.lst (((cs.filter g).map T.int).map W.t).reverse)]
 have gd : getD h2 hp.length = some [] := by rw [getD_app Yf]; simp [getD, h1]
 let dd : List Yfg := [(.inr Yes, .r h1.length), (.inr Yde, .t (.int st))]
 have mg : zf0 [] dd = dd := by simp [zf0, dd, putW, gs_ne]
 refine ⟨h2.set hp.length (some (.dic dd)), ?_, ⟨(cs.filter g).reverse, st, ?_, ?_, by simpa using lz, a, b⟩, by simp [h2, h1], fun k hk => ?_⟩
 ·have k1 : (cutL Ybx (some 0) (some 64)).length ≤ 16777216 := by
   have := cutL_len Ybx (some 0) (some 64)
   rw [List.length_map] at this
   omega
  have k2 : cs.length ≤ 16777216 := by omega
  have k3 : (cs.filter g).length ≤ 16777216 := by omega
  have e1 : hp ++ [some (Cell.dic [])] = h1 := rfl
  have e2 : h1 ++ [some (Cell.lst (((cs.filter g).map T.int).map W.t).reverse)] = h2 := rfl
  simp only [F_w_deal, fnM, B_w_deal]
  have e6 : oRevL (.t (.lst ((cs.filter g).map T.int))) h1 = .ok (.r h1.length) h2 := rfl
  have mg2 : zf0 [] [(.inr Yes, .r h1.length), (.inr Yde, .t (.int st))] = dd := mg
  have cm : cMul 13 0 = true := by decide
  simp [-List.map_map, slW, hc, k1, k2, k3, q, cm, mVals, e1, hc2, e2, gd, e6, mg2]
 ·rw [getD_set (by simp [h2, h1])]
  simp [dd, l1]
 ·rw [getL_ne Yf]
  have : hp.length + 1 = h1.length := by simp [h1]
  rw [this]
  simp [h2, wI, Function.comp_def]
 ·rw [List.getElem?_set_ne Yf]
  simp only [h2, h1]
  rw [List.append_assoc, List.getElem?_append_left hk]
theorem zej {n nn : Nat} {B : M Fl} {ws : List W} {y : T} {h0 hp : IH} (h : fnP n nn B ws [] = .ok (.t y) h0) : fnP n nn B ws hp = .ok (.t y) hp := by
 unfold fnP at h ⊢
 split at h
 ·rename_i c
  rw [if_pos c]
  split at h
  ·cases h
   rfl
  ·cases h
   rfl
  ·cases h
 ·cases h
mutual
def sameT : T → T → Bool
 | .non, y => (match y with | .non => true | _ => false)
 | .int i, y => (match y with | .int j => decide (i = j) | _ => false)
 | .str x, y => (match y with | .str z => decide (x = z) | _ => false)
 | .tup xs, y => (match y with | .tup ys => sameL xs ys | _ => false)
 | .lst xs, y => (match y with | .lst ys => sameL xs ys | _ => false)
 | .ins c fs vs, y => (match y with | .ins c' fs' vs' => decide (c = c') && (decide (fs = fs') && sameL vs vs') | _ => false)
 | .bl i, y => (match y with | .bl j => decide (i = j) | _ => false)
 | .scr _, _ => false | .pr _, _ => false | .ty _, _ => false | .dic _ _, _ => false | .cls _, _ => false | .dit _ _, _ => false | .exc _ _ _, _ => false
def sameL : List T → List T → Bool
 | [], ys => (match ys with | [] => true | _ :: _ => false)
 | x :: xs, ys => (match ys with | [] => false | y :: ys => sameT x y && sameL xs ys)
end
mutual
theorem same_eq : ∀ (x y : T), sameT x y = true → x = y
 | .non, y, h => by cases y <;> simp [sameT] at h ⊢
 | .int i, y, h => by cases y <;> simp [sameT] at h ⊢; exact h
 | .str x, y, h => by cases y <;> simp [sameT] at h ⊢; exact h
 | .tup xs, y, h => by cases y <;> simp [sameT] at h ⊢; exact sameL_eq _ _ h
 | .lst xs, y, h => by cases y <;> simp [sameT] at h ⊢; exact sameL_eq _ _ h
 | .ins c fs vs, y, h => by cases y <;> simp [sameT] at h ⊢; exact ⟨h.1, h.2.1, sameL_eq _ _ h.2.2⟩
 | .bl i, y, h => by cases y <;> simp [sameT] at h ⊢; exact h
 | .scr _, y, h => by simp [sameT] at h
 | .pr _, y, h => by simp [sameT] at h
 | .ty _, y, h => by simp [sameT] at h
 | .dic _ _, y, h => by simp [sameT] at h
 | .cls _, y, h => by simp [sameT] at h
 | .dit _ _, y, h => by simp [sameT] at h
 | .exc _ _ _, y, h => by simp [sameT] at h
theorem sameL_eq : ∀ (xs ys : List T), sameL xs ys = true → xs = ys
 | [], ys, h => by cases ys <;> simp [sameL] at h ⊢
 | x :: xs, ys, h => by
  cases ys with
  | nil => simp [sameL] at h
  | cons y ys =>
   simp only [sameL, Bool.and_eq_true] at h
   rw [same_eq _ _ h.1, sameL_eq _ _ h.2]
end
def isT (r : Res W) (t : T) : Bool := match r with
 | .ok (.t y) _ => sameT y t
 | _ => false
theorem isT_ok {r : Res W} {t : T} (h : isT r t = true) : ∃ h', r = .ok (.t t) h' := by
 unfold isT at h
 split at h
 ·rename_i y h'
  exact ⟨h', by rw [same_eq _ _ h]⟩
 ·cases h
/-- a comprehension whose turns leave the heap -/
theorem comp_g {A : Type} {G : W → IS → Option IS} {U : M Bool} {E : M W} {eta : IS} {hp : IH} {src : A → W} {loc : A → IS} {p : A → Bool} {g : A → T} : ∀ (as : List A), (∀ a ∈ as, G (src a) eta = some (loc a)) → (∀ a ∈ as, U (loc a) hp = .ok (p a) hp) → (∀ a ∈ as, p a = true → E (loc a) hp = .ok (.t (g a)) hp) →
  zb3 G U E eta (as.map src) hp = .ok (((as.filter p).map g).map W.t) hp
 | [], _, _, _ => rfl
 | a :: as, h1, h2, h3 => by
  have ih := comp_g (G := G) (U := U) (E := E) (eta := eta) (hp := hp) (src := src) (loc := loc) (p := p) (g := g) as (fun b hb => h1 b Yja) (fun b hb => h2 b Yja) fun b hb => h3 b Yja
  have e1 := h1 a Yv
  have e2 := h2 a Yv
  have e3 := h3 a Yv
  simp only [List.map_cons, zb3, turnL, e1, e2, zao]
  by_cases c : p a = true
  ·rw [c, List.filter_cons_of_pos c]
   simp only [if_true, e3 c, zao, zc7, ih, List.map_cons]
  ·have c' : p a = false := by simpa using c
   rw [c', List.filter_cons_of_neg c]
   simp only [Bool.false_eq_true, if_false, zao, zc7, ih]
theorem zc1 {A : Type} (l : List A) : l.filter (fun _ => true) = l := List.filter_eq_self.mpr fun _ _ => rfl
theorem lst_ok {ts : List T} {hp : IH} (h : ts.length ≤ 16777216) : zay Yw hp = .ok Yas hp := by
 unfold zay
 rw [zd3]
 simp only [h, if_true]
section
open TL
theorem str_eq {x y : Str} (h : tl x = tl y) : x = y := by rw [← mk_tl x, ← mk_tl y, h]
theorem za3 (x y : Str) : (x ++ y).length = x.length + y.length := by rw [len_tl, len_tl, len_tl, tl_append, List.length_append]
theorem zcl (s x y : Str) (r : List Str) : Txt.join s (x :: y :: r) = x ++ s ++ Txt.join s (y :: r) := by rw [join_eq, join_eq]; rfl
theorem zdu (s x : Str) : Txt.join s [x] = x := by rw [join_eq]; rfl
theorem join_nil (s : Str) : Txt.join s [] = "" := by rw [join_eq]; rfl
theorem sm_ok {f : OpM} {Fo Fe : M W} {eta : IS} {hp h1 h2 : IH} {a : Str} {u : W} {r : Res W} (h : Fo eta hp = .ok Yee h1) (g : Fe eta h1 = .ok u h2) (q : f Yee [u] h2 = r) : mSM f Fo Fe eta hp = r := by
 unfold mSM
 rw [h, zao]
 show (Fe eta h1).bind _ = _
 rw [g, zao]
 exact q
theorem zeo {a b : Str} {ls : List Str} {hp : IH} (e : Txt.split a b = ls) (hb : (b.length == 0) = false) (ha : a.length + 2 ≤ 16777216) : zcp Yee [.t (.str b)] hp = .ok (.t (.lst (ls.map T.str))) hp := by
 unfold zcp
 simp only
 rw [if_pos ⟨hb, ha⟩, e]
/-- a name: small letters, at most four -/
structure Nam (x : Str) : Prop where
 is : ∀ hp, zb0 [.t (.str x)] hp = .ok (.t Yae) hp
 fr : ∀ c ∈ tl x, 97 ≤ c ∧ c ≤ 122
 ln : x.length ≤ 4
 ne : x ≠ "if"
def namB (x : Str) : Bool := isT (zb0 [.t (.str x)] []) Yae && ((tl x).all (fun c => decide (97 ≤ c) && decide (c ≤ 122)) && (decide (x.length ≤ 4) && !decide (x = "if")))
theorem nam_ok {x : Str} (h : namB x = true) : Nam x := by
 unfold namB at h
 simp only [Bool.and_eq_true, List.all_eq_true, decide_eq_true_eq, Bool.not_eq_true', decide_eq_false_iff_not] at h
 obtain ⟨h1, h2, h3, h4⟩ := h
 obtain ⟨_, e⟩ := isT_ok h1
 exact ⟨fun hp => zej e, h2, h3, h4⟩
theorem Nam.no {x : Str} (n : Nam x) {c : Nat} (h : c < 97) : c ∉ tl x := fun m => by have := n.fr c m; omega
/-- a step: a word, a name -/
abbrev Deed := Str × Str
def dTx (d : Deed) : Str := d.1 ++ " " ++ d.2
def dTr (d : Deed) : T := .tup [.str d.1, .str d.2]
/-- words without signs that part texts -/
structure Wrd (w : Str) : Prop where
 fr : ∀ c ∈ tl w, 97 ≤ c ∧ c ≤ 122
 ln : w.length ≤ 10
def wrdB (w : Str) : Bool := (tl w).all (fun c => decide (97 ≤ c) && decide (c ≤ 122)) && decide (w.length ≤ 10)
theorem wrd_ok {w : Str} (h : wrdB w = true) : Wrd w := by
 unfold wrdB at h
 simp only [Bool.and_eq_true, List.all_eq_true, decide_eq_true_eq] at h
 exact ⟨h.1, h.2⟩
theorem Wrd.no {w : Str} (n : Wrd w) {c : Nat} (h : c < 97) : c ∉ tl w := fun m => by have := n.fr c m; omega
theorem tl_sp : tl (" " : Str) = [32] := by decide +kernel
theorem split_sp {w x : Str} (hw : 32 ∉ tl w) (hx : 32 ∉ tl x) : Txt.split (w ++ " " ++ x) " " = [w, x] := by
 have h : w ++ " " ++ x = Txt.join " " [w, x] := by rw [join_eq]; rfl
 rw [h]
 exact split_join (s := 32) (S := []) tl_sp Yg Yaw fun p hp => by
  simp only [List.mem_cons, List.not_mem_nil, or_false] at hp
  rcases hp with rfl | rfl
  ·exact hw
  ·exact hx
theorem sp_len : (" " : Str).length = 1 := by decide +kernel
theorem dTx_len {d : Deed} (w : Wrd d.1) (n : Nam d.2) : (dTx d).length ≤ 15 := by
 unfold dTx
 rw [za3, za3, sp_len]
 have := w.ln
 have := n.ln
 omega
theorem in_strs {neg : Bool} {x : Str} {l : List Str} {hp : IH} : inW neg (.t (.str x)) (.t (.tup (l.map T.str))) hp = .ok Ykt hp := by
 have f : fitL (l.map T.str) 60 = true := fitL_strs
 simp only [inW, asT_t, items_t, Option.bind_some, zd3, fit_s, f, and_self, if_true, any_str]
theorem deed_is {d : Deed} {ws : List Str} {hp : IH} (hw : d.1 ∈ ws) (w : Wrd d.1) (n : Nam d.2) :
  F_deed_in [.t Yj6, .t Yje] hp = .ok (.t (dTr d)) hp := by
 refine zch (ts := [.str (dTx d), .tup (ws.map T.str)]) (eta := [some (.t Yj6), some (.t Yje), none]) rfl rfl (h1 := []) ?_
 have sp : mSM zcp (mVar 0) Yjb [some (.t Yj6), some (.t Yje), none] [] = .ok (.t (.lst [.str d.1, .str d.2])) [] :=
  sm_ok rfl rfl (zeo (split_sp (w.no Yf) (n.no Yf)) Yg (by have := dTx_len w n; unfold dTx at this; omega))
 have nw : ∀ h : IH, inW true (.t (.str d.1)) (.t Yje) h = .ok (.t Yo) h := fun h => by
  rw [in_strs]
  simp [hw]
 have nn := n.is
 unfold B_deed_in
 refine za0 (e1 := [some (.t Yj6), some (.t Yje), none]) (h1 := []) rfl ?_
 refine za0 (zfj sp) ?_
 simp only [List.set_cons_succ, List.set_cons_zero]
 unfold dTr
 simp_arith [nw, nn, Int.cast_ofNat_Int]
theorem onceK_nd : ∀ (ks acc : List Key), (acc ++ ks).Nodup → ks.foldl addK acc = acc ++ ks
 | [], acc, _ => by simp
 | k :: ks, acc, h => by
  have hm : memK k acc = false := by
   simp only [memK, List.any_eq_false, decide_eq_true_eq]
   intro j hj e
   subst e
   exact (List.nodup_append.mp h).2.2 _ hj _ Yv rfl
  have e : addK acc k = acc ++ [k] := by simp [addK, hm]
  rw [List.foldl_cons, e, onceK_nd ks (acc ++ [k]) (by simpa using h), List.append_assoc]
  rfl
theorem keysOf_strs : ∀ l : List Str, keysOf ((l.map T.str).map W.t) = some (l.map Sum.inr)
 | [] => rfl
 | x :: l => by
  simp only [List.map_cons, keysOf, keysOf_strs l, Option.map_some]
theorem lenset_nd {F : M W} {eta : IS} {hp h1 : IH} {l : List Str} (h : F eta hp = .ok (.t (.lst (l.map T.str))) h1) (nd : l.Nodup) (hl : l.length ≤ 4000) : mLenSet F eta hp = .ok (.t (.int (l.length : Nat))) h1 := by
 unfold mLenSet
 rw [h, zao, litems_l, Option.bind_some, keysOf_strs]
 have nd2 : (l.map (Sum.inr : Str → Key)).Nodup := List.Pairwise.map _ (fun a b h e => h (Sum.inr.inj e)) nd
 have e : ze5 (l.map (Sum.inr : Str → Key)) = l.map Sum.inr := by
  unfold ze5
  rw [onceK_nd _ [] (by simpa using nd2), List.nil_append]
 simp only [e, List.length_map, hl, if_true]
end
section
open TL
structure DOk (ws : List Str) (d : Deed) : Prop where
 m : d.1 ∈ ws
 w : Wrd d.1
 n : Nam d.2
theorem seq_isq {b : Bool} {ts : List T} {hp : IH} : zav [.t (sqT b ts)] hp = .ok (.t Yae) hp := by
 cases b
 ·exact zch (ts := [.lst ts]) (eta := [some Yas]) rfl rfl (h1 := []) rfl
 ·exact zch (ts := [.tup ts]) (eta := [some Yaq]) rfl rfl (h1 := []) rfl
theorem non_in {l : List T} {hp : IH} (f2 : fitL l 60 = true) (h : ∀ t ∈ l, Mir.eqT t .non = false) : inW false Ya0 (.t (.lst l)) hp = .ok (.t Yo) hp := by
 have a : l.any (fun y => Mir.eqT y .non) = false := List.any_eq_false.mpr fun t ht => by simp [h t ht]
 simp only [inW, asT_t, items_l, Option.bind_some, zd3, fit_n, f2, and_self, if_true, a]
 simp
theorem dTr_fit {ds : List Deed} {n : Nat} : fitL (ds.map dTr) (n + 2) = true := by
 induction ds with
 | nil => simp
 | cons d ds ih => simp [dTr, ih]
theorem deeds_is {b : Bool} {w0 : Str} {ws : List Str} {ds : List Deed} {hp : IH} (ok : ∀ d ∈ ds, DOk (w0 :: ws) d) (nd : ((ds.filter fun d => decide (d.1 = w0)).map (·.2)).Nodup) (hl : ds.length ≤ 1000) :
  zer [.t (sqT b Yt), .t (.tup Ylq)] hp = .ok (.t Yp) hp := by
 let v0 : Option W := some (.t (sqT b Yt))
 let v1 : Option W := some (.t (.tup Ylq))
 refine zch (ts := [sqT b Yt, .tup Ylq]) (eta := [v0, v1, none, none, none, none]) rfl rfl (h1 := []) ?_
 unfold B_deeds_in
 refine za0 (e1 := [v0, v1, none, none, none, none]) (h1 := []) ?_ ?_
 ·rw [if_no (h1 := []) (by rw [p_not, zci, zbh (ws := [.t (sqT b Yt)]) rfl seq_isq]; rfl)]
  rfl
 have c1 : zba zay Ybd (gN 4) mYes zdo [4] [v0, v1, none, none, none, none] [] = .ok Yfk [] := by
  have q := comp_g (G := gN 4) (U := mYes) (E := zdo) (eta := [v0, v1, none, none, none, none]) (hp := []) (src := fun d : Deed => W.t Yj6)
   (loc := fun d => [v0, v1, none, none, some (.t Yj6), none]) (p := fun _ => true) (g := dTr) ds Yau Yau
   (fun d hd _ => zbh (ws := [.t Yj6, .t (.tup Ylq)]) rfl (deed_is (ok d hd).m (ok d hd).w (ok d hd).n))
  rw [zc1] at q
  refine zef (ws := (ds.map fun d => T.str (dTx d)).map W.t) (ys := (ds.map dTr).map W.t) (h1 := []) (h2 := []) ?_ Yac ?_ (lst_ok Yac)
  ·rw [p_sq, varP rfl, zao, sqI_sq]
  ·rw [List.map_map]
   exact q
 refine za0 (zfj c1) ?_
 let eta1 : IS := [v0, v1, some Yfk, none, none, none]
 have c2 : zba zay (mSq (mVar 2)) (gN 5) zcy zc2 [5] eta1 [] = .ok (.t (.lst (((ds.filter fun d => decide (d.1 = w0)).map (·.2)).map T.str))) [] := by
  have q := comp_g (G := gN 5) (U := zcy) (E := zc2) (eta := eta1) (hp := []) (src := fun d : Deed => W.t (dTr d))
   (loc := fun d => [v0, v1, some Yfk, none, none, some (.t (dTr d))]) (p := fun d => decide (d.1 = w0)) (g := fun d => .str d.2) ds Yau
   (fun d _ => by
    unfold zcy dTr
    simp_arith [v1]) (fun _ _ _ => by
    unfold zc2 dTr
    simp_arith [])
  have le := List.length_filter_le (fun d : Deed => decide (d.1 = w0)) ds
  refine zef (ws := (ds.map dTr).map W.t) (ys := ((ds.filter fun d => decide (d.1 = w0)).map fun d => T.str d.2).map W.t) (h1 := []) (h2 := []) rfl Yac ?_ ?_
  ·rw [List.map_map]
   exact q
  ·rw [lst_ok Yac, List.map_map]
   rfl
 refine za0 (zfj c2) ?_
 have le := List.length_filter_le (fun d : Deed => decide (d.1 = w0)) ds
 have ni : ∀ h : IH, inW false Ya0 Yfk h = .ok (.t Yo) h := fun h => non_in dTr_fit fun t ht => by
  obtain ⟨d, _, rfl⟩ := List.mem_map.mp ht
  simp [dTr, Mir.eqT]
 generalize hps : (ds.filter fun d => decide (d.1 = w0)).map (·.2) = parts at nd ⊢
 have lp : parts.length ≤ 1000 := by rw [← hps, List.length_map]; omega
 have ls : mLenSet (mVar 3) [v0, v1, some Yfk, some (.t (.lst (parts.map T.str))), none, none] [] = .ok (.t (.int (parts.length : Nat))) [] := lenset_nd rfl nd Yf
 show mRet _ [v0, v1, some Yfk, some (.t (.lst (parts.map T.str))), none, none] [] = _
 simp_arith [ni, ls]
/-- a kind -/
def kndT (n : Str) (ds : List Deed) : T := .ins "Kind" ["name", "steps", "deeds"] [.str n, .tup Yt, .tup (ds.map dTr)]
abbrev wW : List Str := ["write", "bump"]
abbrev wR : List Str := ["read", "look"]
theorem fnX_nx {n nn : Nat} {B : M Fl} {ws : List W} {hp h1 : IH} {e eta : IS} (hl : ws.length = n) (he : ws.map some ++ List.replicate (nn - n) none = eta) (h : B eta hp = .ok (.nx e) h1) : fnX n nn B ws hp = .ok Ya0 h1 := by
 unfold fnX
 rw [if_pos hl, he, h]
theorem fnX_rt {n nn : Nat} {B : M Fl} {ws : List W} {hp h1 : IH} {w : W} {eta : IS} (hl : ws.length = n) (he : ws.map some ++ List.replicate (nn - n) none = eta) (h : B eta hp = .ok (.rt w) h1) : fnX n nn B ws hp = .ok w h1 := by
 unfold fnX
 rw [if_pos hl, he, h]
theorem zdp {cs : List Str} {f c : Str} {Fo Fv : M W} {eta : IS} {hp h1 : IH} {v : W} {i : Nat} {fs : List Yii} (h : Fv eta hp = .ok v h1) (g : Fo eta h1 = .ok (.r i) h1) (q : h1[i]? = some (some (.ins c fs))) (m : c ∈ cs) (l : fs.length < 1000) : zdt cs f Fo Fv eta hp = .ok Yhm (h1.set i (some Ylo)) := by
 unfold zdt
 rw [h, zao, g, zao]
 unfold fldSet
 simp only [q, m, l, and_self, if_true]
theorem set_set {hp : IH} {i : Nat} {a b : Option Cell} : (hp.set i a).set i b = hp.set i b := List.set_set ..
theorem set_at {hp : IH} {i : Nat} {a : Option Cell} (h : i < hp.length) : (hp.set i a)[i]? = some a := by rw [List.getElem?_set_self h]
theorem kind_init {b : Bool} {n : Str} {ds : List Deed} {hp : IH} {i : Nat} (hi : hp[i]? = some (some Yg1)) (hn : Nam n) (ok : ∀ d ∈ ds, DOk wW d) (nd : ((ds.filter fun d => decide (d.1 = ("write" : Str))).map (·.2)).Nodup) (hl : ds.length ≤ 1000) (h0 : 0 < ds.length) :
  ze0 [.r i, .t (.str n), .t (sqT b Yt)] hp = .ok Ya0 (hp.set i (some (.ins "Kind" [("name", .t (.str n)), ("steps", .t (.tup Yt)), ("deeds", .t Yp)]))) := by
 have il : i < hp.length := (List.getElem?_eq_some_iff.mp hi).1
 let v2 : W := .t (sqT b Yt)
 refine fnX_nx (e := [some (.r i), some Ybw, some v2, some (.t Yp)]) (eta := [some (.r i), some Ybw, some v2, none]) rfl rfl ?_
 unfold B_Kind_init
 refine za0 (e1 := [some (.r i), some Ybw, some v2, none]) (h1 := hp) ?_ ?_
 ·rw [if_no (h1 := hp) (by rw [p_not, zci, zbh (ws := [.t (.str n)]) rfl (hn.is _)]; rfl)]
  rfl
 refine za0 (zfj (zbh (ws := [v2, .t (.tup (wW.map T.str))]) rfl (deeds_is ok nd hl))) ?_
 simp only [List.set_cons_succ, List.set_cons_zero]
 refine za0 (e1 := [some (.r i), some Ybw, some v2, some (.t Yp)]) (h1 := hp) ?_ ?_
 ·simp_arith []
  rw [if_neg Yf]
 refine za0 (zdp (c := "Kind") (h1 := hp) (v := .t (.str n)) rfl rfl hi Yct Yct) ?_
 refine za0 (zdp (c := "Kind") (v := .t (.tup Yt)) (zgh rfl oTup_sq) rfl (set_at il) Yct Yb0) ?_
 rw [set_set]
 refine (zdp (c := "Kind") (v := .t Yp) rfl rfl (set_at il) Yct Yb0).trans ?_
 rw [set_set]
 rfl
end
section
open TL
theorem starts_eq (a b : Str) : Txt.startswith a b = (decide (b.length ≤ a.length) && ((tl a).take b.length == tl b)) := by
 unfold Txt.startswith
 rw [StrLaws.subAt_eq, List.drop_zero, Nat.zero_add]
theorem starts_yes (a b : Str) : Txt.startswith (a ++ b) a = true := by
 rw [starts_eq, tl_append, len_tl a, List.take_left, beq_self_eq_true, Bool.and_true]
 exact decide_eq_true (by rw [za3, len_tl, len_tl]; omega)
theorem starts_no {a b : Str} {k : Nat} (hk : k < b.length) (h : (tl a)[k]? ≠ (tl b)[k]?) : Txt.startswith a b = false := by
 rw [starts_eq]
 refine Bool.eq_false_iff.mpr fun e => h ?_
 simp only [Bool.and_eq_true, beq_iff_eq] at e
 rw [← e.2, List.getElem?_take, if_pos hk]
theorem cut_from (p n : Str) : cutS (p ++ n) (some Ykn) none = n := by
 rw [C8.cutS_slice]
 have e := SX.from_app (tl p) (tl n) (i := Ykn) (by rw [len_tl])
 rw [← tl_append] at e
 exact (congrArg (fun z => Txt.slice z _ none) (mk_tl (p ++ n)).symm).trans (e.trans (mk_tl n))
theorem tl_cs : tl (": " : Str) = [58, 32] := by decide +kernel
theorem cs_len : (": " : Str).length = 2 := by decide +kernel
theorem par_is {a b y : Str} {s : Nat} {S : List Nat} {hp : IH} (ey : tl y = s :: S) (h : s ∉ tl a) (hl : (a ++ y ++ b).length ≤ 16777216) : zbd (.t (.str (a ++ y ++ b))) [.t (.str y)] hp = .ok (.t (.pr [.str a, .str y, .str b])) hp := by
 unfold zbd
 simp only
 have ly : (y.length == 0) = false := by rw [len_tl, ey]; rfl
 rw [if_pos ⟨ly, hl⟩, partition_app ey h]
theorem named_yes {p n r : Str} {hp : IH} (h : 58 ∉ tl (p ++ n)) (hl : (p ++ n ++ ": " ++ r).length ≤ 16777216) : zbv [.t (.str (p ++ n ++ ": " ++ r)), .t (.str p)] hp = .ok (.t (.tup [.str n, .str r])) hp := by
 let v0 : Option W := some (.t (.str (p ++ n ++ ": " ++ r)))
 refine zch (ts := [.str (p ++ n ++ ": " ++ r), .str p]) (eta := [v0, some Yej, none, none, none]) rfl rfl (h1 := []) ?_
 unfold B_named_in
 have e1 : mSM zbd (mVar 0) (mC Yki) [v0, some Yej, none, none, none] [] = .ok (.t (.pr [.str (p ++ n), .str ": ", .str r])) [] := sm_ok rfl rfl (par_is tl_cs h hl)
 refine za0 (e1 := [v0, some Yej, some (.t (.str (p ++ n))), some (.t Yki), some (.t (.str r))]) (h1 := []) ?_ ?_
 ·rw [p_asg, e1]
  rfl
 have e2 : mSM zb2 (mVar 2) (mVar 1) [v0, some Yej, some (.t (.str (p ++ n))), some (.t Yki), some (.t (.str r))] [] = .ok (.t Yae) [] := sm_ok rfl rfl (by
  unfold zb2
  simp only
  rw [starts_yes])
 have ln : (p ++ n).length ≤ 16777216 := by rw [za3, za3] at hl; omega
 have lp : p.length ≤ 16777216 := by rw [za3] at ln; omega
 have e3 : mSl (mVar 2) (ze8 Yjc) zca [v0, some Yej, some (.t (.str (p ++ n))), some (.t Yki), some (.t (.str r))] [] = .ok Ybw [] := by
  have ol : oLen [.t (.str p)] [] = .ok (.t (.int Ykn)) [] := by
   show (if p.length ≤ 16777216 then _ else _) = _
   rw [if_pos lp]
  rw [p_sl, varP rfl, zao, p_part, zgh (a := .t (.str p)) rfl ol, zao]
  show slW (.t (.str (p ++ n))) (some Ykn) none [] = _
  simp only [slW]
  rw [if_pos ln, cut_from]
 rw [zfm, if_yes (h1 := []) (by rw [zci, e2]; rfl), p_app, zbb e3 (zbb rfl rfl)]
 rfl
/-- the line does not begin with the word -/
theorem named_no {a r p : Str} {k : Nat} {hp : IH} (h : 58 ∉ tl a) (hl : (a ++ ": " ++ r).length ≤ 16777216) (hk : k < p.length) (hd : (tl a)[k]? ≠ (tl p)[k]?) : zbv [.t (.str (a ++ ": " ++ r)), .t (.str p)] hp = .ok Yh3 hp := by
 let v0 : Option W := some (.t (.str (a ++ ": " ++ r)))
 refine zch (ts := [.str (a ++ ": " ++ r), .str p]) (eta := [v0, some Yej, none, none, none]) rfl rfl (h1 := []) ?_
 unfold B_named_in
 have e1 : mSM zbd (mVar 0) (mC Yki) [v0, some Yej, none, none, none] [] = .ok (.t (.pr [.str a, .str ": ", .str r])) [] := sm_ok rfl rfl (par_is tl_cs h hl)
 refine za0 (e1 := [v0, some Yej, some Yee, some (.t Yki), some (.t (.str r))]) (h1 := []) ?_ ?_
 ·rw [p_asg, e1]
  rfl
 have e2 : mSM zb2 (mVar 2) (mVar 1) [v0, some Yej, some Yee, some (.t Yki), some (.t (.str r))] [] = .ok (.t Yo) [] := sm_ok rfl rfl (by
  unfold zb2
  simp only
  rw [starts_no hk hd])
 rw [zfm, if_no (h1 := []) (by rw [zci, e2]; rfl)]
 rfl
theorem app_at {hp : IH} {x : Option Cell} : (hp ++ [x])[hp.length]? = some x := by simp
theorem app_set {hp : IH} {x y : Option Cell} : (hp ++ [x]).set hp.length y = hp ++ [y] := by simp
theorem makeL_ok {i : Nat} {c : Str} {f : OpN} {Fs : M (List W)} {eta : IS} {hp h1 : IH} {ws : List W} {fs : List Yii} (hc : eta[i]? = some (some (.t (.cls c)))) (h : Fs eta hp = .ok ws h1) (q : f (.r h1.length :: ws) (h1 ++ [some (.ins c [])]) = .ok Ya0 (h1 ++ [some (.ins c fs)])) :
  mMakeL i c f [] Fs eta hp = .ok (.r h1.length) (h1 ++ [some (.ins c fs)]) := by
 unfold mMakeL
 rw [hc]
 simp only [if_true]
 unfold mMakeX
 rw [h, zao, List.map_nil, List.append_nil, q]
 rfl
theorem frz_made {F : M W} {eta : IS} {hp h1 : IH} {c : Str} {fs : List Yii} {ts : List T} (h : F eta hp = .ok (.r h1.length) (h1 ++ [some (.ins c fs)])) (g : ∀ h, frzAll fs h = .ok ts h) : mFrzI F eta hp = .ok (.t (.ins c (fs.map (·.1)) ts)) (h1 ++ [none]) := by
 unfold mFrzI
 rw [h, zao]
 unfold freezeI
 simp only [app_at, g, zao, app_set]
theorem kind_made {b : Bool} {i : Nat} {n : Str} {ds : List Deed} {Fs : M (List W)} {eta : IS} {hp h1 : IH} (hc : eta[i]? = some (some (.t Ybv))) (h : Fs eta hp = .ok [.t (.str n), .t (sqT b Yt)] h1) (hn : Nam n) (ok : ∀ d ∈ ds, DOk wW d) (nd : ((ds.filter fun d => decide (d.1 = ("write" : Str))).map (·.2)).Nodup) (hl : ds.length ≤ 1000) (h0 : 0 < ds.length) :
  mFrzI (mMakeL i "Kind" ze0 [] Fs) eta hp = .ok Ykd (h1 ++ [none]) := by
 have q := kind_init (b := b) (hp := h1 ++ [some Yg1]) (i := h1.length) app_at hn ok nd hl h0
 rw [app_set] at q
 exact frz_made (makeL_ok hc h q) fun _ => rfl
theorem tl_cm : tl (", " : Str) = [44, 32] := by decide +kernel
theorem split_cm {ps : List Str} (h0 : ps ≠ []) (h : ∀ p ∈ ps, 44 ∉ tl p) : Txt.split (Txt.join ", " ps) ", " = ps :=
 split_join (s := 44) (S := [32]) tl_cm Yg h0 h
theorem dTx_no {d : Deed} {c : Nat} (w : Wrd d.1) (n : Nam d.2) (h : c < 97) (h2 : c ≠ 32) : c ∉ tl (dTx d) := by
 unfold dTx
 simp only [tl_append, tl_sp, List.mem_append, List.mem_singleton, w.no h, n.no h, h2, or_self, not_false_eq_true]
theorem cm_len : (", " : Str).length = 2 := by decide +kernel
theorem join_len {s : Str} {k : Nat} : ∀ {ps : List Str}, (∀ p ∈ ps, p.length ≤ k) → (Txt.join s ps).length ≤ ps.length * (k + s.length)
 | [], _ => by rw [join_nil]; exact Nat.zero_le _
 | [p], h => by
  have := h p Yv
  rw [zdu, List.length_singleton]
  omega
 | p :: q :: r, h => by
  have h1 := h p Yv
  have h2 := join_len (s := s) (k := k) (ps := q :: r) fun x hx => h x Yat
  rw [zcl, za3, za3, List.length_cons, Nat.succ_mul]
  omega
def zbm (ds : List Deed) : Str := Txt.join ", " (ds.map dTx)
theorem zfw {ds : List Deed} {ws : List Str} (ok : ∀ d ∈ ds, DOk ws d) : (zbm ds).length ≤ ds.length * 17 := by
 have := join_len (s := ", ") (k := 15) (ps := ds.map dTx) fun p hp => by
  obtain ⟨d, hd, rfl⟩ := List.mem_map.mp hp
  exact dTx_len (ok d hd).w (ok d hd).n
 rw [List.length_map, cm_len] at this
 exact this
theorem split_steps {ds : List Deed} {ws : List Str} (ok : ∀ d ∈ ds, DOk ws d) (h0 : 0 < ds.length) : Txt.split (zbm ds) ", " = ds.map dTx :=
 split_cm (by intro e; rw [List.map_eq_nil_iff] at e; rw [e] at h0; exact absurd h0 Yct) fun p hp => by
  obtain ⟨d, hd, rfl⟩ := List.mem_map.mp hp
  exact dTx_no (ok d hd).w (ok d hd).n Yf Yf
def zgi (n : Str) (ds : List Deed) : Str := "kind " ++ n ++ ": " ++ zbm ds
structure KOk (n : Str) (ds : List Deed) : Prop where
 n : Nam n
 ok : ∀ d ∈ ds, DOk wW d
 nd : ((ds.filter fun d => decide (d.1 = ("write" : Str))).map (·.2)).Nodup
 hl : ds.length ≤ 1000
 h0 : 0 < ds.length
theorem kd_tl : tl ("kind " : Str) = [107, 105, 110, 100, 32] := by decide +kernel
theorem kd_len : ("kind " : Str).length = 5 := by decide +kernel
theorem kndTx_len {n : Str} {ds : List Deed} (h : KOk n ds) : (zgi n ds).length ≤ 20000 := by
 unfold zgi
 rw [za3, za3, za3, kd_len, cs_len]
 have := zfw h.ok
 have := h.n.ln
 have := h.hl
 omega
theorem kind_read {n : Str} {ds : List Deed} {hp : IH} (h : KOk n ds) : zce [.t Ybv, .t Yex] hp = .ok Ykd (hp ++ [none]) := by
 let v1 : Option W := some (.t Yex)
 refine fnX_rt (eta := [some (.t Ybv), v1, none, none, none]) rfl rfl ?_
 unfold ze1
 have ne : zbv [.t Yex, .t (.str "kind ")] hp = .ok (.t (.tup [.str n, .str (zbm ds)])) hp := named_yes (by
  rw [tl_append, kd_tl, List.mem_append]
  simp [h.n.no (c := 58) Yf]) (by
  have := kndTx_len h
  unfold zgi at this
  omega)
 refine za0 (e1 := [some (.t Ybv), v1, some Ybw, some Yel, none]) (h1 := hp) ?_ ?_
 ·rw [p_asg, zbh (ws := [.t Yex, .t (.str "kind ")]) rfl ne]
  rfl
 have a : (zac (mVar 2) (zac (mSM zcp (mVar 3) (mC (.str ", "))) (mNil)) : M (List W)) [some (.t Ybv), v1, some Ybw, some Yel, none] hp = .ok [.t (.str n), .t (sqT false Yt)] hp := by
  refine zbb rfl (zbb (sm_ok rfl rfl (zeo (split_steps h.ok h.h0) Yg ?_)) rfl) |>.trans ?_
  ·have := zfw h.ok
   have := h.hl
   omega
  ·rw [List.map_map]
   rfl
 have m := kind_made (i := 0) rfl a h.n h.ok h.nd h.hl h.h0
 unfold zel
 have e : zda [some (.t Ybv), v1, some Ybw, some Yel, none] hp = .ok (.rt Ykd) (hp ++ [none]) := by
  unfold zda
  rw [zfm, m]
  rfl
 rw [e]
theorem kind_in_yes {n : Str} {ds : List Deed} {hp : IH} (h : KOk n ds) : zd5 [.t Yex] hp = .ok Ykd hp := by
 refine zch (ts := [.str (zgi n ds)]) (eta := [some (.t Yex)]) rfl rfl (h1 := [none]) ?_
 have e : zdh [some (.t Yex)] [] = .ok (.rt Ykd) [none] := by
  have m : zfx "Kind" zce [] (mC Ybv) Yy [some (.t Yex)] [] = .ok Ykd [none] := by
   show reEr _ (zce [.t Ybv, .t Yex] []) = _
   rw [kind_read h]
   rfl
  unfold zdh
  rw [zfm, m]
  rfl
 unfold B_kind_in mTry
 rw [e]
theorem kind_bad {w1 : Option W} : zel (hitC "InvalidKind") 4 zda zfn [some (.t Ybv), w1, some Y5, some Y5, none] [] = .er ⟨"InvalidText", [Ydi]⟩ [some (.t Ybv), w1, some Y5, some Y5, none] [some Yg1] := rfl
theorem kind_in_no {line : Str} {hp : IH} (h : ∀ hp, zbv [.t Y1, .t (.str "kind ")] hp = .ok Yh3 hp) : zd5 [.t Y1] hp = .ok Ya0 hp := by
 refine zch (ts := [.str line]) (eta := [some (.t Y1)]) rfl rfl (h1 := [some Yg1]) ?_
 have b : ze1 [some (.t Ybv), some (.t Y1), none, none, none] [] = .er ⟨"InvalidText", [Ydi]⟩ [some (.t Ybv), some (.t Y1), some Y5, some Y5, none] [some Yg1] := by
  unfold ze1
  refine za0 (e1 := [some (.t Ybv), some (.t Y1), some Y5, some Y5, none]) (h1 := []) ?_ kind_bad
  rw [p_asg, zbh (ws := [.t Y1, .t (.str "kind ")]) rfl (h [])]
  rfl
 have f : zce [.t Ybv, .t Y1] [] = .er ⟨"InvalidText", [Ydi]⟩ [] [some Yg1] := by
  show (match ze1 [some (.t Ybv), some (.t Y1), none, none, none] [] with | .ok (.rt w) h => Res.ok w h | .ok (.nx _) h => .ok Ya0 h | .er e _ h => .er e [] h | _ => .bad) = _
  rw [b]
 have e : zdh [some (.t Y1)] [] = .er ⟨"InvalidText", [Ydi]⟩ [some (.t Y1)] [some Yg1] := by
  have m : zfx "Kind" zce [] (mC Ybv) Yy [some (.t Y1)] [] = .er ⟨"InvalidText", [Ydi]⟩ [some (.t Y1)] [some Yg1] := by
   show reEr _ (zce [.t Ybv, .t Y1] []) = _
   rw [f]
   rfl
  unfold zdh
  rw [zfm, m]
  rfl
 unfold B_kind_in mTry
 rw [e]
 rfl
theorem reader_bad {w1 : Option W} : mSeq Yg0 Yc7
  [some (.t Yai), w1, some Y5, some Y5, none, none, none, none] [] = .er ⟨"InvalidText", [Ydi]⟩ [some (.t Yai), w1, some Y5, some Y5, some Y5, some Y5, some Y5, none] [some Yfl] := by
 have pt : mSM zbd (mVar 3) (mC (.str " if ")) [some (.t Yai), w1, some Y5, some Y5, none, none, none, none] [] = .ok (.t (.pr [.str "", .str "", .str ""])) [] := sm_ok rfl rfl (by
  have z : Txt.partition ("" : Str) (" if " : Str) = (("" : Str), ("" : Str), ("" : Str)) := partition_none (y := " if ") (a := "") (s := 32) (S := [105, 102, 32]) Yg Yg
  unfold zbd
  simp only
  rw [if_pos ⟨by decide +kernel, by decide +kernel⟩, z])
 refine za0 (e1 := [some (.t Yai), w1, some Y5, some Y5, some Y5, some Y5, some Y5, none]) (h1 := []) ?_ rfl
 rw [p_asg, pt]
 rfl
theorem reader_in_no {line : Str} {hp : IH} (h : ∀ hp, zbv [.t Y1, .t Yie] hp = .ok Yh3 hp) : zcu [.t Y1] hp = .ok Ya0 hp := by
 refine zch (ts := [.str line]) (eta := [some (.t Y1)]) rfl rfl (h1 := [some Yfl]) ?_
 have b : zc0 [some (.t Yai), some (.t Y1), none, none, none, none, none, none] [] = .er ⟨"InvalidText", [Ydi]⟩ [some (.t Yai), some (.t Y1), some Y5, some Y5, some Y5, some Y5, some Y5, none] [some Yfl] := by
  unfold zc0
  refine za0 (e1 := [some (.t Yai), some (.t Y1), some Y5, some Y5, none, none, none, none]) (h1 := []) ?_ reader_bad
  rw [p_asg, zbh (ws := [.t Y1, .t Yie]) rfl (h [])]
  rfl
 have f : zbk [.t Yai, .t Y1] [] = .er ⟨"InvalidText", [Ydi]⟩ [] [some Yfl] := by
  show (match zc0 [some (.t Yai), some (.t Y1), none, none, none, none, none, none] [] with | .ok (.rt w) h => Res.ok w h | .ok (.nx _) h => .ok Ya0 h | .er e _ h => .er e [] h | _ => .bad) = _
  rw [b]
 have e : zcm [some (.t Y1)] [] = .er ⟨"InvalidText", [Ydi]⟩ [some (.t Y1)] [some Yfl] := by
  have m : zfx "Reader" zbk [] (mC Yai) Yy [some (.t Y1)] [] = .er ⟨"InvalidText", [Ydi]⟩ [some (.t Y1)] [some Yfl] := by
   show reEr _ (zbk [.t Yai, .t Y1] []) = _
   rw [f]
   rfl
  unfold zcm
  rw [zfm, m]
  rfl
 unfold B_reader_in mTry
 rw [e]
 rfl
/-- a line that does not begin with the word `round` is no round -/
theorem split_first {w r : Str} (hw : 32 ∉ tl w) : ∃ ls, Txt.split Yk6 " " = w :: ls := by
 have e := SX.split_S (a := tl Yk6) (b := [32]) Yaw Yct
 have e1 : SX.S (tl Yk6) = w ++ " " ++ r := mk_tl _
 have e2 : SX.S [32] = " " := (mk_tl " ").symm.trans (by rw [tl_sp]) |>.symm
 rw [e1, e2, tl_append, tl_append, tl_sp, List.append_assoc] at e
 have p := SX.spl_free (sep := [32]) (tl r) Yaw (SX.free_head (sep := []) hw)
 rw [p, List.map_cons] at e
 exact ⟨_, e.trans (congrArg (· :: _) (mk_tl w))⟩
theorem round_in_no {w r : Str} {hp : IH} (hw : 32 ∉ tl w) (hn : w ≠ "round") (hl : (w ++ " " ++ r).length ≤ 16000000) : zd0 [.t (.str Yk6)] hp = .ok Ya0 hp := by
 obtain ⟨ls, e⟩ := split_first (r := r) hw
 let v0 : Option W := some (.t (.str Yk6))
 refine zch (ts := [.str Yk6]) (eta := [v0, none, none]) rfl rfl (h1 := []) ?_
 have sp : mSM zcp (mVar 0) Yjb [v0, none, none] [] = .ok (.t (.lst ((w :: ls).map T.str))) [] := sm_ok rfl rfl (zeo e Yg Yf)
 unfold B_round_in
 refine za0 (zfj sp) ?_
 simp only [List.set_cons_succ, List.set_cons_zero]
 have d : decide (w = ("round" : Str)) = false := decide_eq_false hn
 by_cases c : ((((w :: ls).map T.str).length : Nat) : Int) = 3
 ·have c' : decide (((((w :: ls).map T.str).length : Nat) : Int) = 3) = true := decide_eq_true c
  simp only [List.map_cons] at c' ⊢
  simp_arith [d]
  simp
 ·simp only [List.map_cons] at c ⊢
  simp_arith [d]
  simp
end
section
open TL
/-- a reader: cs the texts of its checks, ts the checks -/
def rdrG (n : Str) (ds : List Deed) (cs : List Str) (ts : List T) : T := .ins "Reader" ["name", "steps", "checks", "deeds", "tests"] [.str n, .tup Yt, .tup Ye3, .tup (ds.map dTr), .tup ts]
structure ROk (n : Str) (ds : List Deed) : Prop where
 n : Nam n
 ok : ∀ d ∈ ds, DOk wR d
 nd : ((ds.filter fun d => decide (d.1 = ("read" : Str))).map (·.2)).Nodup
 hl : ds.length ≤ 1000
 h0 : ∃ d ∈ ds, d.1 = ("read" : Str)
theorem ROk.ne {n : Str} {ds : List Deed} (h : ROk n ds) : 0 < ds.length := by
 obtain ⟨d, hd, _⟩ := h.h0
 exact List.length_pos_of_mem hd
theorem in_lstrs {neg : Bool} {x : Str} {l : List Str} {hp : IH} : inW neg (.t (.str x)) (.t (.lst (l.map T.str))) hp = .ok Ykt hp := by
 have f : fitL (l.map T.str) 60 = true := fitL_strs
 simp only [inW, asT_t, items_l, Option.bind_some, zd3, fit_s, f, and_self, if_true, any_str]
theorem reader_init {b bc : Bool} {n : Str} {ds : List Deed} {cs : List Str} {ts : List T} {hp : IH} {i : Nat} (hi : hp[i]? = some (some Yfl)) (h : ROk n ds) (ht : ∀ hp, zdg [.t (sqT bc Ye3), .t Yp] hp = .ok Yaq hp) :
  zdm [.r i, .t (.str n), .t (sqT b Yt), .t (sqT bc Ye3)] hp = .ok Ya0 (hp.set i (some (.ins "Reader" [("name", .t (.str n)), ("steps", .t (.tup Yt)), ("checks", .t (.tup Ye3)), ("deeds", .t Yp), ("tests", .t Yjz)]))) := by
 have il : i < hp.length := (List.getElem?_eq_some_iff.mp hi).1
 have hl := h.hl
 let v2 : W := .t (sqT b Yt)
 let v3 : W := .t (sqT bc Ye3)
 let E : IS := [some (.r i), some Ybw, some v2, some v3, some (.t Yp), some Yaq, none, none]
 refine fnX_nx (e := E) (eta := [some (.r i), some Ybw, some v2, some v3, none, none, none, none]) rfl rfl ?_
 unfold B_Reader_init
 refine za0 (e1 := [some (.r i), some Ybw, some v2, some v3, none, none, none, none]) (h1 := hp) ?_ ?_
 ·rw [if_no (h1 := hp) (by rw [p_not, zci, zbh (ws := [.t (.str n)]) rfl (h.n.is _)]; rfl)]
  rfl
 refine za0 (zfj (zbh (ws := [v2, .t (.tup (wR.map T.str))]) rfl (deeds_is h.ok h.nd hl))) ?_
 simp only [List.set_cons_succ, List.set_cons_zero]
 let E1 : IS := [some (.r i), some Ybw, some v2, some v3, some (.t Yp), none, none, none]
 refine za0 (e1 := E1) (h1 := hp) ?_ ?_
 ·have c2 : zba zay (mSq (mVar 4)) Yca mYes zck [6, 7] E1 hp = .ok (.t (.lst ((ds.map (·.1)).map T.str))) hp := by
   have q := comp_g (G := gT 2 (gsC (gN 6) (gsC (gN 7) gsN))) (U := mYes) (E := zck) (eta := E1) (hp := hp) (src := fun d : Deed => W.t (dTr d))
    (loc := fun d => [some (.r i), some Ybw, some v2, some v3, some (.t Yp), none, some (.t (.str d.1)), some (.t (.str d.2))]) (p := fun _ => true) (g := fun d => .str d.1) ds Yau Yau Yiz
   rw [zc1] at q
   refine zef (ws := (ds.map dTr).map W.t) (ys := (ds.map fun d => T.str d.1).map W.t) (h1 := hp) (h2 := hp) rfl Yac ?_ ?_
   ·rw [List.map_map]
    exact q
   ·rw [lst_ok Yac, List.map_map]
    rfl
  have m : ("read" : Str) ∈ ds.map (·.1) := by
   obtain ⟨d, hd, e⟩ := h.h0
   exact List.mem_map.mpr ⟨d, hd, e⟩
  have t2 : zah asB Yid E1 hp = .ok false hp := zex (binP rfl c2 (by rw [in_lstrs]; simp only [if_true, decide_eq_true m, Bool.not_true]))
  have t1 : zah asB (mBin Ygj (mVar 4) Yar) E1 hp = .ok false hp := rfl
  rw [if_no (h1 := hp) (by rw [p_or, t1, zao]; exact t2)]
  rfl
 refine za0 (zfj (zbh (ws := [v3, .t Yp]) rfl (ht _))) ?_
 show mSeq _ _ E hp = _
 refine za0 (e1 := E) (h1 := hp) rfl ?_
 refine za0 (zdp (c := "Reader") (h1 := hp) (v := .t (.str n)) rfl rfl hi Yct Yct) ?_
 refine za0 (zdp (c := "Reader") (v := .t (.tup Yt)) (zgh rfl oTup_sq) rfl (set_at il) Yct Yb0) ?_
 rw [set_set]
 refine za0 (zdp (c := "Reader") (v := .t (.tup Ye3)) (zgh rfl oTup_sq) rfl (set_at il) Yct Yb0) ?_
 rw [set_set]
 refine za0 (zdp (c := "Reader") (v := .t Yp) rfl rfl (set_at il) Yct Yb0) ?_
 rw [set_set]
 refine (zdp (c := "Reader") (v := .t Yjz) rfl rfl (set_at il) Yct Yb0).trans ?_
 rw [set_set]
 rfl
theorem reader_made {b bc : Bool} {i : Nat} {n : Str} {ds : List Deed} {cs : List Str} {ts : List T} {Fs : M (List W)} {eta : IS} {hp h1 : IH} (hc : eta[i]? = some (some (.t Yai))) (h : Fs eta hp = .ok [.t (.str n), .t (sqT b Yt), .t (sqT bc Ye3)] h1) (r : ROk n ds) (ht : ∀ hp, zdg [.t (sqT bc Ye3), .t Yp] hp = .ok Yaq hp) :
  mFrzI (mMakeL i "Reader" zdm [] Fs) eta hp = .ok (.t (rdrG n ds cs ts)) (h1 ++ [none]) := by
 have q := reader_init (b := b) (bc := bc) (hp := h1 ++ [some Yfl]) (i := h1.length) app_at r ht
 rw [app_set] at q
 exact frz_made (makeL_ok hc h q) fun _ => rfl
abbrev sIf : List Nat := [32, 105, 102, 32]
theorem tl_if : tl (" if " : Str) = sIf := by decide +kernel
theorem free_cons {sep : List Nat} {c : Nat} {r : List Nat} (h : pre sep (c :: (r ++ sep)) = false) (hr : SX.free sep r = true) : SX.free sep (c :: r) = true := by
 show (!(pre sep (c :: (r ++ sep))) && SX.free sep r) = true
 rw [h, hr]
 rfl
theorem free_let {r : List Nat} (hr : SX.free sIf r = true) : ∀ {l : List Nat}, (∀ c ∈ l, 97 ≤ c) → SX.free sIf (l ++ r) = true
 | [], _ => hr
 | c :: l, h => by
  have hc := h c Yv
  exact free_cons (pre_of_head _ _ Yf) (free_let hr fun x hx => h x Yat)
theorem free_name {x : Str} (n : Nam x) {r : List Nat} (hr : SX.free sIf r = true) (hh : r = [] ∨ ∃ r', r = 44 :: r') : SX.free sIf (32 :: (tl x ++ r)) = true := by
 refine free_cons ?_ (free_let hr fun c hc => (n.fr c hc).1)
 refine Bool.eq_false_iff.mpr fun e => ?_
 have e : (32 :: ((tl x ++ r) ++ sIf)).take 4 = sIf := eq_of_beq e
 have fr := n.fr
 have ne : tl x ≠ [105, 102] := fun z => n.ne (str_eq (z.trans Yg))
 generalize tl x = l at e fr ne
 match l with
 | [] => rcases hh with rfl | ⟨r', rfl⟩ <;> simp [sIf] at e
 | [a] => rcases hh with rfl | ⟨r', rfl⟩ <;> simp [sIf] at e
 | [a, b] =>
  simp only [List.cons_append, List.nil_append, List.take_succ_cons, sIf, List.cons.injEq, true_and] at e
  exact ne (by rw [e.1, e.2.1])
 | a :: b :: c :: l =>
  simp only [List.cons_append, List.nil_append, List.take_succ_cons, sIf, List.cons.injEq, true_and] at e
  have := (fr c Yaw).1
  omega
theorem wR_head {d : Deed} (h : d.1 ∈ wR) : ∃ c l, tl d.1 = c :: l ∧ c ≠ 105 := by
 have h' : d.1 = ("read" : Str) ∨ d.1 = ("look" : Str) := by simpa [wR] using h
 rcases h' with e | e
 ·rw [e]
  exact ⟨114, [101, 97, 100], by decide +kernel, by decide⟩
 ·rw [e]
  exact ⟨108, [111, 111, 107], by decide +kernel, by decide⟩
theorem tl_dTx (d : Deed) : tl (dTx d) = tl d.1 ++ 32 :: tl d.2 := by
 unfold dTx
 rw [tl_append, tl_append, tl_sp, List.append_assoc]
 rfl
theorem stepsTx_cons (d e : Deed) (r : List Deed) : tl (zbm (d :: e :: r)) = tl d.1 ++ 32 :: (tl d.2 ++ 44 :: 32 :: tl (zbm (e :: r))) := by
 unfold zbm
 rw [List.map_cons, List.map_cons, zcl, tl_append, tl_append, tl_cm, tl_dTx, List.append_assoc, List.append_assoc]
 simp
theorem steps_head {d : Deed} {r : List Deed} (h : d.1 ∈ wR) : ∃ c l, tl (zbm (d :: r)) = c :: l ∧ c ≠ 105 := by
 obtain ⟨c, l, e, hc⟩ := wR_head h
 cases r with
 | nil =>
  unfold zbm
  rw [List.map_cons, List.map_nil, zdu, tl_dTx, e]
  exact ⟨_, _, rfl, hc⟩
 | cons q r =>
  rw [stepsTx_cons, e]
  exact ⟨_, _, rfl, hc⟩
theorem free_steps : ∀ (ds : List Deed), ds ≠ [] → (∀ d ∈ ds, DOk wR d) → SX.free sIf (tl (zbm ds)) = true
 | [], h, _ => absurd rfl h
 | [d], _, h => by
  have k := h d Yv
  unfold zbm
  rw [List.map_cons, List.map_nil, zdu, tl_dTx]
  have := free_name k.n (r := []) rfl (.inl rfl)
  rw [List.append_nil] at this
  exact free_let this fun c hc => (k.w.fr c hc).1
 | d :: e :: r, _, h => by
  have k := h d Yv
  have ih := free_steps (e :: r) Yaw fun x hx => h x Yat
  rw [stepsTx_cons]
  refine free_let (free_name k.n (free_cons (pre_of_head _ _ Yct) (free_cons ?_ ih)) (.inr ⟨_, rfl⟩)) fun c hc => (k.w.fr c hc).1
  obtain ⟨c, l, q, hc⟩ := steps_head (r := r) (h e Yaw).m
  rw [q]
  refine Bool.eq_false_iff.mpr fun z => ?_
  have z : (32 :: ((c :: l) ++ sIf)).take 4 = sIf := eq_of_beq z
  simp only [List.cons_append, List.take_succ_cons, sIf, List.cons.injEq, true_and] at z
  exact hc z.1
theorem par_freeN {sep p : List Nat} (h : SX.free sep p = true) : par sep [] p = none := by
 refine par_none fun i hi => ?_
 refine Bool.eq_false_iff.mpr fun z => ?_
 have f := SX.free_at h [] i hi
 have hl : sep.length ≤ (p.drop i).length := by
  have e : (p.drop i).take sep.length = sep := eq_of_beq z
  have := congrArg List.length e
  rw [List.length_take] at this
  omega
 rw [List.drop_append_of_le_length Yf, SX.pre_mono hl, z] at f
 cases f
theorem part_no {a y : Str} {hp : IH} (ey : tl y ≠ []) (h : SX.free (tl y) (tl a) = true) (hl : a.length ≤ 16777216) : zbd Yee [.t (.str y)] hp = .ok (.t (.pr [.str a, .str "", .str ""])) hp := by
 have e : Txt.partition a y = (a, (("" : Str), ("" : Str))) := by
  have := SX.partition_none ey (par_freeN h)
  rw [show SX.S (tl a) = a from mk_tl a, show SX.S (tl y) = y from mk_tl y] at this
  exact this
 have ly : (y.length == 0) = false := by
  rw [len_tl]
  cases hq : tl y with
  | nil => exact absurd hq ey
  | cons c l => rfl
 unfold zbd
 simp only
 rw [if_pos ⟨ly, hl⟩, e]
theorem part_yes {a b y : Str} {hp : IH} (ey : tl y ≠ []) (h : SX.free (tl y) (tl a) = true) (hl : (a ++ y ++ b).length ≤ 16777216) : zbd (.t (.str (a ++ y ++ b))) [.t (.str y)] hp = .ok (.t (.pr [.str a, .str y, .str b])) hp := by
 have e : Txt.partition (a ++ y ++ b) y = (a, y, b) := by
  have := SX.partition_some ey (SX.par_free (tl b) ey h)
  rw [← List.append_assoc, ← tl_append, ← tl_append] at this
  rw [show SX.S (tl (a ++ y ++ b)) = a ++ y ++ b from mk_tl _, show SX.S (tl a) = a from mk_tl a, show SX.S (tl y) = y from mk_tl y, show SX.S (tl b) = b from mk_tl b] at this
  exact this
 have ly : (y.length == 0) = false := by
  rw [len_tl]
  cases hq : tl y with
  | nil => exact absurd hq ey
  | cons c l => rfl
 unfold zbd
 simp only
 rw [if_pos ⟨ly, hl⟩, e]
end
abbrev kT3 (n : Str) (s d : T) : T := .ins "Kind" ["name", "steps", "deeds"] [.str n, s, d]
abbrev rT5 (n : Str) (s c d t : T) : T := .ins "Reader" ["name", "steps", "checks", "deeds", "tests"] [.str n, s, c, d, t]
abbrev oT2 (c : Str) (n : Int) : T := .tup [.str c, .int n]
structure KLine (line n : Str) (s d : T) : Prop where
 h1 : ∀ hp, zd0 [.t Y1] hp = .ok Ya0 hp
 h2 : ∀ hp, zd5 [.t Y1] hp = .ok (.t (kT3 n s d)) hp
 h3 : ∀ hp, zcu [.t Y1] hp = .ok Ya0 hp
structure RLine (line n : Str) (s1 s2 d t : T) : Prop where
 h1 : ∀ hp, zd0 [.t Y1] hp = .ok Ya0 hp
 h2 : ∀ hp, zd5 [.t Y1] hp = .ok Ya0 hp
 h3 : ∀ hp, zcu [.t Y1] hp = .ok (.t Yge) hp
structure OLine (line c : Str) (n : Int) : Prop where
 h1 : ∀ hp, zd0 [.t Y1] hp = .ok (.t (oT2 c n)) hp
 h2 : ∀ hp, zd5 [.t Y1] hp = .ok Ya0 hp
 h3 : ∀ hp, zcu [.t Y1] hp = .ok Ya0 hp
theorem app_at' {k : Nat} {ws : List W} {w : W} {hp : IH} (h : getL hp k = some ws) (hl : ws.length < 1000) : zec (.r k) [w] hp = .ok Ya0 (hp.set k (some (.lst (ws ++ [w])))) := by
 rw [oAppend_r, h]
 simp only [show ws.length < 16777216 by omega, if_true]
theorem for_go {G : W → IS → Option IS} {S : M Fl} {w : W} {ws : List W} {eta eta1 e1 : IS} {hp h1 : IH} (g : G w eta = some eta1) (h : S eta1 hp = .ok (.nx e1) h1) : forL G S (w :: ws) eta hp = forL G S ws e1 h1 := by
 simp only [forL, g, h, zao]
abbrev gE : W → IS → Option IS := gT 2 (gsC (gN 4) (gsC (gN 5) gsN))
section
open TL
theorem rd_tl : tl ("reader " : Str) = [114, 101, 97, 100, 101, 114, 32] := by decide +kernel
theorem rd_len : ("reader " : Str).length = 7 := by decide +kernel
/-- without checks -/
def rdrTx (n : Str) (ds : List Deed) : Str := "reader " ++ n ++ ": " ++ zbm ds
def rdrTxC (n : Str) (ds : List Deed) (cs : List Str) : Str := "reader " ++ n ++ ": " ++ (zbm ds ++ " if " ++ Txt.join ", " cs)
theorem read_no {ts : List T} {hp : IH} (b : Bool) : zdg [.t (sqT b []), .t Yjz] hp = .ok (.t (.tup [])) hp := by
 cases b
 ·exact zch (ts := [.lst [], .tup ts]) (eta := [some (.t Yho), some Yaq, none, none]) rfl rfl (h1 := []) rfl
 ·exact zch (ts := [.tup [], .tup ts]) (eta := [some (.t (.tup [])), some Yaq, none, none]) rfl rfl (h1 := []) rfl
theorem rdr_58 {n : Str} (h : Nam n) : 58 ∉ tl ("reader " ++ n) := by
 rw [tl_append, rd_tl, List.mem_append]
 simp [h.no (c := 58) Yf]
theorem reader_read0 {n : Str} {ds : List Deed} {hp : IH} (h : ROk n ds) : zbk [.t Yai, .t (.str (rdrTx n ds))] hp = .ok (.t (rdrG n ds [] [])) (hp ++ [none]) := by
 let v1 : Option W := some (.t (.str (rdrTx n ds)))
 have sl := zfw h.ok
 have hl := h.hl
 have h0 := h.ne
 have nl := h.n.ln
 refine fnX_rt (eta := [some (.t Yai), v1, none, none, none, none, none, none]) rfl rfl ?_
 unfold zc0
 have ne : zbv [.t (.str (rdrTx n ds)), .t Yie] hp = .ok (.t (.tup [.str n, .str (zbm ds)])) hp := named_yes (rdr_58 h.n) (by
  rw [za3, za3, za3, rd_len, cs_len]
  omega)
 refine za0 (e1 := [some (.t Yai), v1, some Ybw, some Yel, none, none, none, none]) (h1 := hp) ?_ ?_
 ·rw [p_asg, zbh (ws := [.t (.str (rdrTx n ds)), .t Yie]) rfl ne]
  rfl
 let E : IS := [some (.t Yai), v1, some Ybw, some Yel, some Yel, some Y5, some Y5, none]
 refine za0 (e1 := E) (h1 := hp) ?_ ?_
 ·have pt : mSM zbd (mVar 3) (mC (.str " if ")) [some (.t Yai), v1, some Ybw, some Yel, none, none, none, none] hp = .ok (.t (.pr [.str (zbm ds), .str "", .str ""])) hp :=
   sm_ok rfl rfl (part_no (by rw [tl_if]; simp) Yjo Yf)
  rw [p_asg, pt]
  rfl
 refine za0 (e1 := E) (h1 := hp) rfl ?_
 have a : (zac (mVar 2) Yaf : M (List W)) E hp = .ok [.t (.str n), .t (sqT false Yt), .t (sqT true (([] : List Str).map T.str))] hp := by
  have a3 : (mIf (zah asB Yk7) (mSM zcp (mVar 6) (mC (.str ", "))) Yaj : M W) E hp = .ok (.t (.tup [])) hp := rfl
  refine (zbb rfl Yke).trans ?_
  rw [List.map_map]
  rfl
 have m := reader_made (i := 0) rfl a h (fun hp => read_no true)
 unfold zel
 have e : zbq E hp = .ok (.rt (.t (rdrG n ds [] []))) (hp ++ [none]) := by
  unfold zbq
  rw [zfm, m]
  rfl
 rw [e]
theorem reader_readC {n : Str} {ds : List Deed} {cs : List Str} {ts : List T} {hp : IH} (h : ROk n ds) (h1 : cs ≠ []) (hc : ∀ c ∈ cs, 44 ∉ tl c ∧ c.length ≤ 100) (he : Txt.join ", " cs ≠ "") (hz : cs.length ≤ 1000) (ht : ∀ hp, zdg [.t (sqT false Ye3), .t Yp] hp = .ok Yaq hp) :
  zbk [.t Yai, .t Yk8] hp = .ok (.t (rdrG n ds cs ts)) (hp ++ [none]) := by
 let v1 : Option W := some (.t Yk8)
 have sl := zfw h.ok
 have hl := h.hl
 have h0 := h.ne
 have nl := h.n.ln
 have cl := join_len (s := ", ") (k := 100) (ps := cs) fun c m => (hc c m).2
 rw [cm_len] at cl
 have il : (" if " : Str).length = 4 := by decide +kernel
 refine fnX_rt (eta := [some (.t Yai), v1, none, none, none, none, none, none]) rfl rfl ?_
 unfold zc0
 let rest : Str := zbm ds ++ " if " ++ Txt.join ", " cs
 have rl : rest.length ≤ 120000 := by
  show (zbm ds ++ " if " ++ Txt.join ", " cs).length ≤ _
  rw [za3, za3, il]
  omega
 have ne : zbv [.t Yk8, .t Yie] hp = .ok (.t (.tup [.str n, .str rest])) hp := named_yes (rdr_58 h.n) (by
  rw [za3, za3, za3, rd_len, cs_len]
  show _ + rest.length ≤ _
  omega)
 refine za0 (e1 := [some (.t Yai), v1, some Ybw, some (.t (.str rest)), none, none, none, none]) (h1 := hp) ?_ ?_
 ·rw [p_asg, zbh (ws := [.t Yk8, .t Yie]) rfl ne]
  rfl
 let E : IS := [some (.t Yai), v1, some Ybw, some (.t (.str rest)), some Yel, some (.t (.str " if ")), some (.t (.str (Txt.join ", " cs))), none]
 refine za0 (e1 := E) (h1 := hp) ?_ ?_
 ·have pt : mSM zbd (mVar 3) (mC (.str " if ")) [some (.t Yai), v1, some Ybw, some (.t (.str rest)), none, none, none, none] hp = .ok (.t (.pr [.str (zbm ds), .str " if ", .str (Txt.join ", " cs)])) hp :=
   sm_ok rfl rfl (part_yes (by rw [tl_if]; simp) Yjo (by show rest.length ≤ _; omega))
  rw [p_asg, pt]
  rfl
 refine za0 (e1 := E) (h1 := hp) ?_ ?_
 ·have t1 : zah asB Yk7 E hp = .ok true hp := rfl
  have t2 : zah asB (mBin Yx (mVar 6) Ya2) E hp = .ok false hp := zex (binP rfl rfl (by rw [ev_eqs]; simp only [Bool.false_eq_true, if_false, decide_eq_false he]))
  rw [if_no (h1 := hp) (by rw [p_and, t1, zao]; exact t2)]
  rfl
 have a : (zac (mVar 2) Yaf : M (List W)) E hp = .ok [.t (.str n), .t (sqT false Yt), .t (sqT false Ye3)] hp := by
  have t1 : zah asB Yk7 E hp = .ok true hp := rfl
  have a3 : (mIf (zah asB Yk7) (mSM zcp (mVar 6) (mC (.str ", "))) Yaj : M W) E hp = .ok (.t (.lst Ye3)) hp := by
   rw [if_yes t1]
   exact sm_ok rfl rfl (zeo (split_cm h1 fun p hp => (hc p hp).1) Yg Yf)
  refine (zbb rfl Yke).trans ?_
  rw [List.map_map]
  rfl
 have m := reader_made (i := 0) rfl a h ht
 unfold zel
 have e : zbq E hp = .ok (.rt (.t (rdrG n ds cs ts))) (hp ++ [none]) := by
  unfold zbq
  rw [zfm, m]
  rfl
 rw [e]
theorem reader_in_of {line : Str} {x : T} {hp : IH} (h : zbk [.t Yai, .t Y1] [] = .ok (.t x) [none]) : zcu [.t Y1] hp = .ok (.t x) hp := by
 refine zch (ts := [.str line]) (eta := [some (.t Y1)]) rfl rfl (h1 := [none]) ?_
 have e : zcm [some (.t Y1)] [] = .ok (.rt (.t x)) [none] := by
  have m : zfx "Reader" zbk [] (mC Yai) Yy [some (.t Y1)] [] = .ok (.t x) [none] := by
   show reEr _ (zbk [.t Yai, .t Y1] []) = _
   rw [h]
   rfl
  unfold zcm
  rw [zfm, m]
  rfl
 unfold B_reader_in mTry
 rw [e]
theorem kline {n : Str} {ds : List Deed} (h : KOk n ds) : KLine (zgi n ds) n (.tup Yt) Yp := by
 have len := kndTx_len h
 refine ⟨fun hp => ?_, fun hp => kind_in_yes h, fun hp => reader_in_no fun hp => ?_⟩
 ·have e : zgi n ds = "kind" ++ " " ++ (n ++ ": " ++ zbm ds) := str_eq (by
   unfold zgi
   simp only [tl_append, kd_tl, tl_sp, show tl ("kind" : Str) = [107, 105, 110, 100] by decide +kernel, List.append_assoc, List.cons_append, List.nil_append])
  rw [e] at len ⊢
  exact round_in_no Yg Yg Yf
 ·unfold zgi at len ⊢
  exact named_no (k := 0) (by
   rw [tl_append, kd_tl, List.mem_append]
   simp [h.n.no (c := 58) Yf]) Yf (by rw [rd_len]; omega) (by
   rw [tl_append, kd_tl, rd_tl]
   simp)
theorem rline_of {n rest : Str} {s1 s2 d t : T} (hn : Nam n) (hl : rest.length ≤ 120000) (h : zbk [.t Yai, .t (.str ("reader " ++ n ++ ": " ++ rest))] [] = .ok (.t Yge) [none]) : RLine ("reader " ++ n ++ ": " ++ rest) n s1 s2 d t := by
 have nl := hn.ln
 have len : ("reader " ++ n ++ ": " ++ rest).length ≤ 200000 := by
  rw [za3, za3, za3, rd_len, cs_len]
  omega
 refine ⟨fun hp => ?_, fun hp => kind_in_no fun hp => ?_, fun hp => reader_in_of h⟩
 ·have e : "reader " ++ n ++ ": " ++ rest = "reader" ++ " " ++ (n ++ ": " ++ rest) := str_eq (by
   simp only [tl_append, rd_tl, tl_sp, show tl ("reader" : Str) = [114, 101, 97, 100, 101, 114] by decide +kernel, List.append_assoc, List.cons_append, List.nil_append])
  rw [e] at len ⊢
  exact round_in_no Yg Yg Yf
 ·exact named_no (k := 0) (rdr_58 hn) Yf (by rw [kd_len]; omega) (by
   rw [tl_append, rd_tl, kd_tl]
   simp)
end
section
open TL
inductive Chk where
 | same (i j : Nat)
 | even (i : Nat)
 deriving DecidableEq
def numS (i : Nat) : Str := Str.ofString (toString ((i : Nat) : Int))
def chkP : Chk → List Str
 | .same i j => ["same", numS i, numS j]
 | .even i => ["even", numS i]
def zde (c : Chk) : Str := Txt.join " " (chkP c)
def chkT : Chk → T
 | .same i j => .tup [.str "same", .int (i : Nat), .int (j : Nat)]
 | .even i => .tup [.str "even", .int (i : Nat)]
/-- a check of these steps -/
def chkOk (ds : List Deed) : Chk → Prop
 | .same i j => i < j ∧ j < ds.length ∧ (ds.getD i ("", "")).1 = "look" ∧ ds.getD i ("", "") = ds.getD j ("", "")
 | .even i => i < ds.length ∧ (ds.getD i ("", "")).1 = "look"
theorem num_no {i c : Nat} (h : c < 48 ∨ 57 < c) : c ∉ tl (numS i) := by
 unfold numS
 rw [tl_num]
 exact numL_free h
theorem num_len {i : Nat} (h : i < 10) : (numS i).length = 1 := by
 unfold numS
 rw [len_tl, tl_num, numL_lt h]
 rfl
theorem num_in : ∀ i, i < 10 → isT (zcx [.t Yck, .t (.int 9)] []) (.int (i : Nat)) = true := by decide +kernel
theorem num_is {i : Nat} {hp : IH} (h : i < 10) : zcx [.t Yck, .t (.int 9)] hp = .ok Ycd hp := by
 obtain ⟨_, e⟩ := isT_ok (num_in i h)
 exact zej e
theorem deed_at {ds : List Deed} {i : Nat} (h : i < ds.length) : (ds.map dTr)[i]'(by simpa using h) = .tup [.str (ds.getD i ("", "")).1, .str (ds.getD i ("", "")).2] := by
 simp [dTr, List.getD, h]
theorem spot_is {ds : List Deed} {i : Nat} {hp : IH} (h : i < ds.length) (h9 : ds.length ≤ 10) (hd : (ds.getD i ("", "")).1 = "look") : zes [.t Yck, .t Yp] hp = .ok Ycd hp := by
 let E : IS := [some (.t Yck), some (.t Yp), none]
 let E2 : IS := [some (.t Yck), some (.t Yp), some Ycd]
 refine zch (ts := [.str (numS i), .tup (ds.map dTr)]) (eta := E) rfl rfl (h1 := []) ?_
 unfold B_spot_in
 refine za0 (e1 := E2) (h1 := []) (zfj (zbh (ws := [.t Yck, .t (.int 9)]) rfl (num_is Yf))) ?_
 have ix : ixW (.t Yp) Ycd [] = .ok (.t (.tup [.str (ds.getD i ("", "")).1, .str (ds.getD i ("", "")).2])) [] := by
  have := ixW_sq (b := true) (ts := ds.map dTr) (n := i) (hp := []) (by simpa using h)
  rw [deed_at h] at this
  exact this
 have t1 : zah asB (mBin Ykl (mVar 2) Yar) E2 [] = .ok true [] := rfl
 have t2 : zah asB (mBin wLt (mVar 2) Yjc) E2 [] = .ok true [] := zex (binP rfl (zgh (a := .t Yp) rfl oLen_t) (by rw [wLt_ii, decide_eq_true Yli]))
 have t3 : zah asB (mBin Yx (mBin ixW (mBin ixW (mVar 1) (mVar 2)) Yh) Yg8) E2 [] = .ok true [] := zex (binP (binP (binP rfl rfl ix) rfl ev_ixt0) rfl (by rw [ev_eqs, hd]; simp))
 rw [zfm, if_yes (h1 := []) (by rw [p_and, t1, zao]; simp only [if_true]; rw [p_and, t2, zao]; exact t3)]
 rfl
theorem split_chk {c : Chk} : Txt.split (zde c) " " = chkP c := by
 refine split_join (s := 32) (S := []) tl_sp Yg (by cases c <;> simp [chkP]) fun p hp => ?_
 have s1 : 32 ∉ tl ("same" : Str) := by decide +kernel
 have s2 : 32 ∉ tl ("even" : Str) := by decide +kernel
 cases c <;> simp only [chkP, List.mem_cons, List.not_mem_nil, or_false] at hp
 ·rcases hp with rfl | rfl | rfl
  ·exact s1
  ·exact num_no Yf
  ·exact num_no Yf
 ·rcases hp with rfl | rfl
  ·exact s2
  ·exact num_no Yf
theorem chkTx_no {c : Chk} {s : Nat} (h : s < 48) (h2 : s ≠ 32) : s ∉ tl (zde c) := by
 have a1 : ∀ x ∈ tl ("same" : Str), 97 ≤ x := by decide +kernel
 have a2 : ∀ x ∈ tl ("even" : Str), 97 ≤ x := by decide +kernel
 have b1 : s ∉ tl ("same" : Str) := fun m => by have := a1 s m; omega
 have b2 : s ∉ tl ("even" : Str) := fun m => by have := a2 s m; omega
 have n : ∀ i, s ∉ tl (numS i) := fun i => num_no Yf
 cases c <;> simp [zde, chkP, zcl, zdu, tl_append, tl_sp, b1, b2, n, h2]
theorem chkTx_len {c : Chk} {ds : List Deed} (h : chkOk ds c) (h9 : ds.length ≤ 10) : (zde c).length ≤ 10 := by
 have l1 : ("same" : Str).length = 4 := by decide +kernel
 have l2 : ("even" : Str).length = 4 := by decide +kernel
 cases c with
 | same i j =>
  obtain ⟨h1, h2, _⟩ := h
  simp only [zde, chkP, zcl, zdu, za3, l1, sp_len, num_len (show i < 10 by omega), num_len (show j < 10 by omega)]
  omega
 | even i =>
  obtain ⟨h1, _⟩ := h
  simp only [zde, chkP, zcl, zdu, za3, l2, sp_len, num_len (show i < 10 by omega)]
  omega
theorem test_is {ds : List Deed} {c : Chk} {hp : IH} (h : chkOk ds c) (h9 : ds.length ≤ 10) : F_test_in [.t (.str (zde c)), .t Yp] hp = .ok (.t (chkT c)) hp := by
 let E : IS := [some (.t (.str (zde c))), some (.t Yp), none, none, none]
 refine zch (ts := [.str (zde c), .tup (ds.map dTr)]) (eta := E) rfl rfl (h1 := []) ?_
 have ln := chkTx_len h h9
 have sp : mSM zcp (mVar 0) Yjb E [] = .ok (.t (.lst ((chkP c).map T.str))) [] := sm_ok rfl rfl (zeo split_chk Yg Yf)
 unfold B_test_in
 refine za0 (e1 := E) (h1 := []) rfl ?_
 refine za0 (zfj sp) ?_
 cases c with
 | same i j =>
  obtain ⟨h1, h2, h3, h4⟩ := h
  let E1 : IS := [some (.t (.str (zde (.same i j)))), some (.t Yp), some (.t (.lst [.str "same", .str (numS i), .str (numS j)])), none, none]
  let E2 : IS := [some (.t (.str (zde (.same i j)))), some (.t Yp), some (.t (.lst [.str "same", .str (numS i), .str (numS j)])), some (.t (.lst [.int (i : Nat), .int (j : Nat)])), none]
  have s1 : zes [.t Yck, .t Yp] [] = .ok Ycd [] := spot_is Yf h9 h3
  have s2 : zes [.t (.str (numS j)), .t Yp] [] = .ok (.t (.int (j : Nat))) [] := spot_is h2 h9 (by rw [← h4]; exact h3)
  have cp : zba zay Yk4 (gN 4) mYes zcd [4] E1 [] = .ok (.t (.lst [.int (i : Nat), .int (j : Nat)])) [] := by
   refine zef (ws := [.t Yck, .t (.str (numS j))]) (ys := [.t (.int (i : Nat)), .t (.int (j : Nat))]) (h1 := []) (h2 := []) rfl Yaw ?_ rfl
   have e1 : zcd (E1.set 4 (some (.t Yck))) [] = .ok Ycd [] := zbh (ws := [.t Yck, .t Yp]) rfl s1
   have e2 : zcd (E1.set 4 (some (.t (.str (numS j))))) [] = .ok (.t (.int (j : Nat))) [] := zbh (ws := [.t (.str (numS j)), .t Yp]) rfl s2
   have w : zbp E1 [4] = E1 := rfl
   rw [w]
   simp only [zb3, turnL, p_gN, p_yes, zao, if_true, e1, e2, zc7]
  refine za0 (e1 := E2) (h1 := []) (zfj cp) ?_
  refine za0 (e1 := E2) (h1 := []) rfl ?_
  refine za0 (e1 := E2) (h1 := []) rfl ?_
  have i1 : mBin ixW (mVar 3) Yh E2 [] = .ok Ycd [] := binP rfl rfl ev_ixl0
  have i2 : mBin ixW (mVar 3) Yq E2 [] = .ok (.t (.int (j : Nat))) [] := binP rfl rfl ev_ixl1
  refine za0 (e1 := E2) (h1 := []) ?_ ?_
  ·have t1 : zah asB (mBin Ya7 Ydb (mC (.str "same"))) E2 [] = .ok false [] := rfl
   have t2 : zah asB (mBin Ya7 Yhd Ybr) E2 [] = .ok false [] := rfl
   have t3 : zah asB (mBin iGe Ydc (mBin ixW (mVar 3) Yq)) E2 [] = .ok false [] := zex (binP i1 i2 (by rw [iGe_ii, decide_eq_false Yf]))
   rw [if_no (h1 := []) (by
    rw [p_or, t1, zao]
    simp only [Bool.false_eq_true, if_false]
    rw [p_or, t2, zao]
    exact t3)]
   rfl
  have ix : ∀ k : Nat, k < ds.length → ixW (.t Yp) (.t (.int (k : Nat))) [] = .ok (.t (.tup [.str (ds.getD k ("", "")).1, .str (ds.getD k ("", "")).2])) [] := fun k hk => by
   have := ixW_sq (b := true) (ts := ds.map dTr) (n := k) (hp := []) (by simpa using hk)
   rw [deed_at hk] at this
   exact this
  have t4 : zah asB Yf6 E2 [] = .ok true [] :=
   zex (binP (binP (binP rfl i1 (ix i Yf)) rfl ev_ixt1) (binP (binP rfl i2 (ix j h2)) rfl ev_ixt1) (by rw [ev_eqs, h4]; simp))
  have tp : mApp zaw Yjv E2 [] = .ok (.t (chkT (.same i j))) [] := by
   rw [p_app, zbb rfl (zbb i1 (zbb i2 rfl))]
   rfl
  rw [zfm, if_yes t4, tp]
  rfl
 | even i =>
  obtain ⟨h1, h3⟩ := h
  let E1 : IS := [some (.t (.str (zde (.even i)))), some (.t Yp), some (.t (.lst [.str "even", .str (numS i)])), none, none]
  let E2 : IS := [some (.t (.str (zde (.even i)))), some (.t Yp), some (.t (.lst [.str "even", .str (numS i)])), some (.t (.lst [.int (i : Nat)])), none]
  have s1 : zes [.t Yck, .t Yp] [] = .ok Ycd [] := spot_is Yf h9 h3
  have cp : zba zay Yk4 (gN 4) mYes zcd [4] E1 [] = .ok (.t (.lst [.int (i : Nat)])) [] := by
   refine zef (ws := [.t Yck]) (ys := [.t (.int (i : Nat))]) (h1 := []) (h2 := []) rfl Yaw ?_ rfl
   have e1 : zcd (E1.set 4 (some (.t Yck))) [] = .ok Ycd [] := zbh (ws := [.t Yck, .t Yp]) rfl s1
   have w : zbp E1 [4] = E1 := rfl
   rw [w]
   simp only [zb3, turnL, p_gN, p_yes, zao, if_true, e1, zc7]
  refine za0 (e1 := E2) (h1 := []) (zfj cp) ?_
  refine za0 (e1 := E2) (h1 := []) rfl ?_
  have i1 : mBin ixW (mVar 3) Yh E2 [] = .ok Ycd [] := binP rfl rfl ev_ixl0
  have tp : mApp zaw (zac Yiy (zac Ydc (mNil))) E2 [] = .ok (.t (chkT (.even i))) [] := by
   rw [p_app, zbb rfl (zbb i1 rfl)]
   rfl
  have t1 : zah asB (mBin Yx Ydb Yiy) E2 [] = .ok true [] := rfl
  have t2 : zah asB (mBin Yx Yhd Yq) E2 [] = .ok true [] := rfl
  have t : (mAnd (zah asB (mBin Yx Ydb Yiy)) (zah asB (mBin Yx Yhd Yq)) : M Bool) E2 [] = .ok true [] := by
   rw [p_and, t1, zao]
   exact t2
  rw [p_seq, if_yes t, zfm, tp]
  rfl
def chkK : Chk → List Key
 | .same i j => [.inr "same", .inl (i : Nat), .inl (j : Nat)]
 | .even i => [.inr "even", .inl (i : Nat)]
theorem chkK_inj {c d : Chk} (h : chkK c = chkK d) : c = d := by
 cases c <;> cases d <;> simp [chkK] at h ⊢ <;> omega
theorem tups_chk : ∀ cs : List Chk, tupsT Yjk = some (cs.map chkK)
 | [] => rfl
 | .same i j :: cs => by
  have ih := tups_chk cs
  simp only [List.map_cons, chkT, chkK, tupsT, ih]
  rfl
 | .even i :: cs => by
  have ih := tups_chk cs
  simp only [List.map_cons, chkT, chkK, tupsT, ih]
  rfl
theorem onceT_nd : ∀ (ks acc : List (List Key)), (acc ++ ks).Nodup → ks.foldl Yer acc = acc ++ ks
 | [], acc, _ => by simp
 | k :: ks, acc, h => by
  have hm : memT k acc = false := by
   simp only [memT, List.any_eq_false, decide_eq_true_eq]
   intro j hj e
   subst e
   exact (List.nodup_append.mp h).2.2 _ hj _ Yv rfl
  rw [List.foldl_cons]
  simp only [hm, Bool.false_eq_true, if_false]
  rw [onceT_nd ks (acc ++ [k]) (by simpa using h), List.append_assoc]
  rfl
theorem chkT_fit {cs : List Chk} : fitL Yjk 60 = true := fitL_all fun t ht => by
 obtain ⟨c, _, rfl⟩ := List.mem_map.mp ht
 cases c <;> simp [chkT]
theorem tests_is {b : Bool} {ds : List Deed} {cs : List Chk} {hp : IH} (h : ∀ c ∈ cs, chkOk ds c) (nd : cs.Nodup) (h4 : cs.length ≤ 4) (h9 : ds.length ≤ 10) : zdg [.t (sqT b Yko), .t Yp] hp = .ok (.t (.tup Yjk)) hp := by
 let v0 : Option W := some (.t (sqT b Yko))
 let v1 : Option W := some (.t Yp)
 refine zch (ts := [sqT b Yko, .tup (ds.map dTr)]) (eta := [v0, v1, none, none]) rfl rfl (h1 := []) ?_
 unfold B_tests_in
 refine za0 (e1 := [v0, v1, none, none]) (h1 := []) ?_ ?_
 ·rw [if_no (h1 := []) (by rw [p_not, zci, zbh (ws := [.t (sqT b Yko)]) rfl seq_isq]; rfl)]
  rfl
 have c1 : zba zay Ybd (gN 3) mYes zdk [3] [v0, v1, none, none] [] = .ok (.t (.lst Yjk)) [] := by
  have q := comp_g (G := gN 3) (U := mYes) (E := zdk) (eta := [v0, v1, none, none]) (hp := []) (src := fun c : Chk => W.t (.str (zde c)))
   (loc := fun c => [v0, v1, none, some (.t (.str (zde c)))]) (p := fun _ => true) (g := chkT) cs Yau Yau
   (fun c hc _ => zbh (ws := [.t (.str (zde c)), .t Yp]) rfl (test_is (h c hc) h9))
  rw [zc1] at q
  refine zef (ws := ((cs.map zde).map T.str).map W.t) (ys := (cs.map chkT).map W.t) (h1 := []) (h2 := []) ?_ Yac ?_ (lst_ok Yac)
  ·rw [p_sq, varP rfl, zao, sqI_sq]
  ·rw [List.map_map, List.map_map]
   exact q
 refine za0 (zfj c1) ?_
 let E1 : IS := [v0, v1, some (.t (.lst Yjk)), none]
 have ni : ∀ h : IH, inW false Ya0 (.t (.lst Yjk)) h = .ok (.t Yo) h := fun h => non_in chkT_fit fun t ht => by
  obtain ⟨c, _, rfl⟩ := List.mem_map.mp ht
  cases c <;> simp [chkT, Mir.eqT]
 have ls : mLenSetT (mVar 2) E1 [] = .ok (.t (.int (cs.length : Nat))) [] := by
  unfold mLenSetT
  rw [varP rfl, zao]
  simp only [tups_chk, List.length_map, h4, if_true]
  have nd2 : (cs.map chkK).Nodup := List.Pairwise.map _ (fun a b h e => h (chkK_inj e)) nd
  have e : onceT (cs.map chkK) = cs.map chkK := by
   unfold onceT
   rw [onceT_nd _ [] (by simpa using nd2), List.nil_append]
  rw [e, List.length_map]
 show mRet _ E1 [] = _
 have t1 : zah asB (mBin Yfr Yar (mVar 2)) E1 [] = .ok false [] := zex (binP rfl rfl (ni []))
 have t2 : zah asB (mBin Ya7 (mLenSetT (mVar 2)) Yk3) E1 [] = .ok false [] := zex (binP ls (zgh (a := .t (.lst Yjk)) rfl (by rw [oLen_l, List.length_map])) (by rw [ev_eqi]; simp))
 rw [zfm, if_no (h1 := []) (by rw [p_or, t1, zao]; exact t2), zgh (a := .t (.lst Yjk)) rfl oTup_l]
 rfl
end
section
open TL
theorem named_none {a p : Str} {k : Nat} {hp : IH} (h : 58 ∉ tl a) (hl : a.length ≤ 16777216) (hk : k < p.length) (hd : (tl a)[k]? ≠ (tl p)[k]?) : zbv [.t (.str a), .t (.str p)] hp = .ok Yh3 hp := by
 let v0 : Option W := some Yee
 refine zch (ts := [.str a, .str p]) (eta := [v0, some Yej, none, none, none]) rfl rfl (h1 := []) ?_
 unfold B_named_in
 have e1 : mSM zbd (mVar 0) (mC Yki) [v0, some Yej, none, none, none] [] = .ok (.t (.pr [.str a, .str "", .str ""])) [] := sm_ok rfl rfl (part_no (by rw [tl_cs]; simp) (by rw [tl_cs]; exact SX.free_head h) hl)
 refine za0 (e1 := [v0, some Yej, some Yee, some Y5, some Y5]) (h1 := []) ?_ ?_
 ·rw [p_asg, e1]
  rfl
 have e2 : mSM zb2 (mVar 2) (mVar 1) [v0, some Yej, some Yee, some Y5, some Y5] [] = .ok (.t Yo) [] := sm_ok rfl rfl (by
  unfold zb2
  simp only
  rw [starts_no hk hd])
 rw [zfm, if_no (h1 := []) (by rw [zci, e2]; rfl)]
 rfl
def rndTx (c : Str) (n : Nat) : Str := Txt.join " " ["round", c, numS n]
theorem rndTx_tl (c : Str) (n : Nat) : tl (rndTx c n) = tl ("round" : Str) ++ 32 :: (tl c ++ 32 :: tl (numS n)) := by
 simp [rndTx, zcl, zdu, tl_append, tl_sp]
theorem rndTx_no {c : Str} {n s : Nat} (hc : Nam c) (h : s < 48 ∨ s = 58) (h2 : s ≠ 32) : s ∉ tl (rndTx c n) := by
 have a : ∀ x ∈ tl ("round" : Str), 97 ≤ x := by decide +kernel
 have b : s ∉ tl ("round" : Str) := fun m => by have := a s m; omega
 have d : s ∉ tl (numS n) := num_no Yf
 rw [rndTx_tl]
 simp [b, d, hc.no (c := s) Yf, h2]
theorem rndTx_len {c : Str} {n : Nat} (hc : Nam c) (hn : n < 10) : (rndTx c n).length ≤ 20 := by
 have l1 : ("round" : Str).length = 5 := by decide +kernel
 have := hc.ln
 simp only [rndTx, zcl, zdu, za3, l1, sp_len, num_len hn]
 omega
theorem oline_of {c : Str} {n : Nat} (hc : Nam c) (hn : n < 10) : OLine (rndTx c n) c (n : Nat) := by
 have len := rndTx_len hc hn
 have h0 : (tl (rndTx c n))[0]? = some 114 := by
  rw [rndTx_tl, show tl ("round" : Str) = [114, 111, 117, 110, 100] by decide +kernel]
  rfl
 have h1 : (tl (rndTx c n))[1]? = some 111 := by
  rw [rndTx_tl, show tl ("round" : Str) = [114, 111, 117, 110, 100] by decide +kernel]
  rfl
 refine ⟨fun hp => ?_, fun hp => kind_in_no fun hp => ?_, fun hp => reader_in_no fun hp => ?_⟩
 ·let v0 : Option W := some (.t (.str (rndTx c n)))
  refine zch (ts := [.str (rndTx c n)]) (eta := [v0, none, none]) rfl rfl (h1 := []) ?_
  have sp : mSM zcp (mVar 0) Yjb [v0, none, none] [] = .ok (.t (.lst [.str "round", .str c, .str (numS n)])) [] := sm_ok rfl rfl (zeo (ls := ["round", c, numS n]) (by
   refine split_join (s := 32) (S := []) tl_sp Yg Yaw fun p hp => ?_
   simp only [List.mem_cons, List.not_mem_nil, or_false] at hp
   rcases hp with rfl | rfl | rfl
   ·decide +kernel
   ·exact hc.no Yf
   ·exact num_no Yf) Yg Yf)
  have nn := hc.is
  have nu : ∀ h : IH, zcx [.t (.str (numS n)), .t (.int 9)] h = .ok (.t (.int (n : Nat))) h := fun h => num_is hn
  unfold B_round_in
  refine za0 (zfj sp) ?_
  simp only [List.set_cons_succ, List.set_cons_zero]
  simp_arith [nn, nu, Int.cast_ofNat_Int]
 ·exact named_none (k := 0) (rndTx_no hc (.inr rfl) Yct) Yf (by rw [kd_len]; omega) (by rw [h0, kd_tl]; simp)
 ·exact named_none (k := 1) (rndTx_no hc (.inr rfl) Yct) Yf (by rw [rd_len]; omega) (by rw [h1, rd_tl]; simp)
theorem bools_true {n : Nat} {hp : IH} {l : List T} (h : l = List.replicate n Yae) : oAll [.t (.lst l)] hp = .ok (.t Yae) hp := by
 have e : l = (List.replicate n true).map T.bl := by rw [h, List.map_replicate]
 rw [e, bools_all]
 simp
abbrev KR := Str × T × T
def knR (k : KR) : T := kT3 k.1 k.2.1 k.2.2
abbrev RR := Str × T × T × T × T
def rdR (r : RR) : T := rT5 r.1 r.2.1 r.2.2.1 r.2.2.2.1 r.2.2.2.2
theorem map_const {A : Type} (l : List A) (t : T) : l.map (fun _ => t) = List.replicate l.length t := by
 induction l with
 | nil => rfl
 | cons x l ih => rw [List.map_cons, ih]; rfl
theorem unlike_is {ns : List Str} {hp : IH} (nd : ns.Nodup) (h0 : 0 < ns.length) (hl : ns.length ≤ 1000) : zdf [.t (.lst Yij)] hp = .ok (.t Yae) hp := by
 refine zch (ts := [.lst Yij]) (eta := [some (.t (.lst Yij))]) rfl rfl (h1 := []) ?_
 have ls : mLenSet (mVar 0) [some (.t (.lst Yij))] [] = .ok (.t (.int (ns.length : Nat))) [] := lenset_nd rfl nd Yf
 have ol : mApp oLen Yy [some (.t (.lst Yij))] [] = .ok (.t (.int (ns.length : Nat))) [] := zgh (a := .t (.lst Yij)) rfl (by rw [oLen_l, List.length_map])
 unfold B_are_unlike
 rw [zfm, p_andV, binP ol rfl (iGt_yes Yf), zao]
 simp only
 rw [binP (r := .ok (.t Yae) []) ls ol (by rw [ev_eqi]; simp)]
 rfl
theorem kinds_isB (b : Bool) {ks : List KR} {hp : IH} (nd : (ks.map (·.1)).Nodup) (h0 : 0 < ks.length) (hl : ks.length ≤ 1000) : zgn [.t (sqT b Ydj)] hp = .ok (.t Yae) hp := by
 let E : IS := [some (.t (sqT b Ydj)), none]
 refine zch (ts := [sqT b Ydj]) (eta := E) rfl rfl (h1 := []) ?_
 have sq : ∀ h : IH, zav [.t (sqT b Ydj)] h = .ok (.t Yae) h := fun h => seq_isq (b := b)
 have c1 : zba zay Ybd (gN 1) mYes zdb [1] E [] = .ok (.t (.lst (ks.map fun _ => T.bl true))) [] := by
  have q := comp_g (G := gN 1) (U := mYes) (E := zdb) (eta := E) (hp := []) (src := fun k : KR => W.t (knR k)) (loc := fun k => [some (.t (sqT b Ydj)), some (.t (knR k))]) (p := fun _ => true) (g := fun _ => T.bl true) ks Yau Yau Yiz
  rw [zc1] at q
  refine zef (ws := (ks.map knR).map W.t) (ys := (ks.map fun _ => T.bl true).map W.t) (h1 := []) (h2 := []) Yhk Yac ?_ (lst_ok Yac)
  rw [List.map_map]
  exact q
 have c2 : zba zay Ybd (gN 1) mYes zd1 [1] E [] = .ok (.t (.lst ((ks.map (·.1)).map T.str))) [] := by
  have q := comp_g (G := gN 1) (U := mYes) (E := zd1) (eta := E) (hp := []) (src := fun k : KR => W.t (knR k)) (loc := fun k => [some (.t (sqT b Ydj)), some (.t (knR k))]) (p := fun _ => true) (g := fun k => T.str k.1) ks Yau Yau Yiz
  rw [zc1] at q
  refine zef (ws := (ks.map knR).map W.t) (ys := (ks.map fun k => T.str k.1).map W.t) (h1 := []) (h2 := []) Yhk Yac ?_ Yjf
  rw [List.map_map]
  exact q
 unfold B_are_kinds
 refine za0 (e1 := E) (h1 := []) ?_ ?_
 ·have t1 : zah truW (zar zav [] Yy) E [] = .ok true [] := by rw [zci, zbh (ws := [.t (sqT b Ydj)]) rfl (sq [])]; rfl
  have t2 : zah truW (mApp oAll (zac (zba zay Ybd (gN 1) mYes zdb [1]) (mNil))) E [] = .ok true [] := by rw [zci, zgh c1 (bools_true (map_const ks _))]; rfl
  rw [if_no (h1 := []) (by
   rw [p_or, p_not, t1, zao, zao]
   simp only [Bool.not_true, Bool.false_eq_true, if_false]
   rw [p_not, t2, zao]
   rfl)]
  rfl
 rw [zfm, zbh (ws := [.t (.lst ((ks.map (·.1)).map T.str))]) (zbb c2 rfl) (unlike_is nd (by simpa using h0) Ygg)]
 rfl
theorem readers_isB (b : Bool) {rs : List RR} {hp : IH} (nd : (rs.map (·.1)).Nodup) (h0 : 0 < rs.length) (hl : rs.length ≤ 1000) : zek [.t (sqT b Ydk)] hp = .ok (.t Yae) hp := by
 let E : IS := [some (.t (sqT b Ydk)), none]
 refine zch (ts := [sqT b Ydk]) (eta := E) rfl rfl (h1 := []) ?_
 have sq : ∀ h : IH, zav [.t (sqT b Ydk)] h = .ok (.t Yae) h := fun h => seq_isq (b := b)
 have c1 : zba zay Ybd (gN 1) mYes zcj [1] E [] = .ok (.t (.lst (rs.map fun _ => T.bl true))) [] := by
  have q := comp_g (G := gN 1) (U := mYes) (E := zcj) (eta := E) (hp := []) (src := fun k : RR => W.t (rdR k)) (loc := fun k => [some (.t (sqT b Ydk)), some (.t (rdR k))]) (p := fun _ => true) (g := fun _ => T.bl true) rs Yau Yau Yiz
  rw [zc1] at q
  refine zef (ws := (rs.map rdR).map W.t) (ys := (rs.map fun _ => T.bl true).map W.t) (h1 := []) (h2 := []) Yhk Yac ?_ (lst_ok Yac)
  rw [List.map_map]
  exact q
 have c2 : zba zay Ybd (gN 1) mYes zdc [1] E [] = .ok (.t (.lst ((rs.map (·.1)).map T.str))) [] := by
  have q := comp_g (G := gN 1) (U := mYes) (E := zdc) (eta := E) (hp := []) (src := fun k : RR => W.t (rdR k)) (loc := fun k => [some (.t (sqT b Ydk)), some (.t (rdR k))]) (p := fun _ => true) (g := fun k => T.str k.1) rs Yau Yau Yiz
  rw [zc1] at q
  refine zef (ws := (rs.map rdR).map W.t) (ys := (rs.map fun k => T.str k.1).map W.t) (h1 := []) (h2 := []) Yhk Yac ?_ Yjf
  rw [List.map_map]
  exact q
 unfold B_are_readers
 refine za0 (e1 := E) (h1 := []) ?_ ?_
 ·have t1 : zah truW (zar zav [] Yy) E [] = .ok true [] := by rw [zci, zbh (ws := [.t (sqT b Ydk)]) rfl (sq [])]; rfl
  have t2 : zah truW (mApp oAll (zac (zba zay Ybd (gN 1) mYes zcj [1]) (mNil))) E [] = .ok true [] := by rw [zci, zgh c1 (bools_true (map_const rs _))]; rfl
  rw [if_no (h1 := []) (by
   rw [p_or, p_not, t1, zao, zao]
   simp only [Bool.not_true, Bool.false_eq_true, if_false]
   rw [p_not, t2, zao]
   rfl)]
  rfl
 rw [zfm, zbh (ws := [.t (.lst ((rs.map (·.1)).map T.str))]) (zbb c2 rfl) (unlike_is nd (by simpa using h0) Ygg)]
 rfl
abbrev OR := Str × Nat
def onR (o : OR) : T := oT2 o.1 (o.2 : Nat)
theorem isint' {i : Int} {hp : IH} : zbz [.t (.int i)] hp = .ok (.t Yae) hp := zch (ts := [.int i]) (eta := [some Ybf]) rfl rfl (h1 := []) rfl
theorem round_is {o : OR} {hp : IH} (hc : Nam o.1) (h2 : 2 ≤ o.2) : F_is_round [.t (onR o)] hp = .ok (.t Yae) hp := by
 refine zch (ts := [onR o]) (eta := [some (.t (onR o))]) rfl rfl (h1 := []) ?_
 have nn := hc.is
 have d : decide ((2 : Int) ≤ (o.2 : Nat)) = true := decide_eq_true Yf
 unfold B_is_round
 refine za0 (e1 := [some (.t (onR o))]) (h1 := []) ?_ ?_
 ·have t1 : zah truW (mApp Ybp (zac (mVar 0) Y0)) [some (.t (onR o))] [] = .ok true [] := rfl
  have t2 : zah asB (mBin Ya7 Yim Ybr) [some (.t (onR o))] [] = .ok false [] := rfl
  have t3 : zah truW (zar zb0 [] (zac Yis (mNil))) [some (.t (onR o))] [] = .ok true [] := by
   rw [zci, zbh (ws := [.t (.str o.1)]) (zbb (binP rfl rfl ev_ixt0) rfl) (nn [])]
   rfl
  rw [if_no (h1 := []) (by
   rw [p_or, p_not, t1, zao, zao]
   simp only [Bool.not_true, Bool.false_eq_true, if_false]
   rw [p_or, t2, zao]
   simp only [Bool.false_eq_true, if_false]
   rw [p_not, t3, zao]
   rfl)]
  rfl
 have i1 : mBin ixW (mVar 0) Yq [some (.t (onR o))] [] = .ok (.t (.int (o.2 : Nat))) [] := binP rfl rfl ev_ixt1
 have c1 : zar zbz [] (zac Ylp (mNil)) [some (.t (onR o))] [] = .ok (.t Yae) [] := zbh (ws := [.t (.int (o.2 : Nat))]) (zbb i1 rfl) isint'
 rw [zfm, p_andV, c1, zao]
 simp only
 rw [binP i1 rfl (by rw [iGe_ii, d])]
 rfl
theorem rounds_isB (b : Bool) {os : List OR} {hp : IH} (h : ∀ o ∈ os, Nam o.1 ∧ 2 ≤ o.2) (nd : (os.map (·.1)).Nodup) (hl : os.length ≤ 1000) : zfk [.t (sqT b Ybo)] hp = .ok (.t Yae) hp := by
 let E : IS := [some (.t (sqT b Ybo)), none, none, none]
 refine zch (ts := [sqT b Ybo]) (eta := E) rfl rfl (h1 := []) ?_
 have sq : ∀ h : IH, zav [.t (sqT b Ybo)] h = .ok (.t Yae) h := fun h => seq_isq (b := b)
 have c1 : zba zay Ybd (gN 1) mYes zct [1] E [] = .ok (.t (.lst (os.map fun _ => T.bl true))) [] := by
  have q := comp_g (G := gN 1) (U := mYes) (E := zct) (eta := E) (hp := []) (src := fun k : OR => W.t (onR k)) (loc := fun k => [some (.t (sqT b Ybo)), some (.t (onR k)), none, none]) (p := fun _ => true) (g := fun _ => T.bl true) os Yau Yau (fun o ho _ => zbh (ws := [.t (onR o)]) rfl (round_is (h o ho).1 (h o ho).2))
  rw [zc1] at q
  refine zef (ws := (os.map onR).map W.t) (ys := (os.map fun _ => T.bl true).map W.t) (h1 := []) (h2 := []) Yhk Yac ?_ (lst_ok Yac)
  rw [List.map_map]
  exact q
 have c2 : zba zay Ybd (gT 2 Ybj) mYes zcr [2, 3] E [] = .ok (.t (.lst ((os.map (·.1)).map T.str))) [] := by
  have q := comp_g (G := gT 2 Ybj) (U := mYes) (E := zcr) (eta := E) (hp := []) (src := fun k : OR => W.t (onR k)) (loc := fun k => [some (.t (sqT b Ybo)), none, some (.t (.str k.1)), some (.t (.int (k.2 : Nat)))]) (p := fun _ => true) (g := fun k => T.str k.1) os Yau Yau Yiz
  rw [zc1] at q
  refine zef (ws := (os.map onR).map W.t) (ys := (os.map fun k => T.str k.1).map W.t) (h1 := []) (h2 := []) Yhk Yac ?_ Yjf
  rw [List.map_map]
  exact q
 unfold B_are_rounds
 refine za0 (e1 := E) (h1 := []) ?_ ?_
 ·have t1 : zah truW (zar zav [] Yy) E [] = .ok true [] := by rw [zci, zbh (ws := [.t (sqT b Ybo)]) rfl (sq [])]; rfl
  have t2 : zah truW (mApp oAll (zac (zba zay Ybd (gN 1) mYes zct [1]) (mNil))) E [] = .ok true [] := by rw [zci, zgh c1 (bools_true (map_const os _))]; rfl
  rw [if_no (h1 := []) (by
   rw [p_or, p_not, t1, zao, zao]
   simp only [Bool.not_true, Bool.false_eq_true, if_false]
   rw [p_not, t2, zao]
   rfl)]
  rfl
 have ls := lenset_nd (F := zba zay Ybd (gT 2 Ybj) mYes zcr [2, 3]) (eta := E) (hp := []) (h1 := []) c2 nd (by simpa using Nat.le_trans hl Yf)
 have ol : mApp oLen Yy E [] = .ok (.t (.int (os.length : Nat))) [] := zgh (a := .t (sqT b Ybo)) rfl (by cases b <;> simp [sqT])
 rw [zfm, binP (r := .ok (.t Yae) []) ls ol (by rw [ev_eqi]; simp)]
 rfl
/-- a design -/
def dsgR (ks : List KR) (rs : List RR) (os : List OR) : T := .ins "Design" ["kinds", "readers", "rounds"] [.tup Ydj, .tup Ydk, .tup Ybo]
structure DR (ks : List KR) (rs : List RR) (os : List OR) : Prop where
 kn : (ks.map (·.1)).Nodup
 k0 : 0 < ks.length
 kl : ks.length ≤ 100
 rn : (rs.map (·.1)).Nodup
 r0 : 0 < rs.length
 rl : rs.length ≤ 100
 oo : ∀ o ∈ os, Nam o.1 ∧ 2 ≤ o.2
 on : (os.map (·.1)).Nodup
 ol : os.length ≤ 100
 so : ∀ hp, oSortR [.t (.lst Ybo)] hp = .ok (.t (.lst Ybo)) hp
theorem tup_sq (b : Bool) {ts : List T} {hp : IH} : oTup [.t (sqT b ts)] hp = .ok Yaq hp := by
 cases b
 ·exact oTup_l
 ·exact oTup_t
theorem design_initB (b1 b2 b3 : Bool) {ks : List KR} {rs : List RR} {os : List OR} {hp : IH} {i : Nat} (hi : hp[i]? = some (some (.ins "Design" []))) (D : DR ks rs os) (so3 : ∀ hp, oSortQ [.t (sqT b3 Ybo)] hp = .ok (.t (.lst Ybo)) hp) :
  zcz [.r i, .t (sqT b1 Ydj), .t (sqT b2 Ydk), .t (sqT b3 Ybo)] hp = .ok Ya0 Yfx := by
 have il : i < hp.length := (List.getElem?_eq_some_iff.mp hi).1
 let E : IS := [some (.r i), some (.t (sqT b1 Ydj)), some (.t (sqT b2 Ydk)), some (.t (sqT b3 Ybo))]
 refine fnX_nx (e := E) (eta := E) rfl rfl ?_
 unfold B_Design_init
 have no : ∀ (F : OpN) (j : Nat) (t : T), E[j]? = some (some (.t t)) → F [.t t] hp = .ok (.t Yae) hp → (mIf (mNot (zah truW (zar F [] (zac (mVar j) (mNil))))) (mBad) (za8)) E hp = .ok (.nx E) hp := fun F j t h q => by
  rw [if_no (h1 := hp) (by rw [p_not, zci, zbh (ws := [.t t]) (zbb (varP h) rfl) q]; rfl)]
  rfl
 refine za0 (e1 := E) (h1 := hp) (no _ 1 _ rfl (kinds_isB b1 D.kn D.k0 (by have := D.kl; omega))) ?_
 refine za0 (e1 := E) (h1 := hp) (no _ 2 _ rfl (readers_isB b2 D.rn D.r0 (by have := D.rl; omega))) ?_
 refine za0 (e1 := E) (h1 := hp) (no _ 3 _ rfl (rounds_isB b3 D.oo D.on (by have := D.ol; omega))) ?_
 refine za0 (zdp (c := "Design") (h1 := hp) (v := .t (.tup Ydj)) (zgh (a := .t (sqT b1 Ydj)) rfl (tup_sq b1)) rfl hi Yct Yct) ?_
 refine za0 (zdp (c := "Design") (v := .t (.tup Ydk)) (zgh (a := .t (sqT b2 Ydk)) rfl (tup_sq b2)) rfl (set_at il) Yct Yb0) ?_
 rw [set_set]
 have so : mApp oSortQ Yr E Ygf = .ok (.t (.lst Ybo)) Ygf := zgh (a := .t (sqT b3 Ybo)) rfl (so3 _)
 refine (zdp (c := "Design") (v := .t (.tup Ybo)) (zgh so oTup_l) rfl (set_at il) Yct Yb0).trans ?_
 rw [set_set]
 rfl
theorem design_init {ks : List KR} {rs : List RR} {os : List OR} {hp : IH} {i : Nat} (hi : hp[i]? = some (some (.ins "Design" []))) (D : DR ks rs os) :
  zcz [.r i, .t (.lst Ydj), .t (.lst Ydk), .t (.lst Ybo)] hp = .ok Ya0 Yfx := design_initB false false false hi D D.so
end
abbrev KP := Str × List Deed
abbrev RP := Str × List Deed × List Chk
theorem nam_c : Nam "c" := nam_ok Yg
theorem nam_e : Nam "e" := nam_ok Yg
section
open TL
theorem join_no {c : Nat} {s : Str} (hs : c ∉ tl s) : ∀ {ps : List Str}, (∀ p ∈ ps, c ∉ tl p) → c ∉ tl (Txt.join s ps)
 | [], _ => by rw [join_nil, show tl ("" : Str) = [] by decide +kernel]; simp
 | [p], h => by rw [zdu]; exact h p Yaw
 | p :: q :: r, h => by
  have ih := join_no hs (ps := q :: r) fun x hx => h x Yat
  rw [zcl, tl_append, tl_append, List.mem_append, List.mem_append]
  rintro ((m | m) | m)
  ·exact h p Yv m
  ·exact hs m
  ·exact ih m
def lnO (o : OR) : Str := rndTx o.1 o.2
def lnK (k : KP) : Str := zgi k.1 k.2
def lnR (r : RP) : Str := if r.2.2 = [] then rdrTx r.1 r.2.1 else rdrTxC r.1 r.2.1 (r.2.2.map zde)
def textS (ks : List KP) (rs : List RP) (os : List OR) : Str := Txt.join "\n" (os.map lnO ++ (ks.map lnK ++ rs.map lnR))
theorem steps_no {c : Nat} {ds : List Deed} {ws : List Str} (ok : ∀ d ∈ ds, DOk ws d) (h : c < 32) : c ∉ tl (zbm ds) := by
 have c1 : ∀ x ∈ tl (", " : Str), 32 ≤ x := by decide +kernel
 refine join_no (fun m => by have := c1 c m; omega) fun p hp => ?_
 obtain ⟨d, hd, rfl⟩ := List.mem_map.mp hp
 have o := ok d hd
 unfold dTx
 rw [tl_append, tl_append, tl_sp]
 simp only [List.mem_append, List.mem_singleton, not_or]
 exact ⟨⟨o.w.no Yf, by omega⟩, o.n.no Yf⟩
theorem chkTx_fr {c : Nat} {k : Chk} (h : c < 32) : c ∉ tl (zde k) := by
 have s1 : ∀ x ∈ tl ("same" : Str), 97 ≤ x := by decide +kernel
 have s2 : ∀ x ∈ tl ("even" : Str), 97 ≤ x := by decide +kernel
 refine join_no (by rw [tl_sp]; simp; omega) fun p hp => ?_
 cases k <;> simp only [chkP, List.mem_cons, List.not_mem_nil, or_false] at hp
 ·rcases hp with rfl | rfl | rfl
  ·exact fun m => by have := s1 c m; omega
  ·exact num_no Yf
  ·exact num_no Yf
 ·rcases hp with rfl | rfl
  ·exact fun m => by have := s2 c m; omega
  ·exact num_no Yf
theorem lnK_no {k : KP} (h : KOk k.1 k.2) : 10 ∉ tl (lnK k) := by
 have a : 10 ∉ tl ("kind " : Str) := by decide +kernel
 have b : 10 ∉ tl (": " : Str) := by decide +kernel
 unfold lnK zgi
 rw [tl_append, tl_append, tl_append]
 simp only [List.mem_append, not_or]
 exact ⟨⟨⟨a, h.n.no Yf⟩, b⟩, steps_no h.ok Yf⟩
theorem lnR_no {r : RP} (h : ROk r.1 r.2.1) : 10 ∉ tl (lnR r) := by
 have a : 10 ∉ tl ("reader " : Str) := by decide +kernel
 have b : 10 ∉ tl (": " : Str) := by decide +kernel
 have c : 10 ∉ tl (" if " : Str) := by decide +kernel
 have d : 10 ∉ tl (", " : Str) := by decide +kernel
 unfold lnR
 split
 ·unfold rdrTx
  rw [tl_append, tl_append, tl_append]
  simp only [List.mem_append, not_or]
  exact ⟨⟨⟨a, h.n.no Yf⟩, b⟩, steps_no h.ok Yf⟩
 ·unfold rdrTxC
  rw [tl_append, tl_append, tl_append, tl_append, tl_append]
  simp only [List.mem_append, not_or]
  exact ⟨⟨⟨a, h.n.no Yf⟩, b⟩, ⟨steps_no h.ok Yf, c⟩, join_no d fun p hp => by
   obtain ⟨k, _, rfl⟩ := List.mem_map.mp hp
   exact chkTx_fr Yf⟩
theorem lnO_no {o : OR} (h : Nam o.1) : 10 ∉ tl (lnO o) := rndTx_no (s := 10) h (.inl Yf) Yf
theorem lnK_len {k : KP} (h : KOk k.1 k.2) : (lnK k).length ≤ 20000 := kndTx_len h
theorem lnR_len {r : RP} (h : ROk r.1 r.2.1) (hc : ∀ c ∈ r.2.2, (zde c).length ≤ 30) (hl : r.2.2.length ≤ 10) : (lnR r).length ≤ 21000 := by
 have il : (" if " : Str).length = 4 := by decide +kernel
 have a := zfw h.ok
 have b := h.n.ln
 have c := h.hl
 unfold lnR
 split
 ·unfold rdrTx
  rw [za3, za3, za3, rd_len, cs_len]
  omega
 ·have j := join_len (s := ", ") (k := 30) (ps := r.2.2.map zde) fun p hp => by
   obtain ⟨k, hk, rfl⟩ := List.mem_map.mp hp
   exact hc k hk
  rw [List.length_map, cm_len] at j
  unfold rdrTxC
  rw [za3, za3, za3, za3, za3, rd_len, cs_len, il]
  omega
structure RPk (r : RP) : Prop where
 k : ROk r.1 r.2.1
 l : r.2.1.length ≤ 10
 c : ∀ c ∈ r.2.2, chkOk r.2.1 c
 n : r.2.2.length ≤ 4
theorem nl_len : ("\n" : Str).length = 1 := by decide +kernel
end
section
open TL
theorem sub_ce {ns : List Str} (h : ns.Sublist Yf7) : ns = [] ∨ ns = (["c"] : List Str) ∨ ns = (["e"] : List Str) ∨ ns = (["c", "e"] : List Str) := by
 cases h with
 | cons _ h =>
  cases h with
  | cons _ h => exact .inl (List.sublist_nil.mp h)
  | cons_cons _ h => rw [List.sublist_nil.mp h]; exact .inr (.inr (.inl rfl))
 | cons_cons _ h =>
  cases h with
  | cons _ h => rw [List.sublist_nil.mp h]; exact .inr (.inl rfl)
  | cons_cons _ h => rw [List.sublist_nil.mp h]; exact .inr (.inr (.inr rfl))
theorem ce_nd {ns : List Str} (h : ns.Sublist Yf7) : ns.Nodup := List.Nodup.sublist h Yg
theorem ce_nam {ns : List Str} (h : ns.Sublist Yf7) : ∀ x ∈ ns, Nam x := fun x hx => by
 have := h.subset hx
 simp only [List.mem_cons, List.not_mem_nil, or_false] at this
 rcases this with rfl | rfl
 ·exact nam_c
 ·exact nam_e
theorem ce_len {ns : List Str} (h : ns.Sublist Yf7) : ns.length ≤ 2 := h.length_le
structure PlanF (ks : List KP) (rs : List RP) (os : List OR) : Prop where
 k : ∀ k ∈ ks, KOk k.1 k.2
 kl : ks.length ≤ 3
 r : ∀ r ∈ rs, RPk r
 rl : rs.length ≤ 3
 on : (os.map (·.1)).Sublist Yf7
 ov : ∀ o ∈ os, 2 ≤ o.2 ∧ o.2 ≤ 9
 kn : (ks.map (·.1)).Nodup
 rn : (rs.map (·.1)).Nodup
 k0 : 0 < ks.length
 r0 : 0 < rs.length
 cn : ∀ r ∈ rs, r.2.2.Nodup
 k5 : ∀ k ∈ ks, k.2.length ≤ 6
 r5 : ∀ r ∈ rs, r.2.1.length ≤ 10
theorem ln_len {ks : List KP} {rs : List RP} {os : List OR} (F : PlanF ks rs os) : ∀ x ∈ os.map lnO ++ (ks.map lnK ++ rs.map lnR), x.length ≤ 21000 := fun x hx => by
 simp only [List.mem_append, List.mem_map] at hx
 rcases hx with ⟨o, ho, rfl⟩ | ⟨k, hk, rfl⟩ | ⟨r, hr, rfl⟩
 ·have := rndTx_len (n := o.2) Yi4 (by have := F.ov o ho; omega)
  unfold lnO
  omega
 ·have := lnK_len (F.k k hk)
  omega
 ·have R := F.r r hr
  exact lnR_len R.k (fun c hc => by have := chkTx_len (R.c c hc) R.l; omega) (by have := R.n; omega)
theorem ln_num {ks : List KP} {rs : List RP} {os : List OR} (F : PlanF ks rs os) : (os.map lnO ++ (ks.map lnK ++ rs.map lnR)).length ≤ 8 := by
 have a := ce_len F.on
 have b := F.kl
 have c := F.rl
 rw [List.length_map] at a
 simp only [List.length_append, List.length_map]
 omega
def krK (k : KP) : KR := (k.1, .tup (k.2.map fun d => .str (dTx d)), .tup (k.2.map dTr))
def rrR (r : RP) : RR := (r.1, .tup (r.2.1.map fun d => .str (dTx d)), .tup ((r.2.2.map zde).map T.str), .tup (r.2.1.map dTr), .tup (r.2.2.map chkT))
def dsgP (ks : List KP) (rs : List RP) (os : List OR) : T := dsgR (ks.map krK) (rs.map rrR) os
theorem chk_ne {cs : List Chk} (h : cs ≠ []) : Txt.join ", " (cs.map zde) ≠ "" := fun e => by
 have l : ∀ c : Chk, 0 < (zde c).length := fun c => by
  have s1 : ("same" : Str).length = 4 := by decide +kernel
  have s2 : ("even" : Str).length = 4 := by decide +kernel
  cases c <;> simp only [zde, chkP, zcl, zdu, za3] <;> omega
 have el := congrArg Str.length e
 rw [show ("" : Str).length = 0 by decide +kernel] at el
 match cs, h with
 | [c], _ =>
  rw [List.map_cons, List.map_nil, zdu] at el
  have := l c
  omega
 | c :: d :: r, _ =>
  rw [List.map_cons, List.map_cons, zcl, za3, za3] at el
  have := l c
  omega
theorem rline_r {r : RP} (R : RPk r) (nd : r.2.2.Nodup) : RLine (lnR r) (rrR r).1 (rrR r).2.1 (rrR r).2.2.1 (rrR r).2.2.2.1 (rrR r).2.2.2.2 := by
 have sl := zfw R.k.ok
 have hl := R.k.hl
 unfold lnR
 split
 ·rename_i c
  have := reader_read0 (hp := []) R.k
  unfold rrR
  rw [c]
  exact rline_of R.k.n Yf this
 ·rename_i c
  have il : (" if " : Str).length = 4 := by decide +kernel
  have j := join_len (s := ", ") (k := 30) (ps := r.2.2.map zde) fun p hp => by
   obtain ⟨k, hk, rfl⟩ := List.mem_map.mp hp
   have := chkTx_len (R.c k hk) R.l
   omega
  have rn := R.n
  rw [List.length_map, cm_len] at j
  have := reader_readC (cs := r.2.2.map zde) (ts := r.2.2.map chkT) (hp := []) R.k (by simpa using c) (fun p hp => by
   obtain ⟨k, hk, rfl⟩ := List.mem_map.mp hp
   exact ⟨chkTx_no Yf Yf, by have := chkTx_len (R.c k hk) R.l; omega⟩) (chk_ne c) Yli (fun hp => tests_is (b := false) R.c nd R.n R.l)
  exact rline_of R.k.n (by rw [za3, za3, il]; omega) this
theorem sort_os {os : List OR} (h : (os.map (·.1)).Sublist Yf7) {hp : IH} : oSortR [.t (.lst Ybo)] hp = .ok (.t (.lst Ybo)) hp := by
 have lt : ltCps (Str.ofString "c").cps.toList (Str.ofString "e").cps.toList = true := by decide +kernel
 have ne : Str.ofString "c" ≠ Str.ofString "e" := by decide +kernel
 match os, sub_ce h with
 | [], _ => rfl
 | [o], _ => rfl
 | [(a, x), (b, y)], c =>
  simp only [List.map_cons, List.map_nil, List.cons.injEq, reduceCtorEq, and_true, and_false, false_or, or_false] at c
  obtain ⟨rfl, rfl⟩ := c
  simp only [oSortR, List.map_cons, List.map_nil, onR, siT, ne, ne_eq, not_false_eq_true, if_true, lt]
 | _ :: _ :: _ :: _, c => simp at c
end
section
structure RdAt (h0 : IH) (k : Nat) (os ks rs : List W) (h : IH) : Prop where
 a : getL h k = some os
 b : getL h (k + 1) = some ks
 c : getL h (k + 2) = some rs
 t : h[k + 3]? = some (some Ydv)
 u : ∀ j, j < k → h[j]? = h0[j]?
theorem gl_ne {h : IH} {a b : Nat} {x : Option Cell} (n : a ≠ b) : getL (h.set a x) b = getL h b := by
 unfold getL
 rw [List.getElem?_set_ne n]
variable {h0 : IH} {k : Nat} {os ks rs : List W} {h : IH}
theorem RdAt.oo (g : RdAt h0 k os ks rs h) (w : W) : RdAt h0 k (os ++ [w]) ks rs (h.set k (some (.lst (os ++ [w])))) := ⟨by rw [zeq (getL_lt g.a)], by rw [gl_ne Yf]; exact g.b, by rw [gl_ne Yf]; exact g.c, by rw [List.getElem?_set_ne Yf]; exact g.t, fun j hj => by rw [List.getElem?_set_ne Yf]; exact g.u j hj⟩
theorem RdAt.kk (g : RdAt h0 k os ks rs h) (w : W) : RdAt h0 k os (ks ++ [w]) rs (h.set (k + 1) (some (.lst (ks ++ [w])))) := ⟨by rw [gl_ne Yf]; exact g.a, by rw [zeq (getL_lt g.b)], by rw [gl_ne Yf]; exact g.c, by rw [List.getElem?_set_ne Yf]; exact g.t, fun j hj => by rw [List.getElem?_set_ne Yf]; exact g.u j hj⟩
theorem RdAt.rr (g : RdAt h0 k os ks rs h) (w : W) : RdAt h0 k os ks (rs ++ [w]) (h.set (k + 2) (some (.lst (rs ++ [w])))) := ⟨by rw [gl_ne Yf]; exact g.a, by rw [gl_ne Yf]; exact g.b, by rw [zeq (getL_lt g.c)], by rw [List.getElem?_set_ne Yf]; exact g.t, fun j hj => by rw [List.getElem?_set_ne Yf]; exact g.u j hj⟩
theorem RdAt.ix {s : Nat} (g : RdAt h0 k os ks rs h) (hs : s = 0 ∨ s = 1 ∨ s = 2) : zf5 Ycm (.t (.int (s : Nat))) h = .ok (.r (k + s)) h := by
 unfold zf5
 simp only [g.t]
 rcases hs with rfl | rfl | rfl <;> rfl
theorem oline_g {line c' : Str} {n : Int} {c tx at_ c6 c7 c8 : Option W} (hk : os.length < 1000) (K : OLine line c' n) (g : RdAt h0 k os ks rs h) :
  ∃ (d6 d7 : Option W) (h' : IH), zax [c, tx, some Ycm, some Ycn, at_, some (.t Y1), c6, c7, c8] h = .ok (.nx [c, tx, some Ycm, some Ycn, at_, some (.t Y1), d6, d7, c8]) h' ∧ RdAt h0 k (os ++ [.t (oT2 c' n)]) ks rs h' := by
 obtain ⟨h1, h2, h3⟩ := K
 refine ⟨some Ygw, some (.t (.lst [.int 0])), h.set k (some (.lst (os ++ [.t (oT2 c' n)]))), ?_, g.oo _⟩
 have app : zec (.r k) [.t (oT2 c' n)] h = .ok Ya0 (h.set k (some (.lst (os ++ [.t (oT2 c' n)])))) := app_at' g.a hk
 have e1 : zaw [.t (oT2 c' n), .t .non, .t .non] h = .ok Ygw h := rfl
 have e2 : zba zay Yfi (gN 8) zby zbx [8] [c, tx, some Ycm, some Ycn, at_, some (.t Y1), some Ygw, c7, c8] h = .ok (.t (.lst [.int 0])) h := rfl
 have e3 : oLen [.t (.lst [.int 0])] h = .ok Ye2 h := rfl
 have e4 : eqW false Ye2 Ycn h = .ok (.t Yo) h := rfl
 have e5 : ixW (.t (.lst [.int 0])) Ycn h = .ok Ycn h := rfl
 have e6 : zf5 Ycm Ycn h = .ok (.r k) h := g.ix (s := 0) Yaw
 have e7 : isL (.r k) h = true := by rw [isL_r, g.a]; rfl
 have e8 : ixW Ygw Ycn h = .ok (.t (oT2 c' n)) h := rfl
 unfold zax
 simp only [p_seq, p_set, p_app, p_cons, p_call, p_nil, p_var, p_c, p_bin, p_if, zci, p_meth, p_drop, p_skip, List.getElem?_cons_succ, List.getElem?_cons_zero, zao, List.map_nil, List.append_nil, h1, h2, h3, zc7, then_nx, List.set_cons_succ, List.set_cons_zero, e1, e2, e3, e4, e5, e6, e7, e8, app, asB_bl, Bool.false_eq_true, if_false, if_true]
theorem kline_g {line n : Str} {s d : T} {p : Nat} (hp : p = 0 ∨ p = 1) {c tx at_ c6 c7 c8 : Option W} (hk : ks.length < 1000) (K : KLine line n s d) (g : RdAt h0 k os ks rs h) :
  ∃ (d6 d7 : Option W) (h' : IH), zax [c, tx, some Ycm, some (.t (.int p)), at_, some (.t Y1), c6, c7, c8] h = .ok (.nx [c, tx, some Ycm, some Ye2, at_, some (.t Y1), d6, d7, c8]) h' ∧ RdAt h0 k os (ks ++ [.t (kT3 n s d)]) rs h' := by
 obtain ⟨h1, h2, h3⟩ := K
 refine ⟨some Ygl, some (.t (.lst [.int 1])), h.set (k + 1) (some (.lst (ks ++ [.t (kT3 n s d)]))), ?_, g.kk _⟩
 have app : zec (.r (k + 1)) [.t (kT3 n s d)] h = .ok Ya0 (h.set (k + 1) (some (.lst (ks ++ [.t (kT3 n s d)])))) := app_at' g.b hk
 have e1 : zaw [.t .non, .t (kT3 n s d), .t .non] h = .ok Ygl h := rfl
 have e2 : zba zay Yfi (gN 8) zby zbx [8] [c, tx, some Ycm, some (.t (.int p)), at_, some (.t Y1), some Ygl, c7, c8] h = .ok (.t (.lst [.int 1])) h := by rcases hp with rfl | rfl <;> rfl
 have e3 : oLen [.t (.lst [.int 1])] h = .ok Ye2 h := rfl
 have e4 : eqW false Ye2 Ycn h = .ok (.t Yo) h := rfl
 have e5 : ixW (.t (.lst [.int 1])) Ycn h = .ok Ye2 h := rfl
 have e6 : zf5 Ycm Ye2 h = .ok (.r (k + 1)) h := g.ix (s := 1) Yaw
 have e7 : isL (.r (k + 1)) h = true := by rw [isL_r, g.b]; rfl
 have e8 : ixW Ygl Ye2 h = .ok (.t (kT3 n s d)) h := rfl
 unfold zax
 simp only [p_seq, p_set, p_app, p_cons, p_call, p_nil, p_var, p_c, p_bin, p_if, zci, p_meth, p_drop, p_skip, List.getElem?_cons_succ, List.getElem?_cons_zero, zao, List.map_nil, List.append_nil, h1, h2, h3, zc7, then_nx, List.set_cons_succ, List.set_cons_zero, e1, e2, e3, e4, e5, e6, e7, e8, app, asB_bl, Bool.false_eq_true, if_false, if_true]
theorem rline_g {line n : Str} {s1 s2 d t : T} {p : Nat} (hp : p = 0 ∨ p = 1 ∨ p = 2) {c tx at_ c6 c7 c8 : Option W} (hk : rs.length < 1000) (K : RLine line n s1 s2 d t) (g : RdAt h0 k os ks rs h) :
  ∃ (d6 d7 : Option W) (h' : IH), zax [c, tx, some Ycm, some (.t (.int p)), at_, some (.t Y1), c6, c7, c8] h = .ok (.nx [c, tx, some Ycm, some (.t (.int 2)), at_, some (.t Y1), d6, d7, c8]) h' ∧ RdAt h0 k os ks (rs ++ [.t Yge]) h' := by
 obtain ⟨h1, h2, h3⟩ := K
 refine ⟨some Yet, some (.t (.lst [.int 2])), h.set (k + 2) (some (.lst (rs ++ [.t Yge]))), ?_, g.rr _⟩
 have app : zec (.r (k + 2)) [.t Yge] h = .ok Ya0 (h.set (k + 2) (some (.lst (rs ++ [.t Yge])))) := app_at' g.c hk
 have e1 : zaw [.t .non, .t .non, .t Yge] h = .ok Yet h := rfl
 have e2 : zba zay Yfi (gN 8) zby zbx [8] [c, tx, some Ycm, some (.t (.int p)), at_, some (.t Y1), some Yet, c7, c8] h = .ok (.t (.lst [.int 2])) h := by rcases hp with rfl | rfl | rfl <;> rfl
 have e3 : oLen [.t (.lst [.int 2])] h = .ok Ye2 h := rfl
 have e4 : eqW false Ye2 Ycn h = .ok (.t Yo) h := rfl
 have e5 : ixW (.t (.lst [.int 2])) Ycn h = .ok (.t (.int 2)) h := rfl
 have e6 : zf5 Ycm (.t (.int 2)) h = .ok (.r (k + 2)) h := g.ix (s := 2) Yaw
 have e7 : isL (.r (k + 2)) h = true := by rw [isL_r, g.c]; rfl
 have e8 : ixW Yet (.t (.int 2)) h = .ok (.t Yge) h := rfl
 unfold zax
 simp only [p_seq, p_set, p_app, p_cons, p_call, p_nil, p_var, p_c, p_bin, p_if, zci, p_meth, p_drop, p_skip, List.getElem?_cons_succ, List.getElem?_cons_zero, zao, List.map_nil, List.append_nil, h1, h2, h3, zc7, then_nx, List.set_cons_succ, List.set_cons_zero, e1, e2, e3, e4, e5, e6, e7, e8, app, asB_bl, Bool.false_eq_true, if_false, if_true]
abbrev eRg (k : Nat) (c tx : Option W) (p : Nat) (c4 c5 c6 c7 c8 : Option W) : IS := [c, tx, some Ycm, some (.t (.int p)), c4, c5, c6, c7, c8]
theorem olines_g {c tx c8 : Option W} {ks rs : List W} : ∀ (ls : List (Str × Str × Int)) (at_ : Nat) (os : List W) (c4 c5 c6 c7 : Option W) (h : IH), os.length + ls.length < 1000 → (∀ l ∈ ls, OLine l.1 l.2.1 l.2.2) → RdAt h0 k os ks rs h →
  ∃ (d4 d5 d6 d7 : Option W) (h' : IH), RdAt h0 k (os ++ (ls.map fun l => .t (oT2 l.2.1 l.2.2))) ks rs h' ∧ ∀ rest : List T, forL gE zax (zga at_ (ls.map (fun l => .str l.1) ++ rest)) (eRg k c tx 0 c4 c5 c6 c7 c8) h = forL gE zax (zga (at_ + ls.length) rest) (eRg k c tx 0 d4 d5 d6 d7 c8) h'
 | [], at_, os, c4, c5, c6, c7, h, _, _, g => ⟨c4, c5, c6, c7, h, by simpa using g, fun rest => by simp⟩
 | l :: ls, at_, os, c4, c5, c6, c7, h, hl, hh, g => by
  simp only [List.length_cons] at hl
  obtain ⟨d6, d7, h1, q, g1⟩ := oline_g (c := c) (tx := tx) (at_ := some Ych) (c6 := c6) (c7 := c7) (c8 := c8) Yf (hh l Yv) g
  obtain ⟨e4, e5, e6, e7, h2, g2, z⟩ := olines_g (c := c) (tx := tx) (c8 := c8) (ks := ks) (rs := rs) ls (at_ + 1) (os ++ [.t (oT2 l.2.1 l.2.2)]) (some Ych) Ygq d6 d7 h1 Yac (fun x hx => hh x Yat) g1
  refine ⟨e4, e5, e6, e7, h2, by simpa using g2, fun rest => ?_⟩
  rw [List.map_cons, List.cons_append]
  refine (for_go (eta1 := eRg k c tx 0 (some Ych) Ygq c6 c7 c8) rfl q).trans ?_
  refine (z rest).trans ?_
  simp [Nat.add_assoc, Nat.add_comm 1]
theorem klines_g {c tx c8 : Option W} {os rs : List W} : ∀ (ls : List (Str × Str × T × T)) (at_ p : Nat) (ks : List W) (c4 c5 c6 c7 : Option W) (h : IH), p = 0 ∨ p = 1 → ks.length + ls.length < 1000 → (∀ l ∈ ls, KLine l.1 l.2.1 l.2.2.1 l.2.2.2) → RdAt h0 k os ks rs h →
  ∃ (p' : Nat) (d4 d5 d6 d7 : Option W) (h' : IH), (p' = 0 ∨ p' = 1) ∧ RdAt h0 k os (ks ++ (ls.map fun l => .t Yjg)) rs h' ∧ ∀ rest : List T, forL gE zax (zga at_ (ls.map (fun l => .str l.1) ++ rest)) (eRg k c tx p c4 c5 c6 c7 c8) h = forL gE zax (zga (at_ + ls.length) rest) (eRg k c tx p' d4 d5 d6 d7 c8) h'
 | [], at_, p, ks, c4, c5, c6, c7, h, hp, _, _, g => ⟨p, c4, c5, c6, c7, h, hp, by simpa using g, fun rest => by simp⟩
 | l :: ls, at_, p, ks, c4, c5, c6, c7, h, hp, hl, hh, g => by
  simp only [List.length_cons] at hl
  obtain ⟨d6, d7, h1, q, g1⟩ := kline_g hp (c := c) (tx := tx) (at_ := some Ych) (c6 := c6) (c7 := c7) (c8 := c8) Yf (hh l Yv) g
  obtain ⟨p', e4, e5, e6, e7, h2, hp', g2, z⟩ := klines_g (c := c) (tx := tx) (c8 := c8) (os := os) (rs := rs) ls (at_ + 1) 1 (ks ++ [.t Yjg]) (some Ych) Ygq d6 d7 h1 (.inr rfl) Yac (fun x hx => hh x Yat) g1
  refine ⟨p', e4, e5, e6, e7, h2, hp', by simpa using g2, fun rest => ?_⟩
  rw [List.map_cons, List.cons_append]
  refine (for_go (eta1 := eRg k c tx p (some Ych) Ygq c6 c7 c8) rfl q).trans ?_
  refine (z rest).trans ?_
  simp [Nat.add_assoc, Nat.add_comm 1]
theorem rlines_g {c tx c8 : Option W} {os ks : List W} : ∀ (ls : List (Str × Str × T × T × T × T)) (at_ p : Nat) (rs : List W) (c4 c5 c6 c7 : Option W) (h : IH), p = 0 ∨ p = 1 ∨ p = 2 → rs.length + ls.length < 1000 → (∀ l ∈ ls, RLine l.1 l.2.1 l.2.2.1 l.2.2.2.1 l.2.2.2.2.1 l.2.2.2.2.2) → RdAt h0 k os ks rs h →
  ∃ (p' : Nat) (d4 d5 d6 d7 : Option W) (h' : IH), forL gE zax (zga at_ (ls.map (fun l => .str l.1))) (eRg k c tx p c4 c5 c6 c7 c8) h = .ok (.nx (eRg k c tx p' d4 d5 d6 d7 c8)) h' ∧ RdAt h0 k os ks (rs ++ (ls.map fun l => .t Yf8)) h'
 | [], at_, p, rs, c4, c5, c6, c7, h, hp, _, _, g => ⟨p, c4, c5, c6, c7, h, by simp [zga, forL], by simpa using g⟩
 | l :: ls, at_, p, rs, c4, c5, c6, c7, h, hp, hl, hh, g => by
  simp only [List.length_cons] at hl
  obtain ⟨d6, d7, h1, q, g1⟩ := rline_g hp (c := c) (tx := tx) (at_ := some Ych) (c6 := c6) (c7 := c7) (c8 := c8) Yf (hh l Yv) g
  obtain ⟨p', e4, e5, e6, e7, h2, z, g2⟩ := rlines_g (c := c) (tx := tx) (c8 := c8) (os := os) (ks := ks) ls (at_ + 1) 2 (rs ++ [.t Yf8]) (some Ych) Ygq d6 d7 h1 (.inr (.inr rfl)) Yac (fun x hx => hh x Yat) g1
  refine ⟨p', e4, e5, e6, e7, h2, ?_, by simpa using g2⟩
  rw [List.map_cons]
  exact (for_go (eta1 := eRg k c tx p (some Ych) Ygq c6 c7 c8) rfl q).trans z
theorem readg_is {tx : Str} {ks : List (Str × KR)} {rs : List (Str × RR)} {os : List (Str × OR)} (hp : IH) (hs : Txt.split tx "\n" = os.map (·.1) ++ (ks.map (·.1) ++ rs.map (·.1))) (hl : tx.length + 2 ≤ 16777216)
  (K : ∀ l ∈ ks, KLine l.1 l.2.1 l.2.2.1 l.2.2.2) (R : ∀ l ∈ rs, RLine l.1 l.2.1 l.2.2.1 l.2.2.2.1 l.2.2.2.2.1 l.2.2.2.2.2) (O : ∀ l ∈ os, OLine l.1 l.2.1 (l.2.2 : Nat)) (D : DR (ks.map (·.2)) (rs.map (·.2)) (os.map (·.2))) :
  ∃ h', zbj [.t Ybl, .t (.str tx)] hp = .ok (.t (dsgR (ks.map (·.2)) (rs.map (·.2)) (os.map (·.2)))) h' ∧ ∀ j, j < hp.length → h'[j]? = hp[j]? := by
 have kl : ks.length ≤ 100 := by simpa using D.kl
 have rl : rs.length ≤ 100 := by simpa using D.rl
 have ol : os.length ≤ 100 := by simpa using D.ol
 let k : Nat := hp.length
 let S0 : IH := hp ++ [some Yho, some Yho, some Yho, some Ydv]
 have g0 : RdAt hp k [] [] [] S0 := ⟨by simp [getL, S0, k], by simp [getL, S0, k], by simp [getL, S0, k], by simp [S0, k], fun j hj => List.getElem?_append_left hj⟩
 obtain ⟨a4, a5, a6, a7, s1, g1, q1⟩ := olines_g (c := some (.t Ybl)) (tx := some Yhf) (c8 := none) (ks := []) (rs := []) (os.map fun l => (l.1, l.2.1, Yfe)) 0 [] none none none none S0 Yac (fun l hl => by
  obtain ⟨o, ho, rfl⟩ := List.mem_map.mp hl
  exact O o ho) g0
 obtain ⟨p1, b4, b5, b6, b7, s2, hp1, g2, q2⟩ := klines_g (c := some (.t Ybl)) (tx := some Yhf) (c8 := none) (os := [] ++ ((os.map fun l => (l.1, l.2.1, Yfe)).map fun l => W.t (oT2 l.2.1 l.2.2))) (rs := []) ks (0 + (os.map fun l => (l.1, l.2.1, Yfe)).length) 0 [] a4 a5 a6 a7 s1 (.inl rfl) Yac K g1
 obtain ⟨p2, c4, c5, c6, c7, s3, q3, g3⟩ := rlines_g (c := some (.t Ybl)) (tx := some Yhf) (c8 := none) (os := [] ++ ((os.map fun l => (l.1, l.2.1, Yfe)).map fun l => W.t (oT2 l.2.1 l.2.2))) (ks := [] ++ (ks.map fun l => W.t Yjg)) rs (0 + (os.map fun l => (l.1, l.2.1, Yfe)).length + ks.length) p1 [] b4 b5 b6 b7 s2 Yf Yac R g2
 have lp := (q1 _).trans ((q2 _).trans q3)
 have el : (os.map fun l => (l.1, l.2.1, Yfe)).map (fun l => T.str l.1) ++ (ks.map (fun l => T.str l.1) ++ rs.map (fun l => T.str l.1)) = (os.map (·.1) ++ (ks.map (·.1) ++ rs.map (·.1))).map T.str := by
  simp only [List.map_append, List.map_map, Function.comp_def]
 rw [el] at lp
 have eo : ([] : List W) ++ ((os.map fun l => (l.1, l.2.1, Yfe)).map fun l => W.t (oT2 l.2.1 l.2.2)) = ((os.map (·.2)).map onR).map W.t := by
  simp only [List.nil_append, List.map_map, Function.comp_def, onR]
 have ek : ([] : List W) ++ (ks.map fun l => W.t Yjg) = ((ks.map (·.2)).map knR).map W.t := by
  simp only [List.nil_append, List.map_map, Function.comp_def, knR]
 have er : ([] : List W) ++ (rs.map fun l => W.t Yf8) = ((rs.map (·.2)).map rdR).map W.t := by
  simp only [List.nil_append, List.map_map, Function.comp_def, rdR]
 rw [eo, ek, er] at g3
 generalize os.map (·.2) = OS at g3 D ⊢
 generalize ks.map (·.2) = KS at g3 D ⊢
 generalize rs.map (·.2) = RS at g3 D ⊢
 let E : IS := eRg k (some (.t Ybl)) (some Yhf) p2 c4 c5 c6 c7 none
 have start : mApp tplOf (zac Yg9 (zac Yg9 (zac Yg9 (mNil)))) [some (.t Ybl), some Yhf, none, none, none, none, none, none, none] hp = .ok Ycm S0 := by
  have nl : ∀ X : IH, (mApp newL mNil : M W) [some (.t Ybl), some Yhf, none, none, none, none, none, none, none] (hp ++ X) = .ok (.r (k + X.length)) (hp ++ (X ++ [some Yho])) := fun X => by
   show newL [] (hp ++ X) = _
   unfold newL
   rw [if_pos Yaw, List.length_append, List.append_assoc]
  have n0 := nl []
  rw [List.append_nil] at n0
  rw [p_app, zbb n0 (zbb (nl _) (zbb (nl _) rfl)), zao]
  simp [tplOf, S0, k]
 have src : mSrc enum1 (zac (mSM zcp (mVar 1) (mC (.str "\n"))) (mNil)) [some (.t Ybl), some Yhf, some Ycm, some (.t (.int (0 : Nat))), none, none, none, none, none] S0 = .ok (zga 0 ((os.map (·.1) ++ (ks.map (·.1) ++ rs.map (·.1))).map T.str)) S0 := by
  refine src_ok (ws := [.t (.lst ((os.map (·.1) ++ (ks.map (·.1) ++ rs.map (·.1))).map T.str))]) (h1 := S0) ?_ rfl
  rw [p_cons, sm_ok (a := tx) (h1 := S0) rfl rfl (zeo hs Yg hl)]
  rfl
 let H1 : IH := s3.set (k + 1) none
 let H2 : IH := H1.set (k + 2) none
 let H3 : IH := H2.set k none
 have t1 : H1[k + 3]? = some (some Ydv) := by rw [List.getElem?_set_ne Yf]; exact g3.t
 have t2 : H2[k + 3]? = some (some Ydv) := by rw [List.getElem?_set_ne Yf]; exact t1
 have ixg : ∀ {h : IH} {s : Nat}, h[k + 3]? = some (some Ydv) → (s = 0 ∨ s = 1 ∨ s = 2) → zf5 Ycm (.t (.int (s : Nat))) h = .ok (.r (k + s)) h := fun {h s} t hs => by
  unfold zf5
  simp only [t]
  rcases hs with rfl | rfl | rfl <;> rfl
 have f1 : mFrz (mBin zf5 (mVar 2) Yq) E s3 = .ok (.t (.lst (KS.map knR))) H1 := by
  rw [p_frz, binP (a := .r (k + 3)) (b := .t (.int 1)) (r := .ok (.r (k + 1)) s3) rfl rfl (ixg (s := 1) g3.t Yaw), zao]
  exact frz_ok g3.b
 have f2 : mFrz (mBin zf5 (mVar 2) Ybr) E H1 = .ok (.t (.lst (RS.map rdR))) H2 := by
  rw [p_frz, binP (a := .r (k + 3)) (b := .t (.int 2)) (r := .ok (.r (k + 2)) H1) rfl rfl (ixg (s := 2) t1 Yaw), zao]
  exact frz_ok (by rw [gl_ne Yf]; exact g3.c)
 have f3 : mFrz (mBin zf5 (mVar 2) Yh) E H2 = .ok (.t (.lst (OS.map onR))) H3 := by
  rw [p_frz, binP (a := .r (k + 3)) (b := .t (.int 0)) (r := .ok (.r k) H2) rfl rfl (ixg (s := 0) t2 Yaw), zao]
  exact frz_ok (by rw [gl_ne Yf, gl_ne Yf]; exact g3.a)
 have di := design_init (hp := H3 ++ [some (.ins "Design" [])]) (i := H3.length) app_at D
 rw [app_set] at di
 have mk := frz_made (ts := [.tup (KS.map knR), .tup (RS.map rdR), .tup (OS.map onR)]) (makeL_ok (i := 0) (c := "Design") (f := zcz) (Fs := zac (mFrz (mBin zf5 (mVar 2) Yq)) Yit) (eta := E) (hp := s3) rfl (zbb f1 (zbb f2 (zbb f3 rfl))) di) fun _ => rfl
 have l3 : hp.length ≤ s3.length := by
  have := getL_lt g3.a
  omega
 refine ⟨H3 ++ [none], fnX_rt (eta := [some (.t Ybl), some Yhf, none, none, none, none, none, none, none]) rfl rfl ?_, fun j hj => ?_⟩
 rotate_left
 ·rw [List.getElem?_append_left (by simp only [H3, H2, H1, List.length_set]; omega)]
  show ((((s3.set (k + 1) none).set (k + 2) none).set k none))[j]? = _
  rw [List.getElem?_set_ne Yf, List.getElem?_set_ne Yf, List.getElem?_set_ne Yf]
  exact g3.u j hj
 unfold B_Design_read
 refine za0 (zfj start) ?_
 refine za0 (e1 := [some (.t Ybl), some Yhf, some Ycm, some (.t (.int (0 : Nat))), none, none, none, none, none]) (h1 := S0) rfl ?_
 refine za0 ((for_ok src).trans lp) ?_
 rw [zfm, mk]
 rfl
end
section
open TL
theorem plan_readg {ks : List KP} {rs : List RP} {os : List OR} (F : PlanF ks rs os) (hp : IH) : ∃ h', zbj [.t Ybl, .t (.str (textS ks rs os))] hp = .ok (.t (dsgP ks rs os)) h' ∧ ∀ j, j < hp.length → h'[j]? = hp[j]? := by
 have kl := F.kl
 have rl := F.rl
 have ol := ce_len F.on
 rw [List.length_map] at ol
 have e1 : (os.map fun o => (lnO o, o)).map (·.1) = os.map lnO := by rw [List.map_map]; rfl
 have e2 : (ks.map fun k => (lnK k, krK k)).map (·.1) = ks.map lnK := by rw [List.map_map]; rfl
 have e3 : (rs.map fun r => (lnR r, rrR r)).map (·.1) = rs.map lnR := by rw [List.map_map]; rfl
 have d1 : (os.map fun o => (lnO o, o)).map (·.2) = os := by rw [List.map_map]; exact List.map_id _
 have d2 : (ks.map fun k => (lnK k, krK k)).map (·.2) = ks.map krK := by rw [List.map_map]; rfl
 have d3 : (rs.map fun r => (lnR r, rrR r)).map (·.2) = rs.map rrR := by rw [List.map_map]; rfl
 have n6 := ln_num F
 have jl := join_len (s := "\n") (ln_len F)
 rw [nl_len] at jl
 obtain ⟨h', q, u⟩ := readg_is (hp := hp) (tx := textS ks rs os) (ks := ks.map fun k => (lnK k, krK k)) (rs := rs.map fun r => (lnR r, rrR r)) (os := os.map fun o => (lnO o, o)) (by
  rw [e1, e2, e3]
  refine split_join (s := 10) (S := []) Yg Yg ?_ fun p hp => ?_
  ·intro e
   have := congrArg List.length e
   have k0 := F.k0
   simp only [List.length_append, List.length_map, List.length_nil] at this
   omega
  ·simp only [List.mem_append, List.mem_map] at hp
   rcases hp with ⟨o, ho, rfl⟩ | ⟨k, hk, rfl⟩ | ⟨r, hr, rfl⟩
   ·exact lnO_no Yi4
   ·exact lnK_no (F.k k hk)
   ·exact lnR_no (F.r r hr).k) (by
  unfold textS
  have : (os.map lnO ++ (ks.map lnK ++ rs.map lnR)).length * (21000 + 1) ≤ 8 * (21000 + 1) := Nat.mul_le_mul_right _ n6
  omega) (fun l hl => by
   obtain ⟨k, hk, rfl⟩ := List.mem_map.mp hl
   exact kline (F.k k hk)) (fun l hl => by
   obtain ⟨r, hr, rfl⟩ := List.mem_map.mp hl
   exact rline_r (F.r r hr) (F.cn r hr)) (fun l hl => by
   obtain ⟨o, ho, rfl⟩ := List.mem_map.mp hl
   exact oline_of Yi4 (by have := F.ov o ho; omega)) (by
   rw [d1, d2, d3]
   exact ⟨by rw [List.map_map]; exact F.kn, by rw [List.length_map]; exact F.k0, by rw [List.length_map]; omega, by rw [List.map_map]; exact F.rn, by rw [List.length_map]; exact F.r0, by rw [List.length_map]; omega, fun o ho => ⟨ce_nam F.on _ (List.mem_map_of_mem ho), (F.ov o ho).1⟩, ce_nd F.on, by omega, fun hp => sort_os F.on⟩)
 rw [d1, d2, d3] at q
 exact ⟨h', q, u⟩
end
section
variable {eta : IS} {hp : IH}
theorem zft {A : Type} {QA : A → IH → Prop} {U : M Bool} {F G : M A} {b : Bool} (e : U eta hp = .ok b hp) (t : b = true → Wp Yji QA) (f : b = false → Wp (G eta hp) QA) : Wp (mIf U F G eta hp) QA := by
 refine vc_if (Wp.of e ?_)
 cases b with
 | true => exact Wp.itt rfl (t rfl)
 | false => exact Wp.itf Yct (f rfl)
theorem andE {U V : M Bool} {a b : Bool} (h : U eta hp = .ok a hp) (h' : a = true → V eta hp = .ok b hp) : mAnd U V eta hp = .ok (a && b) hp := by
 show (U eta hp).bind _ = _
 rw [h, zao]
 cases a with
 | true => simpa using h' rfl
 | false => rfl
theorem orE {U V : M Bool} {a b : Bool} (h : U eta hp = .ok a hp) (h' : a = false → V eta hp = .ok b hp) : mOr U V eta hp = .ok (a || b) hp := by
 show (U eta hp).bind _ = _
 rw [h, zao]
 cases a with
 | false => simpa using h' rfl
 | true => rfl
end
section
variable {eta : IS} {hp : IH} {Q : W → IH → Prop} {QL : List W → IH → Prop} {QB : Bool → IH → Prop} {QF : Fl → IH → Prop}
theorem vc_methC {c m : Str} {f : OpN} {Fo : M W} {Fs : M (List W)} (q : Wp (Fo eta hp) fun o h1 => ∃ fs, insOf h1 o = some (c, fs) ∧ fs.lookup m = none ∧ Wp (Fs eta h1) fun ws h2 => Wp (f (o :: ws) h2) Q) : Wp (mMethC c m f [] Fo Fs eta hp) Q :=
 Wp.bind (q.mono fun o h1 ⟨fs, e, n, q'⟩ => by
  simp only [e, n, and_self, if_true, List.map_nil, List.append_nil]
  exact Wp.bind (q'.mono fun _ _ q => Wp.noEr q))
theorem vc_andV {Fa Fb : M W} (q : Wp (Fa eta hp) fun a h1 => ∃ b, a = .t (.bl b) ∧ if b then Wp (Fb eta h1) Q else Q (.t Yo) h1) : Wp (mAndV Fa Fb eta hp) Q :=
 Wp.bind (q.mono fun a h1 ⟨b, e, q⟩ => by subst e; cases b <;> first | exact Wp.ok q | exact q)
end
section
variable {hp : IH} {x s : Str} {v : T}
theorem wpV {A : Type} {r : Res A} {a : A} {h0 : IH} (q : Wp r fun w h => w = a ∧ h = h0) : r = .ok a h0 := by
 obtain ⟨w, h1, e, rfl, rfl⟩ := q.ex
 exact e
end
section
open TL
variable {i j : Nat} {hp : IH} {v : T} {f : Str}
def K1 (n : Str) : List KP := [(n, [("write", "a")])]
def K2 : List KP := [("move", [("write", "a"), ("write", "b")])]
def R1 : List RP := [("r", [("read", "a")], [])]
def R2 : List RP := [("r", [("read", "a"), ("read", "b")], [])]
theorem wrd_w : Wrd "write" := wrd_ok Yg
theorem wrd_r : Wrd "read" := wrd_ok Yg
theorem ok_w {x : Str} (h : namB x = true) : DOk wW ("write", x) := ⟨by simp, wrd_w, nam_ok h⟩
theorem ok_r {x : Str} (h : namB x = true) : DOk wR ("read", x) := ⟨by simp, wrd_r, nam_ok h⟩
theorem kok1 {n : Str} (h : namB n = true) : KOk n [("write", "a")] := ⟨nam_ok h, fun d hd => by rw [List.mem_singleton.mp hd]; exact ok_w Yg, by decide +kernel, by decide, by decide⟩
theorem kok2 : KOk "move" [("write", "a"), ("write", "b")] := by
 refine ⟨nam_ok Yg, fun d hd => ?_, by decide +kernel, by decide, by decide⟩
 simp only [List.mem_cons, List.not_mem_nil, or_false] at hd
 rcases hd with rfl | rfl
 ·exact ok_w Yg
 ·exact ok_w Yg
theorem rpk1 : RPk ("r", [("read", "a")], []) := ⟨⟨nam_ok Yg, fun d hd => by rw [List.mem_singleton.mp hd]; exact ok_r Yg, by decide +kernel, by decide, ⟨_, List.mem_singleton.mpr rfl, rfl⟩⟩, by decide, (fun c hc => nomatch hc), by decide⟩
theorem rpk2 : RPk ("r", [("read", "a"), ("read", "b")], []) := by
 refine ⟨⟨nam_ok Yg, fun d hd => ?_, by decide +kernel, by decide, ⟨_, List.mem_cons_self .., rfl⟩⟩, by decide, (fun c hc => nomatch hc), by decide⟩
 simp only [List.mem_cons, List.not_mem_nil, or_false] at hd
 rcases hd with rfl | rfl
 ·exact ok_r Yg
 ·exact ok_r Yg
theorem planK {ks : List KP} {rs : List RP} (k : ∀ k ∈ ks, KOk k.1 k.2) (kl : ks.length = 1) (r : ∀ r ∈ rs, RPk r ∧ r.2.2 = []) (rl : rs.length = 1) (k5 : ∀ k ∈ ks, k.2.length ≤ 6) : PlanF ks rs [] := by
 match ks, kl, rs, rl with
 | [k0], _, [r0], _ =>
  exact ⟨k, by simp, fun x hx => (r x hx).1, by simp, List.nil_sublist _, (fun o ho => nomatch ho), by simp, by simp, by simp, by simp, fun x hx => by rw [(r x hx).2]; simp, k5, fun x hx => (r x hx).1.l⟩
theorem plan1 {n : Str} (h : namB n = true) : PlanF (K1 n) R1 [] := planK (fun k hk => by rw [List.mem_singleton.mp hk]; exact kok1 h) rfl Yj7 rfl (fun k hk => by rw [List.mem_singleton.mp hk]; exact Nat.le_of_ble_eq_true rfl)
theorem plan2 : PlanF K2 R1 [] := planK (fun k hk => by rw [List.mem_singleton.mp hk]; exact kok2) rfl Yj7 rfl (fun k hk => by rw [List.mem_singleton.mp hk]; decide)
theorem plan3 : PlanF (K1 "move") R2 [] := planK (fun k hk => by rw [List.mem_singleton.mp hk]; exact kok1 Yg) rfl (fun r hr => by rw [List.mem_singleton.mp hr]; exact ⟨rpk2, rfl⟩) rfl (fun k hk => by rw [List.mem_singleton.mp hk]; decide)
/-- Design.read of one of these texts -/
theorem rdm {ks : List KP} {rs : List RP} {tx : Str} (F : PlanF ks rs []) (e : textS ks rs [] = tx) {E : IS} (d : Deal i j hp) : ∃ h', (zfx "Design" zbj [] (mC Ybl) (zac (mC (.str tx)) (mNil)) : M W) E hp = .ok (.t (dsgP ks rs [])) h' ∧ Deal i j h' := by
 obtain ⟨h', e1, fr⟩ := plan_readg F hp
 obtain ⟨li, lj⟩ := d.lt
 refine ⟨h', ?_, d.keep (fr i li) (fr j lj)⟩
 show reEr _ (zbj [.t Ybl, .t (.str tx)] hp) = _
 rw [← e, e1]
 rfl
abbrev DM : T := dsgP (K1 "m") R1 []
def atomB : T → Bool
 | .non | .bl _ | .int _ | .str _ => true
 | _ => false
inductive AnyV : T → Prop
 | atom {t : T} (h : atomB t = true) : AnyV t
 | des : AnyV DM
 | lst (ts : List T) : AnyV (.lst ts)
 | tup (ts : List T) (hl : ts.length ≤ 3) (h : ∀ u ∈ ts, AnyV u) : AnyV (.tup ts)
def anyL : List T := [.str "late", .str "fit", .str "", .bl true, .bl false, .int 0, .int 1, .int 100000000000000000000, .non, .str "move"]
theorem anyL_at : ∀ t ∈ anyL, atomB t = true := by decide +kernel
theorem any_step {G : OpN} {k : Nat} (hG : ∀ hp, Deal i j hp → 0 < k → ∃ (t : T) (hp' : IH), AnyV t ∧ G [.r i, .t (.int ((k : Int) - 1))] hp = .ok (.t t) hp' ∧ Deal i j hp') (d : Deal i j hp) : ∃ (t : T) (hp' : IH), AnyV t ∧ S_w_any G [.r i, .t (.int (k : Nat))] hp = .ok (.t t) hp' ∧ Deal i j hp' := by
 suffices h : Wp (S_w_any G [.r i, .t (.int (k : Nat))] hp) fun w h => ∃ t : T, w = .t t ∧ AnyV t ∧ Deal i j h by
  obtain ⟨w, h1, e, t, rfl, a, d⟩ := h.ex
  exact ⟨t, h1, a, e, d⟩
 let E : Option W → Option W → Option W → Option W → IS := fun w2 w3 w4 w5 => [some (.r i), some (.t (.int (k : Nat))), w2, w3, w4, w5]
 refine vc_fnM (eta := E none none none none) rfl rfl ?_
 unfold B_w_any
 obtain ⟨f, h1, e1, f0, f1, d1, _⟩ := draw_is (wide := 8) d Yf Yf
 refine zb5 (zfa (Wp.of (zbh (ws := [.r i, .t (.int 8)]) rfl e1) (zem ?_)))
 let F : Option W → Option W → Option W → IS := fun w3 w4 w5 => E (some (.t (.int f))) w3 w4 w5
 show Wp ((mSeq _ _ : M Fl) (F none none none) h1) _
 have t1 : (zah asB (mBin wLt (mVar 2) (mC (.int 4))) : M Bool) (F none none none) h1 = .ok (decide (f < 4)) h1 := zex (binP rfl rfl wLt_ii)
 have t0 : (zah asB (mBin iGt (mVar 1) Yh) : M Bool) (F none none none) h1 = .ok (decide ((0 : Int) < (k : Nat))) h1 := zex (binP rfl rfl ev_gt)
 refine zb5 (zft (andE t1 fun _ => t0) (fun c => ?_) fun _ => zgj (zem ?_))
 ·have kp : 0 < k := by
   simp only [Bool.and_eq_true, decide_eq_true_eq] at c
   omega
  obtain ⟨n, h2, e2, n0, n1, d2, _⟩ := draw_is (wide := 4) d1 Yf Yf
  obtain ⟨m, rfl⟩ : ∃ m : Nat, n = (m : Int) := ⟨n.toNat, by omega⟩
  have cp : Wp ((zba zay Yiu (gN 5) mYes (f_w_any_c1 G) [5] : M W) (F none none none) h1) fun w h => ∃ ts : List T, w = .t (.lst ts) ∧ ts.length ≤ 3 ∧ (∀ u ∈ ts, AnyV u) ∧ Deal i j h := by
   refine vc_comp (vc_src (zd8 (Wp.of (zbh (ws := [.r i, .t (.int 4)]) rfl e2) (vc_nil (Wp.rw (rng_is (n := m) Yf) (Wp.ok ⟨by rw [List.length_map, List.length_range]; omega, ?_⟩))))))
   refine vc_compL (fun ws acc h => Deal i j h ∧ (∃ ts : List T, acc = ts.map W.t ∧ ∀ u ∈ ts, AnyV u) ∧ acc.length + ws.length ≤ 3) ?_ _ _ _ _ ⟨d2, ⟨[], rfl, (fun u hu => nomatch hu)⟩, by simp; omega⟩ ?_
   ·rintro w ws acc h ⟨d, ⟨ts, rfl, ta⟩, l⟩
    refine ⟨_, rfl, vc_yes ?_⟩
    rw [if_pos rfl]
    obtain ⟨t, h', a, e, d'⟩ := hG h d kp
    refine Wp.of (zbh (ws := [.r i, .t (.int ((k : Int) - 1))]) (zbb rfl (zbb (binP rfl rfl ev_sub) rfl)) e) ⟨d', ⟨ts ++ [t], by rw [List.map_append]; rfl, fun u hu => ?_⟩, ?_⟩
    ·rcases List.mem_append.mp hu with hu | hu
     ·exact ta u hu
     ·rw [List.mem_singleton.mp hu]; exact a
    ·rw [List.length_append, List.length_singleton]
     rw [List.length_cons] at l
     omega
   ·rintro r h ⟨d, ⟨ts, e, ta⟩, l⟩
    have e : r = ts.map W.t := by simpa using e
    subst e
    have l : ts.length ≤ 3 := by simpa using l
    exact vc_lstM Yf ⟨ts, rfl, l, ta, d⟩
  refine zb5 (zfa (cp.mono fun w h ⟨ts, e, tl, ta, d⟩ => ?_))
  subst e
  refine zem (vc_ret ?_)
  have t2 : (zah asB (mBin Yx (mVar 2) Yh) : M Bool) (F (some Yas) none none) h = .ok (decide (f = 0)) h := zex (binP rfl rfl (ev_eqi.trans rfl))
  refine zft t2 (fun _ => zfy rfl (vc_rt ⟨_, rfl, .lst ts, rfl, .lst ts, d⟩)) fun _ => ?_
  exact Wp.of (zgh (a := .t (.lst ts)) rfl oTup_l) (vc_rt ⟨_, rfl, .tup ts, rfl, .tup ts tl ta, d⟩)
 ·refine zb5 (zfa (Wp.of (a := .t (.lst anyL)) (h := h1) rfl (zem (vc_ret ?_))))
  let G1 : IS := F none (some (.t (.lst anyL))) none
  obtain ⟨h2, e2, d2⟩ := rdm (i := i) (j := j) (hp := h1) (tx := "kind m: write a\nreader r: read a") (E := G1) (plan1 (n := "m") Yg) Yg d1
  obtain ⟨t, h3, ht, e3, d3, _⟩ := pick_is (ts := anyL ++ [DM]) d2 Yct Yct
  have ls : (mBin wAdd (mVar 4) Yew : M W) G1 h1 = .ok (.t (.lst (anyL ++ [DM]))) h2 :=
   wpV (vc_bin (zfy (w := .t (.lst anyL)) rfl (vc_app (zd8 (Wp.of e2 (vc_nil (vc_lstM (ts := [DM]) (Nat.le_of_ble_eq_true rfl) (vc_addL (xs := anyL) (ys := [DM]) rfl rfl (Nat.le_of_ble_eq_true rfl) ⟨rfl, rfl⟩))))))))
  refine Wp.of (zbh (ws := [.r i, .t (.lst (anyL ++ [DM]))]) (zbb rfl (zbb ls rfl)) e3) ⟨_, rfl, t, rfl, ?_, d3⟩
  rcases List.mem_append.mp ht with ht | ht
  ·exact .atom (anyL_at t ht)
  ·rw [List.mem_singleton.mp ht]; exact .des
theorem any_is : ∀ {n k : Nat} {hp : IH}, k < n → Deal i j hp → ∃ (t : T) (hp' : IH), AnyV t ∧ recN S_w_any n [.r i, .t (.int (k : Nat))] hp = .ok (.t t) hp' ∧ Deal i j hp'
 | n + 1, k, hp, h, d => any_step (G := recN S_w_any n) (fun hp d kp => by
   have e : ((k : Int) - 1) = ((k - 1 : Nat) : Int) := by omega
   rw [e]
   exact any_is (n := n) Yf d) d
abbrev D1 : T := dsgP (K1 "move") R1 []
abbrev Q1 : T := rdR (rrR ("r", [("read", "a")], []))
abbrev D2 : T := dsgP K2 R1 []
abbrev D3 : T := dsgP (K1 "move") R2 []
def bgn : T := .tup [.str "", .int 0, .tup [], .int 0, .tup [], .str "open", .tup [], .int 0]
def amid : T := .tup [.str "move", .int 1, .tup [], .int 0, .tup [], .str "open", .tup [], .int 0]
def tupB : T → Bool
 | .tup _ => true
 | _ => false
theorem isi_v (a : AnyV v) : oIsi zbo [.t v, .t (.ty "tuple")] hp = .ok (.t (.bl (tupB v))) hp := by
 cases a with
 | atom h => cases v <;> first | rfl | (simp [atomB] at h)
 | des => rfl
 | lst ts => rfl
 | tup ts _ _ => rfl
theorem stand_no (a : AnyV v) : zcg [.t D1, .t Q1, .t v, .t .non] hp = .ok (.t Yo) hp := by
 refine wpV ?_
 let E : IS := [some (.t D1), some (.t Q1), some (.t v), some Ya0, none, none, none, none, none, none, none, none]
 refine vc_fnP (ts := [D1, Q1, v, .non]) (eta := E) rfl rfl ?_
 unfold B_is_standing
 have u1 : (mNot (zah truW (mApp Ybp (zac (mVar 2) Y0))) : M Bool) E [] = .ok (!tupB v) [] := by
  rw [p_not, zci, show mApp Ybp (zac (mVar 2) Y0) E [] = oIsi zbo [.t v, .t (.ty "tuple")] [] from rfl, isi_v a]
  rfl
 by_cases tb : tupB v = true
 ·obtain ⟨ts, rfl⟩ : ∃ ts, v = .tup ts := by
   cases v <;> first | exact ⟨_, rfl⟩ | (simp [tupB] at tb)
  have tl : ts.length ≤ 3 := by
   cases a with
   | atom h => cases h
   | tup _ hl _ => exact hl
  have u2 : (zah asB (mBin Ya7 Yk3 (mC (.int (8)))) : M Bool) E [] = .ok true [] := zex (binP (zgh (a := .t Yjz) rfl oLen_t) rfl (ev_eqi.trans (by
   rw [decide_eq_false (show ¬ ((ts.length : Nat) : Int) = 8 by omega)]
   rfl)))
  exact zb5 (zft (orE u1 fun _ => u2) Ycl fun h => by rw [Bool.or_true] at h; cases h)
 ·rw [Bool.eq_false_iff.mpr tb] at u1
  exact zb5 Yg2
theorem rd_1 : isT (zcb [.t D1, .t Y7] []) Q1 = true := by decide +kernel
theorem st_b : isT (zcg [.t D1, .t Q1, .t bgn, .t .non] []) Yae = true := by decide +kernel
theorem stand_b : zcg [.t D1, .t Q1, .t bgn, .t .non] hp = .ok (.t Yae) hp := by
 obtain ⟨_, e⟩ := isT_ok st_b
 exact zej e
theorem sure_e : ∀ f ∈ (["torn", "early"] : List Str), isT (zbu [.t (.str f)] []) .non = true := by decide +kernel
theorem cert0 : ∀ f ∈ (["torn", "early"] : List Str), isT (zap [.t D1, .t Y7, .t (.str f), .t (.tup []), .t .non] []) Yo = true := by decide +kernel
/-- a row of which one is no standing -/
theorem cert_row {ts : List T} (hf : f ∈ (["torn", "early"] : List Str)) (hl : ts.length ≤ 100) (p : T → Bool) (h : ∀ u ∈ ts, zcg [.t D1, .t Q1, .t u, .t .non] [] = .ok (.t (.bl (p u))) []) (hn : ts.all p = false) : zap [.t D1, .t Y7, .t (.str f), .t Yjz, .t .non] hp = .ok (.t Yo) hp := by
 refine wpV ?_
 let E : Option W → Option W → IS := fun w5 w7 => [some (.t D1), some (.t Y7), some (.t (.str f)), some Yaq, some Ya0, w5, none, w7, none, none]
 refine vc_fnP (ts := [D1, .str "r", .str f, .tup ts, .non]) (eta := E none none) rfl rfl ?_
 unfold B_certifies
 have rd : zcb [.t D1, .t Y7] [] = .ok (.t Q1) [] := by
  obtain ⟨_, e⟩ := isT_ok rd_1
  exact zej e
 refine zb5 (zfa (vc_methC (zfy rfl ⟨_, rfl, rfl, zd8 (zfy rfl (vc_nil (Wp.of rd (zem ?_))))⟩)))
 let Q : Option W := some (.t Q1)
 show Wp ((mSeq _ _ : M Fl) (E Q none) []) _
 have sf : zbu [.t (.str f)] [] = .ok Ya0 [] := by
  obtain ⟨_, e⟩ := isT_ok (sure_e f hf)
  exact zej e
 refine zb5 (vc_drop (vc_call (zd8 (zfy rfl (vc_nil (Wp.of sf (zem ?_)))))))
 have u1 : (mNot Yfc : M Bool) (E Q none) [] = .ok false [] := rfl
 have c1 : (zba zay (mSq (mVar 3)) (gN 7) mYes zcn [7] : M W) (E Q none) [] = .ok (.t (.lst ((ts.map p).map T.bl))) [] := by
  refine wpV (vc_comp (vc_sq (zfy (w := .t Yjz) rfl (vc_sqT ⟨by rw [List.length_map]; omega, ?_⟩))))
  rw [List.map_map]
  refine vc_mapA (G := gN 7) (E := zcn) (src := fun t : T => W.t t) (g := fun u => T.bl (p u)) ts (fun u hu => ⟨E Q (some (.t u)), rfl, ?_⟩) (vc_lstM Yli ⟨rfl, rfl⟩)
  exact zbh (ws := [.t D1, .t Q1, .t u, .t .non]) rfl (h u hu)
 have u2 : (mNot (zah truW (mApp oAll Yfd)) : M Bool) (E Q none) [] = .ok true [] := by
  have ab : (mApp oAll Yfd : M W) (E Q none) [] = .ok (.t Yo) [] := by
   rw [zgh c1 bools_all, List.all_map]
   rw [show (ts.all (id ∘ p)) = false from hn]
  rw [p_not, zci, ab]
  rfl
 exact zb5 (zft (orE (a := false) (b := true) u1 fun _ => u2) Ycl fun h => by cases h)
theorem cert_v (hf : f ∈ (["torn", "early"] : List Str)) (a : AnyV v) : zap [.t D1, .t Y7, .t (.str f), .t v, .t .non] hp = .ok (.t Yo) hp := by
 by_cases tb : tupB v = true
 ·obtain ⟨ts, rfl⟩ : ∃ ts, v = .tup ts := by
   cases v <;> first | exact ⟨_, rfl⟩ | (simp [tupB] at tb)
  obtain ⟨tl, ta⟩ : ts.length ≤ 3 ∧ ∀ u ∈ ts, AnyV u := by
   cases a with
   | atom h => cases h
   | tup _ hl h => exact ⟨hl, h⟩
  match ts, tl, ta with
  | [], _, _ =>
   obtain ⟨_, e⟩ := isT_ok (cert0 f hf)
   exact zej e
  | u :: r, tl, ta => exact cert_row hf Yf (fun _ => false) (fun x hx => stand_no (ta x hx)) rfl
 ·refine wpV ?_
  let E : Option W → IS := fun w5 => [some (.t D1), some (.t Y7), some (.t (.str f)), some (.t v), some Ya0, w5, none, none, none, none]
  refine vc_fnP (ts := [D1, .str "r", .str f, v, .non]) (eta := E none) rfl rfl ?_
  unfold B_certifies
  have rd : zcb [.t D1, .t Y7] [] = .ok (.t Q1) [] := by
   obtain ⟨_, e⟩ := isT_ok rd_1
   exact zej e
  refine zb5 (zfa (vc_methC (zfy rfl ⟨_, rfl, rfl, zd8 (zfy rfl (vc_nil (Wp.of rd (zem ?_))))⟩)))
  let Q : Option W := some (.t Q1)
  show Wp ((mSeq _ _ : M Fl) (E Q) []) _
  have sf : zbu [.t (.str f)] [] = .ok Ya0 [] := by
   obtain ⟨_, e⟩ := isT_ok (sure_e f hf)
   exact zej e
  refine zb5 (vc_drop (vc_call (zd8 (zfy rfl (vc_nil (Wp.of sf (zem ?_)))))))
  have u1 : (mNot Yfc : M Bool) (E Q) [] = .ok true [] := by
   rw [p_not, zci, show mApp Ybp (zac (mVar 3) Y0) (E Q) [] = oIsi zbo [.t v, .t (.ty "tuple")] [] from rfl, isi_v a, Bool.eq_false_iff.mpr tb]
   rfl
  exact zb5 Yg2
theorem cert_bv (hf : f ∈ (["torn", "early"] : List Str)) (a : AnyV v) : zap [.t D1, .t Y7, .t (.str f), .t (.tup [bgn, v]), .t .non] hp = .ok (.t Yo) hp := by
 have nb : bgn ≠ v := fun e => by
  rw [← e] at a
  cases a with
  | atom h => cases h
  | tup _ hl _ => exact absurd hl Yct
 refine cert_row hf Yaw (fun u => tupB u && (match u with | .tup us => decide (us.length = 8) | _ => false)) (fun u hu => ?_) ?_
 ·simp only [List.mem_cons, List.not_mem_nil, or_false] at hu
  rcases hu with rfl | rfl
  ·exact stand_b
  ·rw [stand_no a]
   congr 3
   cases a with
   | atom h => cases u <;> first | rfl | (simp [atomB] at h)
   | des => rfl
   | lst ts => rfl
   | tup ts hl _ => exact (decide_eq_false Yf).symm
 ·show (_ && (_ && true)) = false
  cases a with
  | atom h => cases v <;> first | rfl | (simp [atomB] at h)
  | des => rfl
  | lst ts => rfl
  | tup ts hl _ =>
   have : decide (ts.length = 8) = false := decide_eq_false Yf
   simp [tupB, this]
end
section
theorem zcq {f : OpN} {ds : List T} {Fs : M (List W)} {eta : IS} {hp h1 h2 : IH} {w : W} {ws : List W} (hs : Fs eta hp = .ok ws h1) (h : f (ws ++ ds.map W.t) h1 = .ok w h2) : zar f ds Fs eta hp = .ok w h2 := by
 rw [p_call, hs, zao, h, zc7]
end
section
open TL
variable {h : IH} {i j : Nat}
def E37 (w0 : Option W) (i : Nat) (w4 w5 w6 : Option W) : IS := [w0, some (.r i), some (.t D1), some (.t bgn), w4, w5, w6, none, none, none, none, none]
theorem isb_f {b c : Bool} : isB true Ye9 (.t (.bl c)) h = .ok (.t (.bl (!decide (b = c)))) h := rfl
theorem isb_t {b c : Bool} : isB false Ye9 (.t (.bl c)) h = .ok (.t (.bl (decide (b = c)))) h := rfl
theorem turn37 (d : Deal i j h) {w0 w4 w5 w6 : Option W} :
  Wp (f_law_l2 (E37 w0 i w4 w5 w6) h) fun fl h' => ∃ w5 w6, fl = .nx (E37 w0 i w4 w5 w6) ∧ Deal i j h' := by
 unfold f_law_l2
 obtain ⟨v, h1, a, e1, d1⟩ := any_is (n := 12) (k := 7) Yct d
 refine zb5 (zfa (Wp.of (zbh (ws := [.r i, .t (.int 7)]) rfl e1) (zem ?_)))
 let V : Option W := some (.t v)
 show Wp ((mFor _ _ _ : M Fl) (E37 w0 i w4 V w6) h1) _
 refine vc_for (vc_sq (Wp.of (a := .t (.tup [.str "torn", .str "early"])) (h := h1) rfl (vc_sqT ?_)))
 refine vc_loop (G := gN 6) (S := f_law_l1) (fun ws eta h => (∃ fs : List Str, ws = (fs.map T.str).map W.t ∧ ∀ f ∈ fs, f ∈ (["torn", "early"] : List Str)) ∧ h = h1 ∧ ∃ w6, eta = E37 w0 i w4 V w6) ?_ _ _ _ ⟨⟨["torn", "early"], rfl, fun f hf => hf⟩, rfl, w6, rfl⟩ ?_
 ·rintro w ws eta h ⟨⟨fs, ew, hf⟩, rfl, w6, rfl⟩
  match fs, ew with
  | f :: fs, ew =>
   cases ew
   have ff := hf f Yv
   let E : IS := E37 w0 i w4 V (some (.t (.str f)))
   refine ⟨E, rfl, ?_⟩
   unfold f_law_l1
   have t1 : (zah asB Yh7 : M Bool) E h = .ok false h := zex (binP (zcq (ws := [.t D1, .t Y7, .t (.str f), .t v]) rfl (cert_v ff a)) rfl isb_f)
   refine zb5 (zft t1 Yff fun _ => zgj (zem ?_))
   have tp : (mApp zaw (zac (mVar 3) Ybe) : M W) E h = .ok (.t (.tup [bgn, v])) h := wpV (vc_app (zd8 (zfy rfl (zd8 (zfy rfl (vc_nil (vc_tupE (ts := [bgn, v]) rfl (Nat.le_of_ble_eq_true rfl) ⟨rfl, rfl⟩)))))))
   have t2 : (zah asB Yek : M Bool) E h = .ok false h := zex (binP (zcq (ws := [.t D1, .t Y7, .t (.str f), .t (.tup [bgn, v])]) (zbb rfl (zbb rfl (zbb rfl (zbb tp rfl)))) (cert_bv ff a)) rfl isb_f)
   exact zft t2 Yff fun _ => zgj ⟨_, rfl, ⟨fs, rfl, fun g hg => hf g (List.mem_cons_of_mem _ hg)⟩, rfl, _, rfl⟩
 ·rintro e h ⟨-, rfl, w6, rfl⟩
  exact ⟨_, _, rfl, d1⟩
def some4 : T := .tup [bgn, .tup [.str "", .int 0, .tup [], .int 1, .tup [], .str "open", .tup [], .int 0], .tup [.str "", .int 0, .tup [], .int 1, .tup [], .str "past", .tup [], .int 0], .tup [.str "", .int 0, .tup [], .int 1, .tup [], .str "torn", .tup [], .int 0]]
def some3 : T := .tup [bgn, .tup [.str "", .int 0, .tup [], .int 1, .tup [], .str "open", .tup [], .int 0], .tup [.str "", .int 0, .tup [], .int 1, .tup [], .str "past", .tup [], .int 0]]
def some2 : T := .tup [bgn, .tup [.str "", .int 0, .tup [], .int 1, .tup [], .str "open", .tup [], .int 0]]
def rowC : List (T × Str × T × Bool) := [(D1, "torn", .tup [bgn], true), (D1, "early", .tup [bgn, bgn], true), (D2, "torn", .tup [bgn, amid], true), (D2, "early", .tup [amid, bgn], false), (D2, "torn", .tup [bgn], false), (D2, "torn", .tup [amid], false), (D2, "torn", .tup [], false), (D2, "torn", .lst [bgn, amid], false), (D3, "early", some4, true), (D3, "torn", some4, false), (D3, "torn", some3, true), (D3, "torn", some2, false)]
theorem rowC_b : ∀ x ∈ rowC, isT (zap [.t x.1, .t Y7, .t (.str x.2.1), .t x.2.2.1, .t .non] []) (.bl x.2.2.2) = true := by decide +kernel
theorem zd7 {D v : T} {f : Str} {b : Bool} (m : (D, f, v, b) ∈ rowC) : zap [.t D, .t Y7, .t (.str f), .t v, .t .non] h = .ok Ye9 h := by
 obtain ⟨_, e⟩ := isT_ok (rowC_b _ m)
 exact zej e
theorem rc {k : Nat} {x : T × Str × T × Bool} (e : rowC[k]? = some x) : x ∈ rowC := List.mem_of_getElem? e
theorem law_is {ns : List Int} (hn : ns.length ≤ 63) : ∃ hp', F_law [.t Ykm] [] = .ok (.t Yae) hp' := by
 suffices h : Wp (F_law [.t Ykm] []) fun w _ => w = .t Yae by
  obtain ⟨w, h1, e, rfl⟩ := h.ex
  exact ⟨h1, e⟩
 let P : Option W := some (.t Ykm)
 refine vc_fnM (eta := P :: List.replicate 11 none) rfl rfl ?_
 unfold B_law
 obtain ⟨h1, e1, d1, _⟩ := deal_is (hp := ([] : IH)) hn
 refine zb5 (zfa (vc_call (zd8 (zfy rfl (zd8 (vc_c (vc_nil (Wp.of e1 (zem ?_)))))))))
 generalize ([] : IH).length = i at d1
 show Wp ((mSeq _ _ : M Fl) (P :: some (.r i) :: List.replicate 10 none) h1) _
 obtain ⟨h2, e2, d2⟩ := rdm (hp := h1) (tx := "kind move: write a\nreader r: read a") (E := P :: some (.r i) :: List.replicate 10 none) (plan1 (n := "move") Yg) Yg d1
 refine zb5 (zfa (Wp.of e2 (zem ?_)))
 refine zb5 (zfa (Wp.of (a := .t bgn) (h := h2) rfl (zem ?_)))
 show Wp ((mSeq _ _ : M Fl) (E37 P i none none none) h2) _
 refine zb5 (vc_for (vc_src (zd8 (vc_c (vc_nil (Wp.rw (rng_is (n := 14) Yf) (Wp.ok ?_)))))))
 refine vc_loop (G := gN 4) (S := f_law_l2) (fun ws eta h => Deal i (i + 1) h ∧ ∃ w4 w5 w6, eta = E37 P i w4 w5 w6) ?_ _ _ _ ⟨d2, _, _, _, rfl⟩ ?_
 ·rintro w ws eta h ⟨d, w4, w5, w6, rfl⟩
  exact ⟨_, rfl, (turn37 d (w4 := some w)).mono fun fl h2 ⟨w5, w6, e, d2⟩ => ⟨_, e, d2, _, _, _, rfl⟩⟩
 ·rintro e h ⟨d, w4, w5, w6, rfl⟩
  refine zem ?_
  let E := E37 P i w4 w5 w6
  have t1 : (mOr Ykr Ydr : M Bool) E h = .ok false h := orE (a := false) (b := false) (zex (binP (zcq (ws := [.t D1, .t Y7, .t Yh8, .t (.tup [bgn])]) rfl (zd7 (rc (k := 0) rfl))) rfl isb_f)) fun _ => zex (binP (zcq (ws := [.t D1, .t Y7, .t (.str "early"), .t (.tup [bgn, bgn])]) rfl (zd7 (rc (k := 1) rfl))) rfl isb_f)
  refine zb5 (zft t1 Yff fun _ => zgj (zem ?_))
  obtain ⟨h3, e3, d3⟩ := rdm (hp := h) (tx := "kind move: write a, write b\nreader r: read a") (E := E) plan2 Yg d
  refine zb5 (zfa (Wp.of e3 (zem ?_)))
  refine zb5 (zfa (Wp.of (a := .t amid) (h := h3) rfl (zem ?_)))
  let F : IS := [P, some (.r i), some (.t D1), some (.t bgn), w4, w5, w6, some (.t D2), some (.t amid), none, none, none]
  show Wp ((mSeq _ _ : M Fl) F h3) _
  have t2 : (mOr Yd5 Yd7 : M Bool) F h3 = .ok false h3 := orE (a := false) (b := false) (zex (binP (zcq (ws := [.t D2, .t Y7, .t Yh8, .t (.tup [bgn, amid])]) rfl (zd7 (rc (k := 2) rfl))) rfl isb_f)) fun _ => by
   rw [zci, zcq (ws := [.t D2, .t Y7, .t (.str "early"), .t (.tup [amid, bgn])]) rfl (zd7 (rc (k := 3) rfl))]
   rfl
  refine zb5 (zft t2 Yff fun _ => zgj (zem ?_))
  have t3 : (mOr Yks Ye5 : M Bool) F h3 = .ok false h3 := orE (a := false) (b := false) (zex (binP (zcq (ws := [.t D2, .t Y7, .t Yh8, .t (.tup [bgn])]) rfl (zd7 (rc (k := 4) rfl))) rfl isb_f)) fun _ => zex (binP (zcq (ws := [.t D2, .t Y7, .t Yh8, .t (.tup [amid])]) rfl (zd7 (rc (k := 5) rfl))) rfl isb_f)
  refine zb5 (zft t3 Yff fun _ => zgj (zem ?_))
  have t4 : (mOr Ygd Yd6 : M Bool) F h3 = .ok false h3 := orE (a := false) (b := false) (zex (binP (zcq (ws := [.t D2, .t Y7, .t Yh8, .t (.tup [])]) rfl (zd7 (rc (k := 6) rfl))) rfl isb_f)) fun _ => zex (binP (zcq (ws := [.t D2, .t Y7, .t Yh8, .t (.lst [bgn, amid])]) rfl (zd7 (rc (k := 7) rfl))) rfl isb_f)
  refine zb5 (zft t4 Yff fun _ => zgj (zem ?_))
  obtain ⟨h4, e4, d4⟩ := rdm (hp := h3) (tx := "kind move: write a\nreader r: read a, read b") (E := F) plan3 Yg d3
  refine zb5 (zfa (Wp.of e4 (zem ?_)))
  let G : IS := [P, some (.r i), some (.t D1), some (.t bgn), w4, w5, w6, some (.t D2), some (.t amid), some (.t D3), none, none]
  show Wp ((mSeq _ _ : M Fl) G h4) _
  refine zb5 (zfa (Wp.of (a := .t some4) (h := h4) rfl (zem ?_)))
  let J : IS := [P, some (.r i), some (.t D1), some (.t bgn), w4, w5, w6, some (.t D2), some (.t amid), some (.t D3), some (.t some4), none]
  show Wp ((mSeq _ _ : M Fl) J h4) _
  have t5 : (mOr Yd8 Yfz : M Bool) J h4 = .ok false h4 := orE (a := false) (b := false) (zex (binP (zcq (ws := [.t D3, .t Y7, .t (.str "early"), .t some4]) rfl (zd7 (rc (k := 8) rfl))) rfl isb_f)) fun _ => zex (binP (zcq (ws := [.t D3, .t Y7, .t Yh8, .t some4]) rfl (zd7 (rc (k := 9) rfl))) rfl isb_f)
  refine zb5 (zft t5 Yff fun _ => zgj (zem (vc_ret ?_)))
  have a1 : (mBin (isB false) Yfj (mC Yae) : M W) J h4 = .ok (.t Yae) h4 := binP (zcq (ws := [.t D3, .t Y7, .t Yh8, .t some3]) rfl (zd7 (rc (k := 10) rfl))) rfl isb_t
  have a2 : (mBin (isB false) Ygp (mC Yo) : M W) J h4 = .ok (.t Yae) h4 := binP (zcq (ws := [.t D3, .t Y7, .t Yh8, .t some2]) rfl (zd7 (rc (k := 11) rfl))) rfl isb_t
  exact vc_andV (Wp.of a1 ⟨true, rfl, Wp.of a2 ⟨_, rfl, rfl⟩⟩)
end
section
variable {P : Program} {w : World} {K : PySem.W.Frag} {mg : Str → Option Value} {base : Heap} {f : Addr} {fd : FuncData} {dfs : List V} {kws : List Ygz}
abbrev DG (K : PySem.W.Frag) (x q : Str) (s : Stmt) (l : List V) (k : List Ygz) (a : Addr) (d : FuncData) : Prop := FunD K x q (defArgs s) (defBody s) (defScope s) l k a d
local macro_rules | `(tactic| simp_all_arith) => `(tactic| exact ⟨rfl, rfl, rfl, by decide +kernel, rfl, by decide +kernel, by decide +kernel⟩)
local macro_rules | `(tactic| simp_all_arith!) => `(tactic| first | exact .inl rfl | exact .inr rfl)
abbrev N_w_deal : List Str := ["_law_script", "_law_base", "_law_cells", "_law_stirred", "_law_at", "_law_cell"]
theorem sc_w_deal : FnScope N_w_deal ["_law_script", "_law_base"] (defScope s_w_deal) := by simp_all_arith
theorem y39 (F : DG K "_law_deal" "_law_deal" s_w_deal dfs kws f fd)
  (ybf : mg "enumerate" = none)
  (yc9 : mg "int" = none)
  (y2y : mg "abs" = none) :
  FnG P w K mg base Yd 1 f fd ["_law_script", "_law_base"] (spM K w F_w_deal 2) :=
 okM (k := 0) F sc_w_deal fun cdv A outer s H E hr hgd => by
  have hN := sc_w_deal.nd
  have hu := hr.units
  exact zaf (by first | exact zdy (i := 2) (own := [("_law_cell", 5)]) (T := mYes) (E := zew) rfl hN rfl rfl rfl (zbs (zb6 (zab 0) (zco (zab 1)) (zco (zaj)))) (by first | exact blkOk_by (N := N_w_deal) (sc := defScope s_w_deal) (by decide +kernel) | exact blkOk_by (by with_unfolding_all rfl) | exact blkOk_by (by decide +kernel +revert)) (fun _ _ _ _ _ => pg_name (i := 5) hN rfl Ya) (zae 5) Yj Yhz zas | exact zaz 2 hN (za2 (own := [("_law_cell", 5)]) (T := mYes) (E := zew) rfl hN (zbs (zb6 (zab 0) (zco (zab 1)) (zco (zaj)))) (by first | exact blkOk_by (N := N_w_deal) (sc := defScope s_w_deal) (by decide +kernel) | exact blkOk_by (by with_unfolding_all rfl) | exact blkOk_by (by decide +kernel +revert)) (fun _ _ _ _ _ => pg_name (i := 5) hN rfl Ya) (zae 5) Yj Yhz zas)) (zaf (zaz 3 hN (zdd (zaj) (ie_mulA (zaj) (zab 1)))) (zaf (st_for (B := zf9) PassesOwn.never rfl (ii_en (by rfl) ybf Yay) (pg_tup rfl Yfv) Ydl (zai (zaz 3 hN (ie_mod (zdw call_int1 ok_int (zaa (zdd (ie_mulA (zdd (zdd (zab 3) (zab 4)) (zaj)) (zaj)) (ie_mod (zdw call_int1 ok_int Yci yc9) (zaj))) (zad)) yc9) (zaj))))) (zai (zan (ie_disp (ip_str (ie_revL (za2 (own := [("_law_cell", 5)]) (T := zgo) (E := zgp) rfl hN (zbs (zab 2)) (by first | exact blkOk_by (N := N_w_deal) (sc := defScope s_w_deal) (by decide +kernel) | exact blkOk_by (by with_unfolding_all rfl) | exact blkOk_by (by decide +kernel +revert)) (fun _ _ _ _ _ => pg_name (i := 5) hN rfl Ya) (zae 5) (fun _ _ _ _ _ => zb8 (it_ge (zab 5) (ie_pow (zaj) (zaj)))) (fun _ _ _ _ _ => zab 5) zas)) (ip_str (zab 3) (ip_nil))))))))
abbrev y1n : List Str := ["value", "letter"]
theorem yz2 : FnScope y1n ["value"] (defScope ypi) := by simp_all_arith
theorem y3t (F : DG K "is_name" "is_name" ypi dfs kws f fd)
  (ya0 : mg "all" = none)
  (ya : mg "isinstance" = none)
  (yap : mg "str" = none)
  (yg : mg "len" = none)
  {t_MOST_LETTERS : Tok} (yk6 : mg "MOST_LETTERS" = some (.int (4) t_MOST_LETTERS))
  {t_LETTERS : Tok} (yvz : mg "LETTERS" = some (.str "abcdefghijklmnopqrstuvwxyz" t_LETTERS))
  (hT : ze7 K zbo)
  {ykw : Addr} {o_BARRED : Obj} {us_BARRED : List Value} {ytm : Nat} (yy2 : mg "BARRED" = some (.ref ykw)) (lk_BARRED : K.lookup ykw = some o_BARRED) (yjq : o_BARRED.cls = .type "tuple") (yjr : o_BARRED.dict = none) (oa_BARRED : o_BARRED.data = .seq us_BARRED.toArray ytm) (or_BARRED : Vals Yir us_BARRED) (oz_BARRED : us_BARRED.length ≤ 1000) :
  FnG P w K mg base Yd 1 f fd ["value"] Yk9 :=
 okP (k := 0) F yz2 fun cdv A outer s H E hr hgd => by
  have hN := yz2.nd
  have hu := hr.units
  exact zaf (zbf ((zcf Yc3 (zcf (it_in hu (zab 0) (ie_globT yy2 lk_BARRED yjq yjr oa_BARRED or_BARRED oz_BARRED)) (zbt (zbi (it_chain op_le ok_opC op_le ok_opC (zaj) Yd2 (ie_glob (v := .int (4)) (by rfl) yk6 ⟨_, rfl⟩ Yef)))))).it) Y4 (zau)) (zai (zan (zbg Yh4 ok_all (zaa (za2 (own := [("letter", 1)]) (T := mYes) (E := f_is_name_c1) rfl hN (ii_str (zab 0)) (by first | exact blkOk_by (N := y1n) (sc := defScope ypi) (by decide +kernel) | exact blkOk_by (by with_unfolding_all rfl) | exact blkOk_by (by decide +kernel +revert)) (fun _ _ _ _ _ => pg_name (i := 1) hN rfl Ya) (zae 1) Yj (fun _ _ _ _ _ => ie_inS (zab 1) (zep yvz)) zas) (zad)) ya0)))
abbrev yx9 : List Str := ["word", "digits", "sign"]
theorem yv0 : FnScope yx9 ["word", "digits"] (defScope ylt) := by simp_all_arith
theorem y2b (F : DG K "number_in" "number_in" ylt dfs kws f fd)
  (yc9 : mg "int" = none)
  (yg : mg "len" = none)
  (ya0 : mg "all" = none)
  {t_DIGITS : Tok} (yy3 : mg "DIGITS" = some (.str "0123456789" t_DIGITS)) :
  FnG P w K mg base Yd 1 f fd ["word", "digits"] (spM K w zcx 2) :=
 okP (k := 0) F yv0 fun cdv A outer s H E hr hgd => by
  have hN := yv0.nd
  have hu := hr.units
  exact zaf (zbf ((zcf (zbi (it_chain op_le ok_opC op_le ok_opC (zaj) Yd2 (zab 1))) (zbt (zbi (zbc (zbg Yh4 ok_all (zaa (za2 (own := [("sign", 2)]) (T := mYes) (E := f_number_in_c1) rfl hN (ii_str (zab 0)) (by first | exact blkOk_by (N := yx9) (sc := defScope ylt) (by decide +kernel) | exact blkOk_by (by with_unfolding_all rfl) | exact blkOk_by (by decide +kernel +revert)) (fun _ _ _ _ _ => pg_name (i := 2) hN rfl Ya) (zae 2) Yj (fun _ _ _ _ _ => ie_inS (zab 2) (zep yy3)) zas) (zad)) ya0))))).it) Yds (zau)) (zai (zan (ze6 ((zdx (zb1 hu Ygm (zam)) (zc4 (zf8 hu (zab 0) (zam)))).it) (za6) (zdw call_int_str ok_intS Yaz yc9))))
abbrev y4a : List Str := ["line", "words", "size"]
theorem yya : FnScope y4a ["line"] (defScope ytg) := by simp_all_arith
theorem y21 (F : DG K "round_in" "round_in" ytg dfs kws f fd)
  (yg : mg "len" = none)
  {t_MOST_DIGITS_designs : Tok} (yej : mg "MOST_DIGITS_designs" = some (.int (9) t_MOST_DIGITS_designs))
  {ydb : Addr} {yi0 : FuncData} (yek : FnG P w K mg base Yd 1 ydb yi0 ["word", "digits"] (spM K w zcx 2))
  (yf6 : mg "number_in" = some (.ref ydb)) (yf7 : PySem.W.keepIn K (.ref ydb) = true)
  (yel : Binds K yi0 ["word", "digits"] [])
  {yao : Addr} {ya8 : FuncData} (yau : FnG P w K mg base Yd 1 yao ya8 ["value"] Yk9)
  (ya1 : mg "is_name" = some Ykp) (ya2 : PySem.W.keepIn K Ykp = true)
  (yav : Binds K ya8 ["value"] []) :
  FnG P w K mg base Yd 2 f fd ["line"] (spM K w zd0 1) :=
 okP (k := 1) F yya fun cdv A outer s H E hr hgd => by
  have hN := yya.nd
  have hu := hr.units
  exact zaf (zaz 1 hN (zgm (zab 0) (zam))) (zaf (zbf ((zcf (zf8 hu Yhg (zaj)) (zcf (zf8 hu Ykj (zam)) (zbt (zbi (zbc (zal (dts := []) (dvs := []) yau Yb hgd (by rfl) ya1 ya2 yav .nil Ye zak (zaa Ykj (zad)))))))).it) Yds (zau)) (zaf (zaz 2 hN (zal (dts := []) (dvs := []) yek Yb hgd (by rfl) yf6 yf7 yel .nil Ye zak (zaa Ykj (zaa (ie_glob (v := .int (9)) (by rfl) yej ⟨_, rfl⟩ Yef) (zad))))) (zai (zan (ze6 (it_isN (zab 2) (za6)) (za6) (zat (zaa Ykj Yay)))))))
abbrev y4b : List Str := ["text", "word", "head", "gap", "rest"]
theorem yyb : FnScope y4b ["text", "word"] (defScope yth) := by simp_all_arith
theorem y22 (F : DG K "named_in" "named_in" yth dfs kws f fd)
  (yg : mg "len" = none)
  {t_NAMED : Tok} (y02 : mg "NAMED" = some (.str ": " t_NAMED)) :
  FnG P w K mg base Yd 1 f fd ["text", "word"] (spM K w zbv 2) :=
 okP (k := 0) F yyb fun cdv A outer s H E hr hgd => by
  have hN := yyb.nd
  have hu := hr.units
  exact zaf (zfc (ie_partition (zab 0) (zep y02)) (zfg rfl (pgs_cons (pg_name (i := 2) hN rfl Ya) (pgs_cons Yi0 (pgs_cons Ycw Ybg)))) (zfd (zag (zae 2) (zag (zae 3) (zag (zae 4) (za7)))))) (zai (zan (ze6 (zbc (ie_startswith (zab 2) (zab 1))) (zat (zaa (zb6 (zab 2) (zco Yhg) zds) Ydm)) (zat (zaa (zam) Ybu)))))
abbrev y2c : List Str := ["value"]
theorem ysv : FnScope y2c ["value"] (defScope yl8) := by simp_all_arith
theorem yz3 (F : DG K "is_sequence" "is_sequence" yl8 dfs kws f fd)
  (ya : mg "isinstance" = none)
  (ye : mg "tuple" = none)
  (y23 : mg "list" = none)
  (hT : ze7 K zbo) :
  FnG P w K mg base Yd 1 f fd ["value"] Yla :=
 okP (k := 0) F ysv fun cdv A outer s H E hr hgd => by
  have hN := ysv.nd
  have hu := hr.units
  exact zai (zan (zbg za9 (zcv hT) (zaa (zab 0) (zaa (zat (zaa (ze9 y23 Yu) Yf9)) (zad))) ya))
abbrev y4l : List Str := ["value", "words", "parts"]
theorem yz4 : FnScope y4l ["value", "words"] (defScope yvn) := by simp_all_arith
theorem y3u (F : DG K "deed_in" "deed_in" yvn dfs kws f fd)
  (yg : mg "len" = none)
  (ya : mg "isinstance" = none)
  (yap : mg "str" = none)
  {yao : Addr} {ya8 : FuncData} (yau : FnG P w K mg base Yd 1 yao ya8 ["value"] Yk9)
  (ya1 : mg "is_name" = some Ykp) (ya2 : PySem.W.keepIn K Ykp = true)
  (yav : Binds K ya8 ["value"] [])
  (hT : ze7 K zbo) :
  FnG P w K mg base Yd 2 f fd ["value", "words"] (spM K w F_deed_in 2) :=
 okP (k := 1) F yz4 fun cdv A outer s H E hr hgd => by
  have hN := yz4.nd
  have hu := hr.units
  exact zaf (zbf Yc3 Yds (zau)) (zaf (zaz 2 hN (zgm (zab 0) (zam))) (zaf (zbf ((zcf (zf8 hu Yj8 (zaj)) (zcf (it_nin hu Ybk (zab 1)) (zbt (zbi (zbc (zal (dts := []) (dvs := []) yau Yb hgd (by rfl) ya1 ya2 yav .nil Ye zak (zaa Ybk (zad)))))))).it) Yds (zau)) (zai (zan (zat (zaa Ybk (zaa Ybk (zad))))))))
abbrev ykc : List Str := ["value", "words", "found", "parts", "step", "deed"]
theorem yyc : FnScope ykc ["value", "words"] (defScope yez) := by simp_all_arith
theorem y24 (F : DG K "deeds_in" "deeds_in" yez dfs kws f fd)
  (yg : mg "len" = none)
  (yjc : mg "set" = none)
  (ye : mg "tuple" = none)
  {yv1 : Addr} {y1o : FuncData} (ynd : FnG P w K mg base Yd 2 yv1 y1o ["value", "words"] (spM K w F_deed_in 2))
  (yp3 : mg "deed_in" = some (.ref yv1)) (yp4 : PySem.W.keepIn K (.ref yv1) = true)
  (yne : Binds K y1o ["value", "words"] [])
  {y0 : Addr} {yam : FuncData} (y8 : FnG P w K mg base Yd 1 y0 yam ["value"] Yla)
  (yac : mg "is_sequence" = some (.ref y0)) (yad : PySem.W.keepIn K (.ref y0) = true)
  (y9 : Binds K yam ["value"] []) :
  FnG P w K mg base Yd 3 f fd ["value", "words"] (spM K w zer 2) :=
 okP (k := 2) F yyc fun cdv A outer s H E hr hgd => by
  have hN := yyc.nd
  have hu := hr.units
  exact zaf (zbf Ycv Yds (zau)) (zaf (by first | exact zdy (i := 2) (own := [("step", 4)]) (T := mYes) (E := zdo) rfl hN rfl rfl rfl (zbs (zab 0)) (by first | exact blkOk_by (N := ykc) (sc := defScope yez) (by decide +kernel) | exact blkOk_by (by with_unfolding_all rfl) | exact blkOk_by (by decide +kernel +revert)) (fun _ _ _ _ _ => pg_name (i := 4) hN rfl Ya) (zae 4) Yj Yfm zas | exact zaz 2 hN (za2 (own := [("step", 4)]) (T := mYes) (E := zdo) rfl hN (zbs (zab 0)) (by first | exact blkOk_by (N := ykc) (sc := defScope yez) (by decide +kernel) | exact blkOk_by (by with_unfolding_all rfl) | exact blkOk_by (by decide +kernel +revert)) (fun _ _ _ _ _ => pg_name (i := 4) hN rfl Ya) (zae 4) Yj Yfm zas)) (zaf (by first | exact zdy (i := 3) (own := [("deed", 5)]) (T := zcy) (E := zc2) rfl hN rfl rfl rfl (zbs (zab 2)) (by first | exact blkOk_by (N := ykc) (sc := defScope yez) (by decide +kernel) | exact blkOk_by (by with_unfolding_all rfl) | exact blkOk_by (by decide +kernel +revert)) (fun _ _ _ _ _ => pg_name (i := 5) hN rfl Ya) (zae 5) Yfn (fun _ _ _ _ _ => zaq (zab 5) (zaj)) zas | exact zaz 3 hN (za2 (own := [("deed", 5)]) (T := zcy) (E := zc2) rfl hN (zbs (zab 2)) (by first | exact blkOk_by (N := ykc) (sc := defScope yez) (by decide +kernel) | exact blkOk_by (by with_unfolding_all rfl) | exact blkOk_by (by decide +kernel +revert)) (fun _ _ _ _ _ => pg_name (i := 5) hN rfl Ya) (zae 5) Yfn (fun _ _ _ _ _ => zaq (zab 5) (zaj)) zas)) (zai (zan (ze6 ((zcf (it_in hu (za6) (zab 2)) (zbt (zf8 hu (ie_lenSet rfl yg yjc (zab 3)) Yfo))).it) (za6) Yju)))))
abbrev y3v : List Str := ["self", "name", "steps", "deeds"]
theorem yv2 : FnScope y3v ["self", "name", "steps"] (defScope yqh) := by simp_all_arith
theorem y2d (F : DG K "__init__" "Kind.__init__" yqh dfs kws f fd)
  (ye : mg "tuple" = none)
  (yg : mg "len" = none)
  {yfj : Addr} {ykd : FuncData} (yf8 : FnG P w K mg base Yd 3 yfj ykd ["value", "words"] (spM K w zer 2))
  (yil : mg "deeds_in" = some (.ref yfj)) (yim : PySem.W.keepIn K (.ref yfj) = true)
  (yf9 : Binds K ykd ["value", "words"] [])
  {yao : Addr} {ya8 : FuncData} (yau : FnG P w K mg base Yd 1 yao ya8 ["value"] Yk9)
  (ya1 : mg "is_name" = some Ykp) (ya2 : PySem.W.keepIn K Ykp = true)
  (yav : Binds K ya8 ["value"] [])
  (yd : ∀ c ∈ (["Kind", "Reader"] : List Str), FldOk K c "deeds")
  (yga : ∀ c ∈ (["Kind", "Reader"] : List Str), FldOk K c "steps")
  (yx : ∀ c ∈ (["Kind", "Reader"] : List Str), FldOk K c "name")
  {yn ya5 : Addr} {ymd : FuncData} (yu : XF P w K mg base "InvalidKind" yn ya5 ymd ["self", "word"] "word")
  {yca : Addr} {o_WRITER_WORDS : Obj} {us_WRITER_WORDS : List Value} {yia : Nat} (yk7 : mg "WRITER_WORDS" = some (.ref yca)) (lk_WRITER_WORDS : K.lookup yca = some o_WRITER_WORDS) (ybs : o_WRITER_WORDS.cls = .type "tuple") (ybt : o_WRITER_WORDS.dict = none) (oa_WRITER_WORDS : o_WRITER_WORDS.data = .seq us_WRITER_WORDS.toArray yia) (or_WRITER_WORDS : Vals ((["write", "bump"] : List Str).map V.str) us_WRITER_WORDS) (oz_WRITER_WORDS : us_WRITER_WORDS.length ≤ 1000) :
  FnG P w K mg base (L2N.CX P w) 4 f fd ["self", "name", "steps"] (spX K w ze0 3) :=
 okX (k := 3) F yv2 fun cdv A outer s H E hr hgd => by
  have hN := yv2.nd
  have hu := hr.units
  exact zaf (zbf Yhi Ye4 (zau)) (zaf (zaz 3 hN (zal (dts := []) (dvs := []) yf8 Yb hgd (by rfl) yil yim yf9 .nil Ye zak (zaa (zab 2) (zaa (ie_globT yk7 lk_WRITER_WORDS ybs ybt oa_WRITER_WORDS or_WRITER_WORDS oz_WRITER_WORDS) (zad))))) (zaf (zbf ((zcf (it_isN (zab 3) (za6)) (zbt (zb1 hu Yfo (zaj)))).it) Ye4 (zau)) (zaf (st_fld yx (zab 0) (zab 1)) (zaf (st_fld yga (zab 0) Yju) (zai (st_fld yd (zab 0) (zab 3)))))))
abbrev y3w : List Str := ["cls", "text", "name", "rest", "error"]
theorem yv3 : FnScope y3w ["cls", "text"] (defScope yqi) := by simp_all_arith
theorem y2e (F : DG K "read" "Kind.read" yqi dfs kws f fd)
  {yfk : Addr} {yke : FuncData} (ygb : FnG P w K mg base Yd 1 yfk yke ["text", "word"] (spM K w zbv 2))
  (yin : mg "named_in" = some (.ref yfk)) (yio : PySem.W.keepIn K (.ref yfk) = true)
  (ygc : Binds K yke ["text", "word"] [])
  {yo : Addr} (yaq : ClsF K mg "Kind" yo)
  {yyd : Addr} {yye : FuncData} (yom : FnG P w K mg base (L2N.CX P w) 4 yyd yye ["self", "name", "steps"] (spX K w ze0 3))
  {yn ya5 : Addr} {ymd : FuncData} (yu : XF P w K mg base "InvalidKind" yn ya5 ymd ["self", "word"] "word")
  {t_BESIDE : Tok} (yji : mg "BESIDE" = some (.str ", " t_BESIDE))
  (y25 : Mk K yo yyd)
  {yj yal : Addr} {yb3 : FuncData} (yf : XF P w K mg base "InvalidText" yj yal yb3 ["self", "at"] "at")
  {t_KIND : Tok} (y26 : mg "KIND" = some (.str "kind " t_KIND))
  (yon : Binds K yye ["self", "name", "steps"] []) :
  FnG P w K mg base Yd 6 f fd ["cls", "text"] (spX K w zce 2) :=
 okX (k := 5) F yv3 fun cdv A outer s H E hr hgd => by
  have hN := yv3.nd
  have hu := hr.units
  exact zaf (zfc (zal (dts := []) (dvs := []) ygb Yb hgd (by rfl) yin yio ygc .nil Ye zak (zaa (zab 1) (zaa (zep y26) (zad)))) (zfg rfl Ycr) (zfd Yco)) (zai (st_tryFrom (B := zda) (F := zfn) rfl rfl hN rfl rfl ⟨rfl, by decide, .inl yu.mg⟩ (L2H.passesAt_of rfl) Yih yu.hit yu.sub (fun W pn xe tkB hpB => zai (zan (ie_frzI (ie_makeL (i := 0) y25 yaq.cn yom Yb hgd rfl (.inl rfl) yon .nil (fun s => by rfl) zf7 (fun σ => L2N.passAt tkB σ) (zaa (zab 2) (zaa (zgm (zab 3) (zep yji)) (zad))))))) Yf1))
abbrev y4m : List Str := ["line"]
theorem yz5 : FnScope y4m ["line"] (defScope yvo) := by simp_all_arith
theorem y3x (F : DG K "kind_in" "kind_in" yvo dfs kws f fd)
  {yo : Addr} (yaq : ClsF K mg "Kind" yo)
  {yyf : Addr} {yyg : FuncData} (yoo : FnG P w K mg base Yd 6 yyf yyg ["cls", "text"] (spX K w zce 2))
  {yj yal : Addr} {yb3 : FuncData} (yf : XF P w K mg base "InvalidText" yj yal yb3 ["self", "at"] "at")
  {mc_Kind : Value} {yka : Addr} (r_Kind : ClX.CRead K yo mc_Kind) (cm_Kind_read : ClX.CMet K yo mc_Kind "read" yka yyf)
  (yqk : Binds K yyg ["cls", "text"] []) :
  FnG P w K mg base Yd 8 f fd ["line"] (spM K w zd5 1) :=
 okP (k := 7) F yz5 fun cdv A outer s H E hr hgd => by
  have hN := yz5.nd
  have hu := hr.units
  exact zai (st_try (B := zdh) (S := f_kind_in_l2) rfl rfl ⟨rfl, by decide, .inl yf.mg⟩ zf4 yf.hit (fun W pn xe tkB hpB => zai (zan (ie_cmeth (dts := []) (dvs := []) yaq.cn r_Kind cm_Kind_read yoo Yb hgd yqk .nil Ye zf7 (fun σ => L2.passAt tkB σ) (ie_cls yaq.cn yaq.mg) Yaz))) (fun a pn => zai (zan (za6))))
abbrev y4n : List Str := ["word", "deeds", "at"]
theorem yz6 : FnScope y4n ["word", "deeds"] (defScope yvp) := by simp_all_arith
theorem y3y (F : DG K "spot_in" "spot_in" yvp dfs kws f fd)
  (yg : mg "len" = none)
  {t_MOST_DIGITS_scripts : Tok} (yem : mg "MOST_DIGITS_scripts" = some (.int (9) t_MOST_DIGITS_scripts))
  {ydb : Addr} {yi0 : FuncData} (yek : FnG P w K mg base Yd 1 ydb yi0 ["word", "digits"] (spM K w zcx 2))
  (yf6 : mg "number_in" = some (.ref ydb)) (yf7 : PySem.W.keepIn K (.ref ydb) = true)
  (yel : Binds K yi0 ["word", "digits"] []) :
  FnG P w K mg base Yd 2 f fd ["word", "deeds"] (spM K w zes 2) :=
 okP (k := 1) F yz6 fun cdv A outer s H E hr hgd => by
  have hN := yz6.nd
  have hu := hr.units
  exact zaf (zaz 2 hN (zal (dts := []) (dvs := []) yek Yb hgd (by rfl) yf6 yf7 yel .nil Ye zak (zaa (zab 0) (zaa (ie_glob (v := .int (9)) (by rfl) yem ⟨_, rfl⟩ Yef) (zad))))) (zai (zan (ze6 ((zdx (zgf (zab 2) (za6)) (zdx (it_ltA (zab 2) Yhg) (zc4 (zb1 hu (zaq (zaq (zab 1) (zab 2)) (zaj)) (zam))))).it) (zab 2) (za6))))
abbrev yv4 : List Str := ["value", "deeds", "parts", "spots", "part"]
theorem yz7 : FnScope yv4 ["value", "deeds"] (defScope yl0) := by simp_all_arith
theorem y3z (F : DG K "test_in" "test_in" yl0 dfs kws f fd)
  (yg : mg "len" = none)
  (ya : mg "isinstance" = none)
  (yap : mg "str" = none)
  {yv5 : Addr} {y1p : FuncData} (ynf : FnG P w K mg base Yd 2 yv5 y1p ["word", "deeds"] (spM K w zes 2))
  (yp5 : mg "spot_in" = some (.ref yv5)) (yp6 : PySem.W.keepIn K (.ref yv5) = true)
  (yng : Binds K y1p ["word", "deeds"] [])
  (hT : ze7 K zbo) :
  FnG P w K mg base Yd 3 f fd ["value", "deeds"] (spM K w F_test_in 2) :=
 okP (k := 2) F yz7 fun cdv A outer s H E hr hgd => by
  have hN := yz7.nd
  have hu := hr.units
  exact zaf (zbf Yc3 Yds (zau)) (zaf (zaz 2 hN (zgm (zab 0) (zam))) (zaf (by first | exact zdy (i := 3) (own := [("part", 4)]) (T := mYes) (E := zcd) rfl hN rfl rfl rfl (zbs (zb6 (zab 2) (zco (zaj)) zds)) (by first | exact blkOk_by (N := yv4) (sc := defScope yl0) (by decide +kernel) | exact blkOk_by (by with_unfolding_all rfl) | exact blkOk_by (by decide +kernel +revert)) (fun _ _ _ _ _ => pg_name (i := 4) hN rfl Ya) (zae 4) Yj Yfp zas | exact zaz 3 hN (za2 (own := [("part", 4)]) (T := mYes) (E := zcd) rfl hN (zbs (zb6 (zab 2) (zco (zaj)) zds)) (by first | exact blkOk_by (N := yv4) (sc := defScope yl0) (by decide +kernel) | exact blkOk_by (by with_unfolding_all rfl) | exact blkOk_by (by decide +kernel +revert)) (fun _ _ _ _ _ => pg_name (i := 4) hN rfl Ya) (zae 4) Yj Yfp zas)) (zaf (zbf (it_in hu (za6) (zab 3)) Yds (zau)) (zaf (zbf ((zdx (zb1 hu Ybk (zam)) (zc4 (zb1 hu Yfo (zaj)))).it) (zai (zan (zat (zaa (zam) (zaa Yey (zad)))))) (zau)) (zaf (zbf ((zcf (zf8 hu Ybk (zam)) (zcf (zf8 hu Yfo (zaj)) (zbt (it_ge Yey Yey)))).it) Yds (zau)) (zai (zan (ze6 (zb1 hu (zaq (zaq (zab 1) Yey) (zaj)) (zaq (zaq (zab 1) Yey) (zaj))) (zat (zaa (zam) (zaa Yey (zaa Yey (zad))))) (za6)))))))))
abbrev yto : List Str := ["value", "deeds", "found", "check"]
theorem yyh : FnScope yto ["value", "deeds"] (defScope yj2) := by simp_all_arith
theorem y27 (F : DG K "tests_in" "tests_in" yj2 dfs kws f fd)
  (yg : mg "len" = none)
  (yjc : mg "set" = none)
  (ye : mg "tuple" = none)
  {yv6 : Addr} {y1q : FuncData} (ynh : FnG P w K mg base Yd 3 yv6 y1q ["value", "deeds"] (spM K w F_test_in 2))
  (yp7 : mg "test_in" = some (.ref yv6)) (yp8 : PySem.W.keepIn K (.ref yv6) = true)
  (yni : Binds K y1q ["value", "deeds"] [])
  {y0 : Addr} {yam : FuncData} (y8 : FnG P w K mg base Yd 1 y0 yam ["value"] Yla)
  (yac : mg "is_sequence" = some (.ref y0)) (yad : PySem.W.keepIn K (.ref y0) = true)
  (y9 : Binds K yam ["value"] []) :
  FnG P w K mg base Yd 4 f fd ["value", "deeds"] (spM K w zdg 2) :=
 okP (k := 3) F yyh fun cdv A outer s H E hr hgd => by
  have hN := yyh.nd
  have hu := hr.units
  exact zaf (zbf Ycv Yds (zau)) (zaf (by first | exact zdy (i := 2) (own := [("check", 3)]) (T := mYes) (E := zdk) rfl hN rfl rfl rfl (zbs (zab 0)) (by first | exact blkOk_by (N := yto) (sc := defScope yj2) (by decide +kernel) | exact blkOk_by (by with_unfolding_all rfl) | exact blkOk_by (by decide +kernel +revert)) (fun _ _ _ _ _ => pg_name (i := 3) hN rfl Ya) (zae 3) Yj Yfq zas | exact zaz 2 hN (za2 (own := [("check", 3)]) (T := mYes) (E := zdk) rfl hN (zbs (zab 0)) (by first | exact blkOk_by (N := yto) (sc := defScope yj2) (by decide +kernel) | exact blkOk_by (by with_unfolding_all rfl) | exact blkOk_by (by decide +kernel +revert)) (fun _ _ _ _ _ => pg_name (i := 3) hN rfl Ya) (zae 3) Yj Yfq zas)) (zai (zan (ze6 ((zcf (it_in hu (za6) (zab 2)) (zbt (zf8 hu (ie_lenSetT rfl hu yg yjc (zab 2)) Yj8))).it) (za6) Yju))))
abbrev yuo : List Str := ["self", "name", "steps", "checks", "deeds", "tests", "word", "part"]
theorem ysw : FnScope yuo ["self", "name", "steps", "checks"] (defScope yab) := by simp_all_arith
theorem yz8 (F : DG K "__init__" "Reader.__init__" yab dfs kws f fd)
  (ye : mg "tuple" = none)
  {ytp : Addr} {yz9 : FuncData} (yql : FnG P w K mg base Yd 4 ytp yz9 ["value", "deeds"] (spM K w zdg 2))
  (ytq : mg "tests_in" = some (.ref ytp)) (ytr : PySem.W.keepIn K (.ref ytp) = true)
  (yqm : Binds K yz9 ["value", "deeds"] [])
  {yfj : Addr} {ykd : FuncData} (yf8 : FnG P w K mg base Yd 3 yfj ykd ["value", "words"] (spM K w zer 2))
  (yil : mg "deeds_in" = some (.ref yfj)) (yim : PySem.W.keepIn K (.ref yfj) = true)
  (yf9 : Binds K ykd ["value", "words"] [])
  {yao : Addr} {ya8 : FuncData} (yau : FnG P w K mg base Yd 1 yao ya8 ["value"] Yk9)
  (ya1 : mg "is_name" = some Ykp) (ya2 : PySem.W.keepIn K Ykp = true)
  (yav : Binds K ya8 ["value"] [])
  (ygd : ∀ c ∈ (["Reader"] : List Str), FldOk K c "tests")
  (yd : ∀ c ∈ (["Kind", "Reader"] : List Str), FldOk K c "deeds")
  (yop : ∀ c ∈ (["Reader"] : List Str), FldOk K c "checks")
  (yga : ∀ c ∈ (["Kind", "Reader"] : List Str), FldOk K c "steps")
  (yx : ∀ c ∈ (["Kind", "Reader"] : List Str), FldOk K c "name")
  {yi yar : Addr} {ykf : FuncData} (yh : XF P w K mg base "InvalidReader" yi yar ykf ["self", "word"] "word")
  {ycb : Addr} {o_READER_WORDS : Obj} {us_READER_WORDS : List Value} {yib : Nat} (yk8 : mg "READER_WORDS" = some (.ref ycb)) (lk_READER_WORDS : K.lookup ycb = some o_READER_WORDS) (ybu : o_READER_WORDS.cls = .type "tuple") (ybv : o_READER_WORDS.dict = none) (oa_READER_WORDS : o_READER_WORDS.data = .seq us_READER_WORDS.toArray yib) (or_READER_WORDS : Vals ((["read", "look"] : List Str).map V.str) us_READER_WORDS) (oz_READER_WORDS : us_READER_WORDS.length ≤ 1000) :
  FnG P w K mg base (L2N.CX P w) 5 f fd ["self", "name", "steps", "checks"] (spX K w zdm 4) :=
 okX (k := 4) F ysw fun cdv A outer s H E hr hgd => by
  have hN := ysw.nd
  have hu := hr.units
  exact zaf (zbf Yhi Yc1 (zau)) (zaf (zaz 4 hN (zal (dts := []) (dvs := []) yf8 Yb hgd (by rfl) yil yim yf9 .nil Ye zak (zaa (zab 2) (zaa (ie_globT yk8 lk_READER_WORDS ybu ybv oa_READER_WORDS or_READER_WORDS oz_READER_WORDS) (zad))))) (zaf (zbf ((zcf (it_isN (zab 4) (za6)) (zbt (it_nin hu (zam) (za2 (own := [("word", 6), ("part", 7)]) (T := mYes) (E := zck) rfl hN (zbs (zab 4)) (by first | exact blkOk_by (N := yuo) (sc := defScope yab) (by decide +kernel) | exact blkOk_by (by with_unfolding_all rfl) | exact blkOk_by (by decide +kernel +revert)) (fun _ _ _ _ _ => pg_tup rfl Yfw) Ydn Yj Yhw zas)))).it) Yc1 (zau)) (zaf (zaz 5 hN (zal (dts := []) (dvs := []) yql Yb hgd (by rfl) ytq ytr yqm .nil Ye zak (zaa (zab 3) Ydm))) (zaf (zbf (it_isN (zab 5) (za6)) Yc1 (zau)) (zaf (st_fld yx (zab 0) (zab 1)) (zaf (st_fld yga (zab 0) Yju) (zaf (st_fld yop (zab 0) (zdw zbr zeg Y3 ye)) (zaf (st_fld yd (zab 0) (zab 4)) (zai (st_fld ygd (zab 0) (zab 5)))))))))))
abbrev y2f : List Str := ["cls", "text", "name", "rest", "steps", "gap", "checks", "error"]
theorem ysx : FnScope y2f ["cls", "text"] (defScope yl9) := by simp_all_arith
theorem y0a (F : DG K "read" "Reader.read" yl9 dfs kws f fd)
  {yfk : Addr} {yke : FuncData} (ygb : FnG P w K mg base Yd 1 yfk yke ["text", "word"] (spM K w zbv 2))
  (yin : mg "named_in" = some (.ref yfk)) (yio : PySem.W.keepIn K (.ref yfk) = true)
  (ygc : Binds K yke ["text", "word"] [])
  {ym : Addr} (yax : ClsF K mg "Reader" ym)
  {yup : Addr} {yuq : FuncData} (yk9 : FnG P w K mg base (L2N.CX P w) 5 yup yuq ["self", "name", "steps", "checks"] (spX K w zdm 4))
  {yi yar : Addr} {ykf : FuncData} (yh : XF P w K mg base "InvalidReader" yi yar ykf ["self", "word"] "word")
  {t_BESIDE : Tok} (yji : mg "BESIDE" = some (.str ", " t_BESIDE))
  (yy4 : Mk K ym yup)
  {yj yal : Addr} {yb3 : FuncData} (yf : XF P w K mg base "InvalidText" yj yal yb3 ["self", "at"] "at")
  {t_IF : Tok} (y4t : mg "IF" = some (.str " if " t_IF))
  {t_READER : Tok} (yy5 : mg "READER" = some (.str "reader " t_READER))
  (yla : Binds K yuq ["self", "name", "steps", "checks"] []) :
  FnG P w K mg base Yd 7 f fd ["cls", "text"] (spX K w zbk 2) :=
 okX (k := 6) F ysx fun cdv A outer s H E hr hgd => by
  have hN := ysx.nd
  have hu := hr.units
  exact zaf (zfc (zal (dts := []) (dvs := []) ygb Yb hgd (by rfl) yin yio ygc .nil Ye zak (zaa (zab 1) (zaa (zep yy5) (zad)))) (zfg rfl Ycr) (zfd Yco)) (zaf (zfc (ie_partition (zab 3) (zep y4t)) (zfg rfl (pgs_cons Ycw Yha)) (zfd (zag (zae 4) Yhb))) (zaf (zbf ((zdx (zf8 hu (zab 5) (zam)) (zc4 (zb1 hu (zab 6) (zam)))).it) (zai (st_raise rfl (takesN Yih) (xc_cold yf.T yf.iC yf.tI yf.cn yf.ok Yb yf.bd rfl yf.mg Ydt))) (zau)) (zai (st_tryFrom (B := zbq) (F := zeb) rfl rfl hN rfl rfl ⟨rfl, by decide, .inl yh.mg⟩ (L2H.passesAt_of rfl) Yih yh.hit yh.sub (fun W pn xe tkB hpB => zai (zan (ie_frzI (ie_makeL (i := 0) yy4 yax.cn yk9 Yb hgd rfl (.inl rfl) yla .nil (fun s => by rfl) zf7 (fun σ => L2N.passAt tkB σ) (zaa (zab 2) (zaa (zgm (zab 4) (zep yji)) (zaa (ze6 (zf8 hu (zab 5) (zam)) (zgm (zab 6) (zep yji)) (zat (zad))) (zad)))))))) Yf1))))
abbrev y30 : List Str := ["line"]
theorem yv7 : FnScope y30 ["line"] (defScope yqj) := by simp_all_arith
theorem y2g (F : DG K "reader_in" "reader_in" yqj dfs kws f fd)
  {ym : Addr} (yax : ClsF K mg "Reader" ym)
  {yur : Addr} {yus : FuncData} (ylb : FnG P w K mg base Yd 7 yur yus ["cls", "text"] (spX K w zbk 2))
  {yj yal : Addr} {yb3 : FuncData} (yf : XF P w K mg base "InvalidText" yj yal yb3 ["self", "at"] "at")
  {mc_Reader : Value} {yig : Addr} (r_Reader : ClX.CRead K ym mc_Reader) (cm_Reader_read : ClX.CMet K ym mc_Reader "read" yig yur)
  (yme : Binds K yus ["cls", "text"] []) :
  FnG P w K mg base Yd 9 f fd ["line"] (spM K w zcu 1) :=
 okP (k := 8) F yv7 fun cdv A outer s H E hr hgd => by
  have hN := yv7.nd
  have hu := hr.units
  exact zai (st_try (B := zcm) (S := f_reader_in_l2) rfl rfl ⟨rfl, by decide, .inl yf.mg⟩ zf4 yf.hit (fun W pn xe tkB hpB => zai (zan (ie_cmeth (dts := []) (dvs := []) yax.cn r_Reader cm_Reader_read ylb Yb hgd yme .nil Ye zf7 (fun σ => L2.passAt tkB σ) (ie_cls yax.cn yax.mg) Yaz))) (fun a pn => zai (zan (za6))))
abbrev y28 : List Str := ["names"]
theorem yut : FnScope y28 ["names"] (defScope ynp) := by simp_all_arith
theorem y03 (F : DG K "are_unlike" "are_unlike" ynp dfs kws f fd)
  (yg : mg "len" = none)
  (yjc : mg "set" = none) :
  FnG P w K mg base Yd 1 f fd ["names"] (spM K w zdf 1) :=
 okP (k := 0) F yut fun cdv A outer s H E hr hgd => by
  have hN := yut.nd
  have hu := hr.units
  exact zai (zan (ie_and (ie_gt Yd2 (zaj)) (ie_one (ie_eq hu (ie_lenSet rfl yg yjc (zab 0)) Yd2))))
abbrev yqn : List Str := ["value", "one"]
theorem yv8 : FnScope yqn ["value"] (defScope yix) := by simp_all_arith
theorem y2h (F : DG K "are_kinds" "are_kinds" yix dfs kws f fd)
  (ya0 : mg "all" = none)
  (ya : mg "isinstance" = none)
  {yct : Addr} {yg2 : FuncData} (yc3 : FnG P w K mg base Yd 1 yct yg2 ["names"] (spM K w zdf 1))
  (yen : mg "are_unlike" = some (.ref yct)) (yeo : PySem.W.keepIn K (.ref yct) = true)
  (yc4 : Binds K yg2 ["names"] [])
  {y0 : Addr} {yam : FuncData} (y8 : FnG P w K mg base Yd 1 y0 yam ["value"] Yla)
  (yac : mg "is_sequence" = some (.ref y0)) (yad : PySem.W.keepIn K (.ref y0) = true)
  (y9 : Binds K yam ["value"] [])
  {yo : Addr} (yaq : ClsF K mg "Kind" yo)
  (yx : ∀ c ∈ (["Kind", "Reader"] : List Str), FldOk K c "name")
  (hT : ze7 K zbo) :
  FnG P w K mg base Yd 2 f fd ["value"] (spM K w zgn 1) :=
 okP (k := 1) F yv8 fun cdv A outer s H E hr hgd => by
  have hN := yv8.nd
  have hu := hr.units
  exact zaf (zbf ((zcf Ycv (zbt (zbi (zbc (zbg Yh4 ok_all (zaa (za2 (own := [("one", 1)]) (T := mYes) (E := zdb) rfl hN Ylb Yb1 Yc9 (zae 1) Yj (fun _ _ _ _ _ => zbg za9 (zcv hT) (zaa (zab 1) (zaa (ie_cls yaq.cn yaq.mg) (zad))) ya) zas) (zad)) ya0))))).it) Y4 (zau)) (zai (zan (zal (dts := []) (dvs := []) yc3 Yb hgd (by rfl) yen yeo yc4 .nil Ye zak (zaa (za2 (own := [("one", 1)]) (T := mYes) (E := zd1) rfl hN Ylb Yb1 Yc9 (zae 1) Yj (fun _ _ _ _ _ => zbn yx (zab 1)) zas) (zad)))))
abbrev ymf : List Str := ["value", "one"]
theorem ysy : FnScope ymf ["value"] (defScope yfm) := by simp_all_arith
theorem y0b (F : DG K "are_readers" "are_readers" yfm dfs kws f fd)
  (ya0 : mg "all" = none)
  (ya : mg "isinstance" = none)
  {yct : Addr} {yg2 : FuncData} (yc3 : FnG P w K mg base Yd 1 yct yg2 ["names"] (spM K w zdf 1))
  (yen : mg "are_unlike" = some (.ref yct)) (yeo : PySem.W.keepIn K (.ref yct) = true)
  (yc4 : Binds K yg2 ["names"] [])
  {y0 : Addr} {yam : FuncData} (y8 : FnG P w K mg base Yd 1 y0 yam ["value"] Yla)
  (yac : mg "is_sequence" = some (.ref y0)) (yad : PySem.W.keepIn K (.ref y0) = true)
  (y9 : Binds K yam ["value"] [])
  {ym : Addr} (yax : ClsF K mg "Reader" ym)
  (yx : ∀ c ∈ (["Kind", "Reader"] : List Str), FldOk K c "name")
  (hT : ze7 K zbo) :
  FnG P w K mg base Yd 2 f fd ["value"] (spM K w zek 1) :=
 okP (k := 1) F ysy fun cdv A outer s H E hr hgd => by
  have hN := ysy.nd
  have hu := hr.units
  exact zaf (zbf ((zcf Ycv (zbt (zbi (zbc (zbg Yh4 ok_all (zaa (za2 (own := [("one", 1)]) (T := mYes) (E := zcj) rfl hN Ylb Yb2 Yc9 (zae 1) Yj (fun _ _ _ _ _ => zbg za9 (zcv hT) (zaa (zab 1) (zaa (ie_cls yax.cn yax.mg) (zad))) ya) zas) (zad)) ya0))))).it) Y4 (zau)) (zai (zan (zal (dts := []) (dvs := []) yc3 Yb hgd (by rfl) yen yeo yc4 .nil Ye zak (zaa (za2 (own := [("one", 1)]) (T := mYes) (E := zdc) rfl hN Ylb Yb2 Yc9 (zae 1) Yj (fun _ _ _ _ _ => zbn yx (zab 1)) zas) (zad)))))
abbrev y29 : List Str := ["value"]
theorem yuu : FnScope y29 ["value"] (defScope ynq) := by simp_all_arith
theorem y04 (F : DG K "is_integer" "is_integer" ynq dfs kws f fd)
  (ya : mg "isinstance" = none)
  (ysz : mg "bool" = none)
  (yc9 : mg "int" = none)
  (hT : ze7 K zbo) :
  FnG P w K mg base Yd 1 f fd ["value"] (spM K w zbz 1) :=
 okP (k := 0) F yuu fun cdv A outer s H E hr hgd => by
  have hN := yuu.nd
  have hu := hr.units
  exact zai (zan (ie_and (zbg za9 (zcv hT) (zaa (zab 0) (zaa (ze9 yc9 Yu) (zad))) ya) (ie_one (ie_not (zbg za9 (zcv hT) (zaa (zab 0) (zaa (ze9 ysz Yu) (zad))) ya)))))
abbrev y4c : List Str := ["value"]
theorem yyi : FnScope y4c ["value"] (defScope yti) := by simp_all_arith
theorem y3a (F : DG K "is_round" "is_round" yti dfs kws f fd)
  (ya : mg "isinstance" = none)
  (ye : mg "tuple" = none)
  (yg : mg "len" = none)
  {t_LEAST_ROUND : Tok} (ymg : mg "LEAST_ROUND" = some (.int (2) t_LEAST_ROUND))
  {ya3 : Addr} {ybq : FuncData} (yba : FnG P w K mg base Yd 1 ya3 ybq ["value"] (spM K w zbz 1))
  (ybg : mg "is_integer" = some (.ref ya3)) (ybh : PySem.W.keepIn K (.ref ya3) = true)
  (ybb : Binds K ybq ["value"] [])
  {yao : Addr} {ya8 : FuncData} (yau : FnG P w K mg base Yd 1 yao ya8 ["value"] Yk9)
  (ya1 : mg "is_name" = some Ykp) (ya2 : PySem.W.keepIn K Ykp = true)
  (yav : Binds K ya8 ["value"] [])
  (hT : ze7 K zbo) :
  FnG P w K mg base Yd 2 f fd ["value"] (spM K w F_is_round 1) :=
 okP (k := 1) F yyi fun cdv A outer s H E hr hgd => by
  have hN := yyi.nd
  have hu := hr.units
  exact zaf (zbf ((zcf (zbi Yc6) (zcf (zf8 hu Yd2 (zaj)) (zbt (zbi (zbc (zal (dts := []) (dvs := []) yau Yb hgd (by rfl) ya1 ya2 yav .nil Ye zak (zaa Ygm (zad)))))))).it) Y4 (zau)) (zai (zan (ie_and (zal (dts := []) (dvs := []) yba Yb hgd (by rfl) ybg ybh ybb .nil Ye zak (zaa Ygm (zad))) (ie_one (ie_ge Ygm (ie_glob (v := .int (2)) (by rfl) ymg ⟨_, rfl⟩ Yef))))))
abbrev yoq : List Str := ["value", "one", "counter", "size"]
theorem yuv : FnScope yoq ["value"] (defScope ygv) := by simp_all_arith
theorem y05 (F : DG K "are_rounds" "are_rounds" ygv dfs kws f fd)
  (yg : mg "len" = none)
  (yjc : mg "set" = none)
  (ya0 : mg "all" = none)
  {y0 : Addr} {yam : FuncData} (y8 : FnG P w K mg base Yd 1 y0 yam ["value"] Yla)
  (yac : mg "is_sequence" = some (.ref y0)) (yad : PySem.W.keepIn K (.ref y0) = true)
  (y9 : Binds K yam ["value"] [])
  {yts : Addr} {y0c : FuncData} (yqo : FnG P w K mg base Yd 2 yts y0c ["value"] (spM K w F_is_round 1))
  (ytt : mg "is_round" = some (.ref yts)) (ytu : PySem.W.keepIn K (.ref yts) = true)
  (yqp : Binds K y0c ["value"] []) :
  FnG P w K mg base Yd 3 f fd ["value"] (spM K w zfk 1) :=
 okP (k := 2) F yuv fun cdv A outer s H E hr hgd => by
  have hN := yuv.nd
  have hu := hr.units
  exact zaf (zbf ((zcf Ycv (zbt (zbi (zbc (zbg Yh4 ok_all (zaa (za2 (own := [("one", 1)]) (T := mYes) (E := zct) rfl hN Ylb Yb3 Yc9 (zae 1) Yj (fun _ _ _ _ _ => zal (dts := []) (dvs := []) yqo Yb hgd (by rfl) ytt ytu yqp .nil Ye zak Yad) zas) (zad)) ya0))))).it) Y4 (zau)) (zai (zan (ie_eq hu (ie_lenSet rfl yg yjc (za2 (own := [("counter", 2), ("size", 3)]) (T := mYes) (E := zcr) rfl hN Ylb Yb3 (fun _ _ _ _ _ => pg_tup rfl Ycr) (zc3 Yco) Yj (fun _ _ _ _ _ => zab 2) zas)) Yd2)))
abbrev y2i : List Str := ["self", "kinds", "readers", "rounds"]
theorem ys0 : FnScope y2i ["self", "kinds", "readers", "rounds"] (defScope yak) := by simp_all_arith
theorem y0d (F : DG K "__init__" "Design.__init__" yak dfs kws f fd)
  (ye : mg "tuple" = none)
  (yb4 : mg "sorted" = none)
  {yor : Addr} {yv9 : FuncData} (ymh : FnG P w K mg base Yd 3 yor yv9 ["value"] (spM K w zfk 1))
  (yos : mg "are_rounds" = some (.ref yor)) (yot : PySem.W.keepIn K (.ref yor) = true)
  (ymi : Binds K yv9 ["value"] [])
  {ymj : Addr} {yuw : FuncData} (ylc : FnG P w K mg base Yd 2 ymj yuw ["value"] (spM K w zek 1))
  (ymk : mg "are_readers" = some (.ref ymj)) (yml : PySem.W.keepIn K (.ref ymj) = true)
  (yle : Binds K yuw ["value"] [])
  {yqq : Addr} {yyj : FuncData} (you : FnG P w K mg base Yd 2 yqq yyj ["value"] (spM K w zgn 1))
  (yqr : mg "are_kinds" = some (.ref yqq)) (yqs : PySem.W.keepIn K (.ref yqq) = true)
  (yov : Binds K yyj ["value"] [])
  (yep : ∀ c ∈ (["Design"] : List Str), FldOk K c "rounds")
  (ya6 : ∀ c ∈ (["Design"] : List Str), FldOk K c "readers")
  (yaa : ∀ c ∈ (["Design"] : List Str), FldOk K c "kinds") :
  FnG P w K mg base Yd 4 f fd ["self", "kinds", "readers", "rounds"] (spX K w zcz 4) :=
 okX (k := 3) F ys0 fun cdv A outer s H E hr hgd => by
  have hN := ys0.nd
  have hu := hr.units
  exact zaf (zbf (zbi (zbc (zal (dts := []) (dvs := []) you Yb hgd (by rfl) yqr yqs yov .nil Ye zak Yad))) (zai (st_bad)) (zau)) (zaf (zbf (zbi (zbc (zal (dts := []) (dvs := []) ylc Yb hgd (by rfl) ymk yml yle .nil Ye zak Yay))) (zai (st_bad)) (zau)) (zaf (zbf (zbi (zbc (zal (dts := []) (dvs := []) ymh Yb hgd (by rfl) yos yot ymi .nil Ye zak Y3))) (zai (st_bad)) (zau)) (zaf (st_fld yaa (zab 0) (zdw zbr zeg Yad ye)) (zaf (st_fld ya6 (zab 0) Yju) (zai (st_fld yep (zab 0) (zdw zbr zeg (zaa (zbg (cr_sortRQ hu) ok_sortQ Y3 yb4) (zad)) ye)))))))
abbrev ymm : List Str := ["cls", "text", "lots", "place", "at", "line", "told", "fitting", "spot"]
theorem ys1 : FnScope ymm ["cls", "text"] (defScope yfn) := by simp_all_arith
theorem y0e (F : DG K "read" "Design.read" yfn dfs kws f fd)
  (ybf : mg "enumerate" = none)
  (yg : mg "len" = none)
  (ybx : mg "range" = none)
  {yqt : Addr} {yyk : FuncData} (yow : FnG P w K mg base Yd 9 yqt yyk ["line"] (spM K w zcu 1))
  (yqu : mg "reader_in" = some (.ref yqt)) (yqv : PySem.W.keepIn K (.ref yqt) = true)
  (yox : Binds K yyk ["line"] [])
  {ywa : Addr} {y1r : FuncData} (ytv : FnG P w K mg base Yd 8 ywa y1r ["line"] (spM K w zd5 1))
  (ywb : mg "kind_in" = some (.ref ywa)) (ywc : PySem.W.keepIn K (.ref ywa) = true)
  (ytw : Binds K y1r ["line"] [])
  {ytx : Addr} {y0f : FuncData} (yqw : FnG P w K mg base Yd 2 ytx y0f ["line"] (spM K w zd0 1))
  (yty : mg "round_in" = some (.ref ytx)) (ytz : PySem.W.keepIn K (.ref ytx) = true)
  (yqx : Binds K y0f ["line"] [])
  {yb : Addr} (yc : ClsF K mg "Design" yb)
  {yux : Addr} {yuy : FuncData} (ylf : FnG P w K mg base Yd 4 yux yuy ["self", "kinds", "readers", "rounds"] (spX K w zcz 4))
  (yy6 : Mk K yb yux)
  (ylg : Binds K yuy ["self", "kinds", "readers", "rounds"] []) :
  FnG P w K mg base Yd 10 f fd ["cls", "text"] (spX K w zbj 2) :=
 okX (k := 9) F ys1 fun cdv A outer s H E hr hgd => by
  have hN := ys1.nd
  have hu := hr.units
  exact zaf (zaz 2 hN (ie_tpl (zaa (ie_lstL (zad)) (zaa (ie_lstL (zad)) (zaa (ie_lstL (zad)) (zad)))))) (zaf (zaz 3 hN (zaj)) (zaf (st_for (B := zax) (L2.passes_of rfl) rfl (ii_en (by rfl) ybf (zaa (zgm (zab 1) (zam)) (zad))) (pg_tup rfl Yfv) Ydl (zaf (zaz 6 hN (zat (zaa (zal (dts := []) (dvs := []) yqw Yb hgd (by rfl) yty ytz yqx .nil Ye zak Yci) (zaa (zal (dts := []) (dvs := []) ytv Yb hgd (by rfl) ywb ywc ytw .nil Ye zak Yci) (zaa (zal (dts := []) (dvs := []) yow Yb hgd (by rfl) yqu yqv yox .nil Ye zak Yci) (zad)))))) (zaf (by first | exact zdy (i := 7) (own := [("spot", 8)]) (T := zby) (E := zbx) rfl hN rfl rfl rfl (ii_rng1 (by rfl) ybx (zaa (zaj) (zad))) (by first | exact blkOk_by (N := ymm) (sc := defScope yfn) (by decide +kernel) | exact blkOk_by (by with_unfolding_all rfl) | exact blkOk_by (by decide +kernel +revert)) (fun _ _ _ _ _ => pg_name (i := 8) hN rfl Ya) (zae 8) Ygt (fun _ _ _ _ _ => zab 8) zas | exact zaz 7 hN (za2 (own := [("spot", 8)]) (T := zby) (E := zbx) rfl hN (ii_rng1 (by rfl) ybx (zaa (zaj) (zad))) (by first | exact blkOk_by (N := ymm) (sc := defScope yfn) (by decide +kernel) | exact blkOk_by (by with_unfolding_all rfl) | exact blkOk_by (by decide +kernel +revert)) (fun _ _ _ _ _ => pg_name (i := 8) hN rfl Ya) (zae 8) Ygt (fun _ _ _ _ _ => zab 8) zas)) (zaf (zbf (zb1 hu (zbg call_len zb4 (zaa (zab 7) (zad)) yg) (zaj)) (zai (st_bad)) (zau)) (zaf (zaz 3 hN (zaq (zab 7) (zaj))) (zai (st_expr (ie_append (ie_ixTpl (zab 2) (zab 3)) (zaa (zaq (zab 6) (zab 3)) (zad)))))))))) (zai (zan (ie_frzI (ie_makeL (i := 0) yy6 yc.cn ylf Yb hgd rfl (.inl rfl) ylg .nil (fun s => by rfl) zf7 (fun σ => L2.passAt Yih σ) (zaa Ylc (zaa Ylc (zaa Ylc (zad))))))))))
abbrev y4u : List Str := ["_law_deal_here", "_law_wide", "_law_great", "_law_cell"]
theorem y1s : FnScope y4u ["_law_deal_here", "_law_wide"] (defScope yyz) := by simp_all_arith
theorem y4d (F : DG K "_law_draw" "_law_draw" yyz dfs kws f fd)
  (yc9 : mg "int" = none) :
  FnG P w K mg base Yd 1 f fd ["_law_deal_here", "_law_wide"] (spM K w zdr 2) :=
 okM (k := 0) F y1s fun cdv A outer s H E hr hgd => by
  have hN := y1s.nd
  have hu := hr.units
  exact zaf (zaz 2 hN (ie_dget hu (zab 0) (zam))) (zaf (st_while (B := ze4) 4096 PassesOwn.never ((zdx (zf8 hu (zab 2) (ie_lstF (zad))) (zc4 (zb1 hu (zaq (zab 2) (ie_neg (zaj))) (zaj)))).it) (zai (st_expr (ie_pop (zab 2))))) (zaf (zbf (zf8 hu (zab 2) (ie_lstF (zad))) (zaf (zaz 3 hN (ie_pop (zab 2))) (zaf (st_expr (ie_append (zab 2) (zaa (ie_div (zab 3) (zab 1)) (zad)))) (zai (zan (ie_mod (zdw call_int1 ok_int Y3 yc9) (zab 1)))))) (zau)) (zaf (st_dput hu (zab 0) (zam) (ie_mod (zdw call_int1 ok_int (zaa (zdd (ie_mulA (ie_dget hu (zab 0) (zam)) (zaj)) (zaj)) (zad)) yc9) (zaj))) (zai (zan (ie_mod (zdw call_int1 ok_int (zaa (ie_div (ie_dget hu (zab 0) (zam)) (zaj)) (zad)) yc9) (zab 1)))))))
abbrev y4v : List Str := ["_law_deal_here", "_law_some"]
theorem y1t : FnScope y4v ["_law_deal_here", "_law_some"] (defScope yy0) := by simp_all_arith
theorem y4e (F : DG K "_law_pick" "_law_pick" yy0 dfs kws f fd)
  (yg : mg "len" = none)
  {yjj : Addr} {yoy : FuncData} (yew : FnG P w K mg base Yd 1 yjj yoy ["_law_deal_here", "_law_wide"] (spM K w zdr 2))
  (yg3 : mg "_law_draw" = some (.ref yjj)) (yg4 : PySem.W.keepIn K (.ref yjj) = true)
  (yex : Binds K yoy ["_law_deal_here", "_law_wide"] []) :
  FnG P w K mg base Yd 2 f fd ["_law_deal_here", "_law_some"] (spM K w F_w_pick 2) :=
 okM (k := 1) F y1t fun cdv A outer s H E hr hgd => by
  have hN := y1t.nd
  have hu := hr.units
  exact zai (zan (zaq (zab 1) (zal (dts := []) (dvs := []) yew Yb hgd (by rfl) yg3 yg4 yex .nil Ye fnM_len (zaa (zab 0) (zaa Yhg (zad))))))
abbrev y06 : List Str := ["_law_deal_here", "_law_deep", "_law_form", "_law_some", "_law_words", "_law_k"]
theorem y3b : FnScope y06 ["_law_deal_here", "_law_deep"] (defScope yq7) := by simp_all_arith
theorem y4o (F : DG K "_law_any" "_law_any" yq7 dfs kws f fd)
  {G : OpN} {r : Nat} (hG : ∀ ws hp, ws.length ≠ 2 → G ws hp = .bad)
  (ye : mg "tuple" = none)
  (ybx : mg "range" = none)
  {yy7 : Addr} {y3c : FuncData} (ywd : FnG P w K mg base Yd 2 yy7 y3c ["_law_deal_here", "_law_some"] (spM K w F_w_pick 2))
  (yy8 : mg "_law_pick" = some (.ref yy7)) (yy9 : PySem.W.keepIn K (.ref yy7) = true)
  (ywe : Binds K y3c ["_law_deal_here", "_law_some"] [])
  {yjj : Addr} {yoy : FuncData} (yew : FnG P w K mg base Yd 1 yjj yoy ["_law_deal_here", "_law_wide"] (spM K w zdr 2))
  (yg3 : mg "_law_draw" = some (.ref yjj)) (yg4 : PySem.W.keepIn K (.ref yjj) = true)
  (yex : Binds K yoy ["_law_deal_here", "_law_wide"] [])
  {ylh : Addr} {ys2 : FuncData} (yg5 : FnG P w K mg base Yd (13 + r) ylh ys2 ["_law_deal_here", "_law_deep"] (spM K w G 2))
  (yli : mg "_law_any" = some (.ref ylh)) (ylj : PySem.W.keepIn K (.ref ylh) = true)
  (yjk : Binds K ys2 ["_law_deal_here", "_law_deep"] [])
  {yb : Addr} (yc : ClsF K mg "Design" yb)
  {yfu : Addr} {yfv : FuncData} (ybe : FnG P w K mg base Yd 10 yfu yfv ["cls", "text"] (spX K w zbj 2))
  {mc_Design : Value} {ycg : Addr} (r_Design : ClX.CRead K yb mc_Design) (cm_Design_read : ClX.CMet K yb mc_Design "read" ycg yfu)
  (ybo : Binds K yfv ["cls", "text"] []) :
  FnG P w K mg base Yd (13 + r + 1) f fd ["_law_deal_here", "_law_deep"] (spM K w (S_w_any G) 2) :=
 okM (k := 13 + r) F y3b fun cdv A outer s H E hr hgd => by
  have hN := y3b.nd
  have hu := hr.units
  exact zaf (zaz 2 hN (zal (dts := []) (dvs := []) yew Yjl hgd (by rfl) yg3 yg4 yex .nil Ye fnM_len (zaa (zab 0) Ydt))) (zaf (zbf ((zdx (it_ltA (zab 2) (zaj)) (zc4 (it_gt (zab 1) (zaj)))).it) (zaf (by first | exact zdy (i := 3) (own := [("_law_k", 5)]) (T := mYes) (E := (f_w_any_c1 G)) rfl hN rfl rfl rfl (ii_rng1 (by rfl) ybx (zaa (zal (dts := []) (dvs := []) yew (hr.mono (Nat.le_add_right_of_le (by decide))) hgd (by rfl) yg3 yg4 yex .nil (fun s => rfl) fnM_len (zaa (zab 0) Ydt)) (zad))) Yb4 (fun _ _ _ _ _ => pg_name (i := 5) hN rfl Ya) (zae 5) Yj Yda zas | exact zaz 3 hN (za2 (own := [("_law_k", 5)]) (T := mYes) (E := (f_w_any_c1 G)) rfl hN (ii_rng1 (by rfl) ybx (zaa (zal (dts := []) (dvs := []) yew (hr.mono (Nat.le_add_right_of_le (by decide))) hgd (by rfl) yg3 yg4 yex .nil (fun s => rfl) fnM_len (zaa (zab 0) Ydt)) (zad))) Yb4 (fun _ _ _ _ _ => pg_name (i := 5) hN rfl Ya) (zae 5) Yj Yda zas)) (zai (zan (ze6 (zb1 hu (zab 2) (zaj)) (zab 3) (zdw zbr zeg Y3 ye))))) (zau)) (zaf (zaz 4 hN (ie_lstF (zaa (zam) (zaa (zam) (zaa (zam) (zaa (zbw) (zaa (zbw) (zaa (zaj) (zaa (zaj) (zaa (ie_pow (zaj) (zaj)) (zaa (za6) Ybu))))))))))) (zai (zan (zal (dts := []) (dvs := []) ywd Yjl hgd (by rfl) yy8 yy9 ywe .nil Ye fnM_len (zaa (zab 0) (zaa (zdd (zab 4) (ie_lstF (zaa (ie_cmeth (dts := []) (dvs := []) yc.cn r_Design cm_Design_read ybe Yjl hgd ybo .nil Ye zf7 (fun σ => L2.passAt zf4 σ) (ie_cls yc.cn yc.mg) Ybu) (zad)))) (zad))))))))
abbrev y07 : List Str := ["self", "some", "name", "one"]
theorem yp9 : FnScope y07 ["self", "some", "name"] (defScope ykp) := by simp_all_arith
theorem yza (F : DG K "thing" "Design.thing" ykp dfs kws f fd)
  (ya : mg "isinstance" = none)
  (yap : mg "str" = none)
  (hT : ze7 K zbo)
  (yx : ∀ c ∈ (["Kind", "Reader"] : List Str), FldOk K c "name") :
  FnG P w K mg base Yd 1 f fd ["self", "some", "name"] (spM K w zc9 3) :=
 okP (k := 0) F yp9 fun cdv A outer s H E hr hgd => by
  have hN := yp9.nd
  have hu := hr.units
  exact zaf (st_for (B := zfv) PassesOwn.never rfl (zbs (zab 1)) Yi0 (zae 3) (zai (zbf ((zdx (zbc (zbg za9 (zcv hT) (zaa (zab 2) Ykq) ya)) (zc4 (zb1 hu (zbn yx (zab 3)) (zab 2)))).it) (zai (zan (zab 3))) (zau)))) (zai (st_bad))
abbrev y0g : List Str := ["self", "name"]
theorem yoz : FnScope y0g ["self", "name"] (defScope yj3) := by simp_all_arith
theorem yxw (F : DG K "reader" "Design.reader" yj3 dfs kws f fd)
  {yb : Addr} (yc : ClsF K mg "Design" yb)
  {yeq : Addr} {yer : FuncData} (yby : FnG P w K mg base Yd 1 yeq yer ["self", "some", "name"] (spM K w zc9 3))
  (ybz : Meth K yb "thing" yeq)
  (ya6 : ∀ c ∈ (["Design"] : List Str), FldOk K c "readers")
  (yb0 : Binds K yer ["self", "some", "name"] []) :
  FnG P w K mg base Yd 2 f fd ["self", "name"] (spM K w zcb 2) :=
 okP (k := 1) F yoz fun cdv A outer s H E hr hgd => by
  have hN := yoz.nd
  have hu := hr.units
  exact zai (zan (zdq (dts := []) (dvs := []) yc.cn yc.cl ybz yby Yb hgd yb0 .nil Ye zak (zab 0) (zaa (zbn ya6 (zab 0)) Yad)))
abbrev yxx : List Str := ["fault"]
theorem yl5 : FnScope yxx ["fault"] (defScope yis) := by simp_all_arith
theorem yvk (F : DG K "need_sure_fault" "need_sure_fault" yis dfs kws f fd)
  (ya : mg "isinstance" = none)
  (yap : mg "str" = none)
  (hT : ze7 K zbo)
  {ycw : Addr} {o_SURE_FAULTS : Obj} {us_SURE_FAULTS : List Value} {yi5 : Nat} (ymn : mg "SURE_FAULTS" = some (.ref ycw)) (lk_SURE_FAULTS : K.lookup ycw = some o_SURE_FAULTS) (ycc : o_SURE_FAULTS.cls = .type "tuple") (ycd : o_SURE_FAULTS.dict = none) (oa_SURE_FAULTS : o_SURE_FAULTS.data = .seq us_SURE_FAULTS.toArray yi5) (or_SURE_FAULTS : Vals ((["early", "torn"] : List Str).map V.str) us_SURE_FAULTS) (oz_SURE_FAULTS : us_SURE_FAULTS.length ≤ 1000) :
  FnG P w K mg base Yd 1 f fd ["fault"] (spM K w zbu 1) :=
 okP (k := 0) F yl5 fun cdv A outer s H E hr hgd => by
  have hN := yl5.nd
  have hu := hr.units
  exact zai (zbf ((zcf Yc3 (zbt (it_nin hu (zab 0) (ie_globT ymn lk_SURE_FAULTS ycc ycd oa_SURE_FAULTS or_SURE_FAULTS oz_SURE_FAULTS)))).it) (zai (st_bad)) (zau))
abbrev y4f : List Str := ["self"]
theorem yyl : FnScope y4f ["self"] (defScope ytj) := by simp_all_arith
theorem y3d (F : DG K "__len__" "Kind.__len__" ytj dfs kws f fd)
  (yg : mg "len" = none)
  (yd : ∀ c ∈ (["Kind", "Reader"] : List Str), FldOk K c "deeds") :
  FnG P w K mg base Yd 1 f fd ["self"] (spM K w zfz 1) :=
 okP (k := 0) F yyl fun cdv A outer s H E hr hgd => by
  have hN := yyl.nd
  have hu := hr.units
  exact zai (zan (zbg call_len zb4 (zaa Yg3 (zad)) yg))
abbrev y4g : List Str := ["value", "size"]
theorem yym : FnScope y4g ["value", "size"] (defScope ytk) := by simp_all_arith
theorem y3e (F : DG K "is_below" "is_below" ytk dfs kws f fd)
  {ya3 : Addr} {ybq : FuncData} (yba : FnG P w K mg base Yd 1 ya3 ybq ["value"] (spM K w zbz 1))
  (ybg : mg "is_integer" = some (.ref ya3)) (ybh : PySem.W.keepIn K (.ref ya3) = true)
  (ybb : Binds K ybq ["value"] []) :
  FnG P w K mg base Yd 2 f fd ["value", "size"] (spM K w zcc 2) :=
 okP (k := 1) F yym fun cdv A outer s H E hr hgd => by
  have hN := yym.nd
  have hu := hr.units
  exact zai (zan (ie_and (zal (dts := []) (dvs := []) yba Yb hgd (by rfl) ybg ybh ybb .nil Ye zak Yaz) (ie_one (ie_chain op_le ok_opC op_ltA ok_lt (zaj) (zab 0) (zab 1)))))
abbrev ymo : List Str := ["design", "kind", "done", "sizes", "one"]
theorem ys3 : FnScope ymo ["design", "kind", "done"] (defScope yfo) := by simp_all_arith
theorem y0h (F : DG K "is_progress" "is_progress" yfo dfs kws f fd)
  (yg : mg "len" = none)
  (ya : mg "isinstance" = none)
  (yap : mg "str" = none)
  {yaw : Addr} {ybi : FuncData} (yas : FnG P w K mg base Yd 2 yaw ybi ["value", "size"] (spM K w zcc 2))
  (yay : mg "is_below" = some (.ref yaw)) (yaz : PySem.W.keepIn K (.ref yaw) = true)
  (yat : Binds K ybi ["value", "size"] [])
  {ya3 : Addr} {ybq : FuncData} (yba : FnG P w K mg base Yd 1 ya3 ybq ["value"] (spM K w zbz 1))
  (ybg : mg "is_integer" = some (.ref ya3)) (ybh : PySem.W.keepIn K (.ref ya3) = true)
  (ybb : Binds K ybq ["value"] [])
  {yo : Addr} (yaq : ClsF K mg "Kind" yo)
  {ykg : Addr} {ykh : FuncData} (ydc : FnG P w K mg base Yd 1 ykg ykh ["self"] (spM K w zfz 1))
  (yaa : ∀ c ∈ (["Design"] : List Str), FldOk K c "kinds")
  (yx : ∀ c ∈ (["Kind", "Reader"] : List Str), FldOk K c "name")
  (ydd : Meth K yo "__len__" ykg)
  (hT : ze7 K zbo)
  (yfl : Binds K ykh ["self"] []) :
  FnG P w K mg base Yd 3 f fd ["design", "kind", "done"] (spM K w zgg 3) :=
 okP (k := 2) F ys3 fun cdv A outer s H E hr hgd => by
  have hN := ys3.nd
  have hu := hr.units
  exact zaf (zbf (zbi (zbc (zbg za9 (zcv hT) (zaa (zab 1) Ykq) ya))) Y4 (zau)) (zaf (by first | exact zdy (i := 3) (own := [("one", 4)]) (T := zee) (E := zd9) rfl hN rfl rfl rfl (zbs (zbn yaa (zab 0))) (by first | exact blkOk_by (N := ymo) (sc := defScope yfo) (by decide +kernel) | exact blkOk_by (by with_unfolding_all rfl) | exact blkOk_by (by decide +kernel +revert)) (fun _ _ _ _ _ => pg_name (i := 4) hN rfl Ya) (zae 4) (fun _ _ _ _ _ => zb8 (zb1 hu (zbn yx (zab 4)) (zab 1))) Yj9 zas | exact zaz 3 hN (za2 (own := [("one", 4)]) (T := zee) (E := zd9) rfl hN (zbs (zbn yaa (zab 0))) (by first | exact blkOk_by (N := ymo) (sc := defScope yfo) (by decide +kernel) | exact blkOk_by (by with_unfolding_all rfl) | exact blkOk_by (by decide +kernel +revert)) (fun _ _ _ _ _ => pg_name (i := 4) hN rfl Ya) (zae 4) (fun _ _ _ _ _ => zb8 (zb1 hu (zbn yx (zab 4)) (zab 1))) Yj9 zas)) (zaf (zbf (zb1 hu Yfo (zaj)) (zai (zan (ie_and (ie_eq hu (zab 1) (zam)) (ie_and (zal (dts := []) (dvs := []) yba Yb hgd (by rfl) ybg ybh ybb .nil Ye zak Yay) (ie_one (ie_eq hu (zab 2) (zaj))))))) (zau)) (zai (zan (ie_and (zal (dts := []) (dvs := []) yas Yb hgd (by rfl) yay yaz yat .nil Ye zak (zaa (zab 2) (zaa Yey (zad)))) (ie_one (ie_gt (zab 2) (zaj))))))))
abbrev ydk : List Str := ["self", "deeds", "one", "deed", "word", "name"]
theorem yl6 : FnScope ydk ["self"] (defScope ybl) := by simp_all_arith
theorem yvl (F : DG K "counters" "Design.counters" ybl dfs kws f fd)
  (ye : mg "tuple" = none)
  (yb4 : mg "sorted" = none)
  (yap : mg "str" = none)
  (ya6 : ∀ c ∈ (["Design"] : List Str), FldOk K c "readers")
  (yaa : ∀ c ∈ (["Design"] : List Str), FldOk K c "kinds")
  (yd : ∀ c ∈ (["Kind", "Reader"] : List Str), FldOk K c "deeds") :
  FnG P w K mg base Yd 1 f fd ["self"] (spM K w za5 1) :=
 okP (k := 0) F yl6 fun cdv A outer s H E hr hgd => by
  have hN := yl6.nd
  have hu := hr.units
  exact zaf (by first | exact st_comp2 (i := 1) (own := [("one", 2), ("deed", 3)]) (T := mYes) (Fe := zc6) (T1 := mYes) (E := zc8) rfl hN rfl rfl rfl (zbs (zat (ia_star (zbn yaa (zab 0)) (ia_star (zbn ya6 (zab 0)) (zad))))) (by first | exact blkOk_by (N := ydk) (sc := defScope ybl) (by decide +kernel) | exact blkOk_by (by with_unfolding_all rfl) | exact blkOk_by (by decide +kernel +revert)) [3] (by decide) (fun _ _ _ _ _ => pg_name (i := 2) hN rfl Ya) (zae 2) Yj (fun _ _ _ _ _ => zbn yd (zab 2)) (fun _ _ _ _ _ => pg_name (i := 3) hN rfl Ya) (zae 3) Yj Yhx zas | exact zaz 1 hN (ie_comp2 (own := [("one", 2), ("deed", 3)]) (T := mYes) (Fe := zc6) (T1 := mYes) (E := zc8) rfl hN (zbs (zat (ia_star (zbn yaa (zab 0)) (ia_star (zbn ya6 (zab 0)) (zad))))) (by first | exact blkOk_by (N := ydk) (sc := defScope ybl) (by decide +kernel) | exact blkOk_by (by with_unfolding_all rfl) | exact blkOk_by (by decide +kernel +revert)) [3] (by decide) (fun _ _ _ _ _ => pg_name (i := 2) hN rfl Ya) (zae 2) Yj (fun _ _ _ _ _ => zbn yd (zab 2)) (fun _ _ _ _ _ => pg_name (i := 3) hN rfl Ya) (zae 3) Yj Yhx zas)) (zai (zan (zdw zbr zeg (zaa (ie_sortSetC (own := [("word", 4), ("name", 5)]) (T := zeh) (E := zei) rfl hN yb4 (zbs (zab 1)) (by first | exact blkOk_by (N := ydk) (sc := defScope ybl) (by decide +kernel) | exact blkOk_by (by with_unfolding_all rfl) | exact blkOk_by (by decide +kernel +revert)) (fun _ _ _ _ _ => pg_tup rfl Yfv) Ydl (fun _ _ _ _ _ => zb8 (it_in hu (zab 4) (zat (zaa (zam) Ybu)))) (fun _ _ _ _ _ => zdw call_strS ok_str Yci yap)) (zad)) ye)))
abbrev yxy : List Str := ["self", "counter"]
theorem yl7 : FnScope yxy ["self", "counter"] (defScope yit) := by simp_all_arith
theorem yvm (F : DG K "round_of" "Design.round_of" yit dfs kws f fd)
  (yki : mg "dict" = none)
  (yep : ∀ c ∈ (["Design"] : List Str), FldOk K c "rounds") :
  FnG P w K mg base Yd 1 f fd ["self", "counter"] Yld :=
 okP (k := 0) F yl7 fun cdv A outer s H E hr hgd => by
  have hN := yl7.nd
  have hu := hr.units
  exact zai (zan (ie_dget1 hu (ie_frzD (zdw (call_dictPr rfl) ok_dictP (zaa (zbn yep (zab 0)) (zad)) yki)) (zab 1)))
abbrev ykj : List Str := ["design", "value", "sizes", "counter", "many", "size"]
theorem yuz : FnScope ykj ["design", "value"] (defScope ydl) := by simp_all_arith
theorem y08 (F : DG K "are_counts" "are_counts" ydl dfs kws f fd)
  (ya0 : mg "all" = none)
  (ycu : mg "zip" = none)
  (ya : mg "isinstance" = none)
  (ye : mg "tuple" = none)
  (yg : mg "len" = none)
  {yaw : Addr} {ybi : FuncData} (yas : FnG P w K mg base Yd 2 yaw ybi ["value", "size"] (spM K w zcc 2))
  (yay : mg "is_below" = some (.ref yaw)) (yaz : PySem.W.keepIn K (.ref yaw) = true)
  (yat : Binds K ybi ["value", "size"] [])
  {yb : Addr} (yc : ClsF K mg "Design" yb)
  {yae : Addr} {yaf : FuncData} (yz : FnG P w K mg base Yd 1 yae yaf ["self"] (spM K w za5 1))
  {y3 : Addr} {y4 : FuncData} (yq : FnG P w K mg base Yd 1 y3 y4 ["self", "counter"] Yld)
  {yaj : Addr} (yp : PropOf K yb "counters" yaj yae)
  (yr : Meth K yb "round_of" y3)
  (hT : ze7 K zbo)
  (y5 : Binds K yaf ["self"] [])
  (yt : Binds K y4 ["self", "counter"] []) :
  FnG P w K mg base Yd 3 f fd ["design", "value"] (spM K w F_are_counts 2) :=
 okP (k := 2) F yuz fun cdv A outer s H E hr hgd => by
  have hN := yuz.nd
  have hu := hr.units
  exact zaf (zbf ((zcf (zbi (zbc (zbg za9 (zcv hT) (zaa (zab 1) Yf9) ya))) (zbt (zf8 hu Yhg (zbg call_len zb4 (zaa Ydo (zad)) yg)))).it) Y4 (zau)) (zaf (by first | exact zdy (i := 2) (own := [("counter", 3)]) (T := mYes) (E := zey) rfl hN rfl rfl rfl (zbs (ie_prop yc.cn yc.cl yp yz (hr.mono (by decide)) hgd y5 (zak) (zab 0))) (by first | exact blkOk_by (N := ykj) (sc := defScope ydl) (by decide +kernel) | exact blkOk_by (by with_unfolding_all rfl) | exact blkOk_by (by decide +kernel +revert)) (fun _ _ _ _ _ => pg_name (i := 3) hN rfl Ya) (zae 3) Yj Ygu zas | exact zaz 2 hN (za2 (own := [("counter", 3)]) (T := mYes) (E := zey) rfl hN (zbs (ie_prop yc.cn yc.cl yp yz (hr.mono (by decide)) hgd y5 (zak) (zab 0))) (by first | exact blkOk_by (N := ykj) (sc := defScope ydl) (by decide +kernel) | exact blkOk_by (by with_unfolding_all rfl) | exact blkOk_by (by decide +kernel +revert)) (fun _ _ _ _ _ => pg_name (i := 3) hN rfl Ya) (zae 3) Yj Ygu zas)) (zai (zan (zbg Yh4 ok_all (zaa (za2 (own := [("many", 4), ("size", 5)]) (T := mYes) (E := f_are_counts_c1) rfl hN (ii_zip (by rfl) ycu (zaa (zab 1) Yay)) (by first | exact blkOk_by (N := ykj) (sc := defScope ydl) (by decide +kernel) | exact blkOk_by (by with_unfolding_all rfl) | exact blkOk_by (by decide +kernel +revert)) (fun _ _ _ _ _ => pg_tup rfl Yfv) Ydl Yj (fun _ _ _ _ _ => zal (dts := []) (dvs := []) yas Yb hgd (by rfl) yay yaz yat .nil Ye zak (zaa (zab 4) (zaa (ze6 (it_isN (zab 5) (za6)) (zaj) (zab 5)) (zad)))) zas) (zad)) ya0))))
abbrev y3f : List Str := ["self"]
theorem yu0 : FnScope y3f ["self"] (defScope ynr) := by simp_all_arith
theorem y09 (F : DG K "__len__" "Reader.__len__" ynr dfs kws f fd)
  (yg : mg "len" = none)
  (yd : ∀ c ∈ (["Kind", "Reader"] : List Str), FldOk K c "deeds") :
  FnG P w K mg base Yd 1 f fd ["self"] (spM K w zd4 1) :=
 okP (k := 0) F yu0 fun cdv A outer s H E hr hgd => by
  have hN := yu0.nd
  have hu := hr.units
  exact zai (zan (zbg call_len zb4 (zaa Yg3 (zad)) yg))
abbrev y4p : List Str := ["value", "size"]
theorem y0i : FnScope y4p ["value", "size"] (defScope yvq) := by simp_all_arith
theorem y31 (F : DG K "is_seen" "is_seen" yvq dfs kws f fd)
  (ya : mg "isinstance" = none)
  (ysz : mg "bool" = none)
  (ye : mg "tuple" = none)
  (yg : mg "len" = none)
  {yaw : Addr} {ybi : FuncData} (yas : FnG P w K mg base Yd 2 yaw ybi ["value", "size"] (spM K w zcc 2))
  (yay : mg "is_below" = some (.ref yaw)) (yaz : PySem.W.keepIn K (.ref yaw) = true)
  (yat : Binds K ybi ["value", "size"] [])
  (hT : ze7 K zbo) :
  FnG P w K mg base Yd 3 f fd ["value", "size"] (spM K w F_is_seen 2) :=
 okP (k := 2) F y0i fun cdv A outer s H E hr hgd => by
  have hN := y0i.nd
  have hu := hr.units
  exact zaf (zbf (zgf (zab 1) (za6)) (zai (zan (zal (dts := []) (dvs := []) yas Yb hgd (by rfl) yay yaz yat .nil Ye zak (zaa (zab 0) Yad)))) (zau)) (zaf (zbf ((zcf (zbi Yc6) (zbt (zf8 hu Yd2 (zaj)))).it) Y4 (zau)) (zai (zan (ie_and (zal (dts := []) (dvs := []) yas Yb hgd (by rfl) yay yaz yat .nil Ye zak (zaa Ygm Ydt)) (ie_one (zbg za9 (zcv hT) (zaa Ygm (zaa (ze9 ysz Yu) (zad))) ya))))))
abbrev ynj : List Str := ["design", "reader", "at", "value", "looks", "word", "target", "thing", "counter"]
theorem yyn : FnScope ynj ["design", "reader", "at", "value"] (defScope yha) := by simp_all_arith
theorem y3g (F : DG K "are_seen" "are_seen" yha dfs kws f fd)
  (ya0 : mg "all" = none)
  (ycu : mg "zip" = none)
  (ya : mg "isinstance" = none)
  (ye : mg "tuple" = none)
  (yg : mg "len" = none)
  {ywf : Addr} {y1u : FuncData} (yt0 : FnG P w K mg base Yd 3 ywf y1u ["value", "size"] (spM K w F_is_seen 2))
  (ywg : mg "is_seen" = some (.ref ywf)) (ywh : PySem.W.keepIn K (.ref ywf) = true)
  (yt1 : Binds K y1u ["value", "size"] [])
  {yb : Addr} (yc : ClsF K mg "Design" yb)
  {y3 : Addr} {y4 : FuncData} (yq : FnG P w K mg base Yd 1 y3 y4 ["self", "counter"] Yld)
  (yr : Meth K yb "round_of" y3)
  (hT : ze7 K zbo)
  (yd : ∀ c ∈ (["Kind", "Reader"] : List Str), FldOk K c "deeds")
  (yt : Binds K y4 ["self", "counter"] []) :
  FnG P w K mg base Yd 4 f fd ["design", "reader", "at", "value"] (spM K w F_are_seen 4) :=
 okP (k := 3) F yyn fun cdv A outer s H E hr hgd => by
  have hN := yyn.nd
  have hu := hr.units
  exact zaf (by first | exact zdy (i := 4) (own := [("word", 5), ("target", 6)]) (T := zf6) (E := zgk) rfl hN rfl rfl rfl (zbs (zb6 (zbn yd (zab 1)) zds (zco (zab 2)))) (by first | exact blkOk_by (N := ynj) (sc := defScope yha) (by decide +kernel) | exact blkOk_by (by with_unfolding_all rfl) | exact blkOk_by (by decide +kernel +revert)) (fun _ _ _ _ _ => pg_tup rfl Yha) (zc3 Yhb) (fun _ _ _ _ _ => zb8 (zb1 hu (zab 5) (zam))) Yhw zas | exact zaz 4 hN (za2 (own := [("word", 5), ("target", 6)]) (T := zf6) (E := zgk) rfl hN (zbs (zb6 (zbn yd (zab 1)) zds (zco (zab 2)))) (by first | exact blkOk_by (N := ynj) (sc := defScope yha) (by decide +kernel) | exact blkOk_by (by with_unfolding_all rfl) | exact blkOk_by (by decide +kernel +revert)) (fun _ _ _ _ _ => pg_tup rfl Yha) (zc3 Yhb) (fun _ _ _ _ _ => zb8 (zb1 hu (zab 5) (zam))) Yhw zas)) (zaf (zbf ((zcf (zbi (zbc (zbg za9 (zcv hT) (zaa (zab 3) Yf9) ya))) (zbt (zf8 hu Yfo (zbg call_len zb4 Ydm yg)))).it) Y4 (zau)) (zai (zan (zbg Yh4 ok_all (zaa (za2 (own := [("thing", 7), ("counter", 8)]) (T := mYes) (E := f_are_seen_c1) rfl hN (ii_zip (by rfl) ycu (zaa (zab 3) Ydm)) (by first | exact blkOk_by (N := ynj) (sc := defScope yha) (by decide +kernel) | exact blkOk_by (by with_unfolding_all rfl) | exact blkOk_by (by decide +kernel +revert)) (fun _ _ _ _ _ => pg_tup rfl (pgs_cons Ycx (pgs_cons Yga Ybg))) (zc3 (zag (zae 7) (zag (zae 8) (za7)))) Yj (fun _ _ _ _ _ => zal (dts := []) (dvs := []) yt0 Yb hgd (by rfl) ywg ywh yt1 .nil Ye zak (zaa (zab 7) (zaa (zdq (dts := []) (dvs := []) yc.cn yc.cl yr yq Yb hgd yt .nil Ye zak (zab 0) Ygn) (zad)))) zas) (zad)) ya0))))
abbrev yqy : List Str := ["value", "parts", "part", "one", "other"]
theorem ywi : FnScope yqy ["value", "parts"] (defScope yiy) := by simp_all_arith
theorem y2j (F : DG K "is_lot_of" "is_lot_of" yiy dfs kws f fd)
  (ya0 : mg "all" = none)
  (ycu : mg "zip" = none)
  (ya : mg "isinstance" = none)
  (ye : mg "tuple" = none)
  (yap : mg "str" = none)
  (hT : ze7 K zbo) :
  FnG P w K mg base Yd 1 f fd ["value", "parts"] (spM K w F_is_lot_of 2) :=
 okP (k := 0) F ywi fun cdv A outer s H E hr hgd => by
  have hN := ywi.nd
  have hu := hr.units
  exact zaf (zbf ((zcf (zbi Yc6) (zbt (zbi (zbc (zbg Yh4 ok_all (zaa (za2 (own := [("part", 2)]) (T := mYes) (E := f_is_lot_of_c2) rfl hN Ylb Yb5 (fun _ _ _ _ _ => pg_name (i := 2) hN rfl Ya) (zae 2) Yj (fun _ _ _ _ _ => ie_and (zbg za9 (zcv hT) (zaa (zab 2) Ykq) ya) (ie_one (ie_in hu (zab 2) (zab 1)))) zas) (zad)) ya0))))).it) Y4 (zau)) (zai (zan (zbg Yh4 ok_all (zaa (za2 (own := [("one", 3), ("other", 4)]) (T := mYes) (E := f_is_lot_of_c1) rfl hN (ii_zip (by rfl) ycu (zaa (zab 0) (zaa (zb6 (zab 0) (zco (zaj)) zds) (zad)))) Yb5 (fun _ _ _ _ _ => pg_tup rfl (pgs_cons Yi0 (pgs_cons Ycw Ybg))) (zc3 (zag (zae 3) (zag (zae 4) (za7)))) Yj (fun _ _ _ _ _ => ie_ltA (zab 3) (zab 4)) zas) (zad)) ya0)))
abbrev ywj : List Str := ["reader", "at", "word", "target"]
theorem yu1 : FnScope ywj ["reader", "at"] (defScope yj4) := by simp_all_arith
theorem y1a (F : DG K "parts_left" "parts_left" yj4 dfs kws f fd)
  (yd : ∀ c ∈ (["Kind", "Reader"] : List Str), FldOk K c "deeds") :
  FnG P w K mg base Yd 1 f fd ["reader", "at"] (spM K w zcs 2) :=
 okP (k := 0) F yu1 fun cdv A outer s H E hr hgd => by
  have hN := yu1.nd
  have hu := hr.units
  exact zai (zan (za2 (own := [("word", 2), ("target", 3)]) (T := f_parts_left_c1) (E := f_parts_left_c2) rfl hN (zbs (zb6 Yg3 (zco (zab 1)) zds)) (by first | exact blkOk_by (N := ywj) (sc := defScope yj4) (by decide +kernel) | exact blkOk_by (by with_unfolding_all rfl) | exact blkOk_by (by decide +kernel +revert)) (fun _ _ _ _ _ => pg_tup rfl Ycr) (zc3 Yco) Yhy Yhx zas))
abbrev y2k : List Str := ["design", "reader", "value", "most", "kind", "done", "counts", "at", "seen", "fit", "behind", "passed"]
theorem ys4 : FnScope y2k ["design", "reader", "value", "most"] (defScope yma) := by simp_all_arith
theorem y0j (F : DG K "is_standing" "is_standing" yma dfs kws f fd)
  (ya : mg "isinstance" = none)
  (yap : mg "str" = none)
  (yg : mg "len" = none)
  (ye : mg "tuple" = none)
  {t_ENTRIES : Tok} (ywk : mg "ENTRIES" = some (.int (8) t_ENTRIES))
  {yaw : Addr} {ybi : FuncData} (yas : FnG P w K mg base Yd 2 yaw ybi ["value", "size"] (spM K w zcc 2))
  (yay : mg "is_below" = some (.ref yaw)) (yaz : PySem.W.keepIn K (.ref yaw) = true)
  (yat : Binds K ybi ["value", "size"] [])
  {ya4 : Addr} {ybr : FuncData} (ybc : FnG P w K mg base Yd 1 ya4 ybr ["reader", "at"] (spM K w zcs 2))
  (ybj : mg "parts_left" = some (.ref ya4)) (ybk : PySem.W.keepIn K (.ref ya4) = true)
  (ybd : Binds K ybr ["reader", "at"] [])
  {yqz : Addr} {yyo : FuncData} (yo0 : FnG P w K mg base Yd 1 yqz yyo ["value", "parts"] (spM K w F_is_lot_of 2))
  (yq0 : mg "is_lot_of" = some (.ref yqz)) (yq1 : PySem.W.keepIn K (.ref yqz) = true)
  (yo1 : Binds K yyo ["value", "parts"] [])
  {yt2 : Addr} {y0k : FuncData} (yq2 : FnG P w K mg base Yd 4 yt2 y0k ["design", "reader", "at", "value"] (spM K w F_are_seen 4))
  (yt3 : mg "are_seen" = some (.ref yt2)) (yt4 : PySem.W.keepIn K (.ref yt2) = true)
  (yq3 : Binds K y0k ["design", "reader", "at", "value"] [])
  {ymp : Addr} {yu2 : FuncData} (ylk : FnG P w K mg base Yd 3 ymp yu2 ["design", "kind", "done"] (spM K w zgg 3))
  (ymq : mg "is_progress" = some (.ref ymp)) (ymr : PySem.W.keepIn K (.ref ymp) = true)
  (yll : Binds K yu2 ["design", "kind", "done"] [])
  {yo2 : Addr} {ywl : FuncData} (yms : FnG P w K mg base Yd 3 yo2 ywl ["design", "value"] (spM K w F_are_counts 2))
  (yo3 : mg "are_counts" = some (.ref yo2)) (yo4 : PySem.W.keepIn K (.ref yo2) = true)
  (ymt : Binds K ywl ["design", "value"] [])
  {ym : Addr} (yax : ClsF K mg "Reader" ym)
  {yg6 : Addr} {yg7 : FuncData} (yc5 : FnG P w K mg base Yd 1 yg6 yg7 ["self"] (spM K w zd4 1))
  (hT : ze7 K zbo)
  {ysk : Addr} {o_FITS : Obj} {us_FITS : List Value} {yzo : Nat} (y3h : mg "FITS" = some (.ref ysk)) (lk_FITS : K.lookup ysk = some o_FITS) (ynk : o_FITS.cls = .type "tuple") (ynl : o_FITS.dict = none) (oa_FITS : o_FITS.data = .seq us_FITS.toArray yzo) (or_FITS : Vals ((["new", "open", "past", "torn"] : List Str).map V.str) us_FITS) (oz_FITS : us_FITS.length ≤ 1000)
  (yc6 : Meth K ym "__len__" yg6)
  (yet : Binds K yg7 ["self"] []) :
  FnG P w K mg base Yd 5 f fd ["design", "reader", "value", "most"] (spM K w zcg 4) :=
 okP (k := 4) F ys4 fun cdv A outer s H E hr hgd => by
  have hN := ys4.nd
  have hu := hr.units
  exact zaf (zbf ((zcf (zbi (zbc (zbg za9 (zcv hT) (zaa (zab 2) Yf9) ya))) (zbt (zf8 hu Yj8 (ie_glob (v := .int (8)) (by rfl) ywk ⟨_, rfl⟩ Yef)))).it) Y4 (zau)) (zaf Ycq (zaf (zbf ((zcf (zbi (zbc (zal (dts := []) (dvs := []) ylk Yb hgd (by rfl) ymq ymr yll .nil Ye zak (zaa (zab 0) (zaa (zab 4) Yci))))) (zcf (zbi (zbc (zal (dts := []) (dvs := []) yms Yb hgd (by rfl) yo3 yo4 ymt .nil Ye zak (zaa (zab 0) (zaa (zab 6) (zad)))))) (zbt (zbi (zbc (zal (dts := []) (dvs := []) yas Yb hgd (by rfl) yay yaz yat .nil Ye zak (zaa (zab 7) (zaa (ie_lenOwn yax.cn yc6 yc5 Yb hgd yet zak yg (zab 1)) (zad))))))))).it) Y4 (zau)) (zaf (zbf ((zcf (zbi (zbc (zal (dts := []) (dvs := []) yq2 Yb hgd (by rfl) yt3 yt4 yq3 .nil Ye zak (zaa (zab 0) (zaa (zab 1) (zaa (zab 7) Ygn)))))) (zcf (zbi (zbc (zbg za9 (zcv hT) (zaa (zab 9) Ykq) ya))) (zbt (it_nin hu (zab 9) (ie_globT y3h lk_FITS ynk ynl oa_FITS or_FITS oz_FITS))))).it) Y4 (zau)) (zaf (zbf (zbi (zbc (zal (dts := []) (dvs := []) yo0 Yb hgd (by rfl) yq0 yq1 yo1 .nil Ye zak (zaa (zab 10) (zaa (ze6 Ydx Yf0 (ie_lstF (zad))) (zad)))))) Y4 (zau)) (zaf (zbf ((zcf (zbi (zbc (zal (dts := []) (dvs := []) yas Yb hgd (by rfl) yay yaz yat .nil Ye zak (zaa (zab 11) (zaa (ze6 (it_isN (zab 3) (za6)) (zaj) (zdd (zab 3) (zaj))) (zad)))))) (zbt ((zdx (zb1 hu (zab 4) (zam)) (zc4 Ydx)).it))).it) Y4 (zau)) (zai (zan (ie_or (ie_gt (zab 7) (zaj)) (ie_one (ie_and (ie_eq hu (zab 9) (zam)) (ie_one (ie_eq hu (zab 11) (zaj)))))))))))))
abbrev y35 : List Str := ["design", "counter"]
theorem y3i : FnScope y35 ["design"] (defScope yxk) := by simp_all_arith
theorem y4q (F : DG K "start" "start" yxk dfs kws f fd)
  (ye : mg "tuple" = none)
  {yb : Addr} (yc : ClsF K mg "Design" yb)
  {yae : Addr} {yaf : FuncData} (yz : FnG P w K mg base Yd 1 yae yaf ["self"] (spM K w za5 1))
  {yaj : Addr} (yp : PropOf K yb "counters" yaj yae)
  (y5 : Binds K yaf ["self"] []) :
  FnG P w K mg base Yd 3 f fd ["design"] (spM K w F_start 1) :=
 okP (k := 2) F y3i fun cdv A outer s H E hr hgd => by
  have hN := y3i.nd
  have hu := hr.units
  exact zai (zan (zat (zaa (zam) (zaa (zaj) (zaa (zdw zbr zeg (zaa (za2 (own := [("counter", 1)]) (T := mYes) (E := f_start_c1) rfl hN (zbs Ydo) (by first | exact blkOk_by (N := y35) (sc := defScope yxk) (by decide +kernel) | exact blkOk_by (by with_unfolding_all rfl) | exact blkOk_by (by decide +kernel +revert)) (fun _ _ _ _ _ => pg_name (i := 1) hN rfl Ya) (zae 1) Yj (fun _ _ _ _ _ => zaj) zas) (zad)) ye) Ybc)))))
abbrev y4w : List Str := ["design", "counts", "counter", "found", "other", "many", "size"]
theorem y1v : FnScope y4w ["design", "counts", "counter"] (defScope yy1) := by simp_all_arith
theorem y4h (F : DG K "bumped" "bumped" yy1 dfs kws f fd)
  (ye : mg "tuple" = none)
  (ycu : mg "zip" = none)
  {yb : Addr} (yc : ClsF K mg "Design" yb)
  {yae : Addr} {yaf : FuncData} (yz : FnG P w K mg base Yd 1 yae yaf ["self"] (spM K w za5 1))
  {y3 : Addr} {y4 : FuncData} (yq : FnG P w K mg base Yd 1 y3 y4 ["self", "counter"] Yld)
  {yaj : Addr} (yp : PropOf K yb "counters" yaj yae)
  (yr : Meth K yb "round_of" y3)
  (y5 : Binds K yaf ["self"] [])
  (yt : Binds K y4 ["self", "counter"] []) :
  FnG P w K mg base Yd 3 f fd ["design", "counts", "counter"] (spM K w F_bumped 3) :=
 okP (k := 2) F y1v fun cdv A outer s H E hr hgd => by
  have hN := y1v.nd
  have hu := hr.units
  exact zaf (zaz 3 hN (ie_lstL (zad))) (zaf (st_for (B := f_bumped_l1) PassesOwn.never rfl (ii_zip (by rfl) ycu (zaa Ydo Yad)) (pg_tup rfl Yfv) Ydl (zaf (zaz 6 hN (zdq (dts := []) (dvs := []) yc.cn yc.cl yr yq Yb hgd yt .nil Ye zak (zab 0) Ydm)) (zai (st_expr (ie_append (zab 3) (zaa (ze6 (zb1 hu (zab 4) (zab 2)) (ie_mod (zdd (zab 5) (zaj)) (ze6 (it_isN (zab 6) (za6)) (zaj) (zab 6))) (zab 5)) (zad))))))) (is_fz 3 (zai (zan (zdw zbr zeg Y3 ye)))))
abbrev y1w : List Str := ["design", "reader", "seen", "counter", "looks", "last", "word", "target"]
theorem y0l : FnScope y1w ["design", "reader", "seen", "counter"] (defScope ypj) := by simp_all_arith
theorem y32 (F : DG K "noticed" "noticed" ypj dfs kws f fd)
  (yg : mg "len" = none)
  {yb : Addr} (yc : ClsF K mg "Design" yb)
  {y3 : Addr} {y4 : FuncData} (yq : FnG P w K mg base Yd 1 y3 y4 ["self", "counter"] Yld)
  (yr : Meth K yb "round_of" y3)
  (yd : ∀ c ∈ (["Kind", "Reader"] : List Str), FldOk K c "deeds")
  (yt : Binds K y4 ["self", "counter"] []) :
  FnG P w K mg base Yd 2 f fd ["design", "reader", "seen", "counter"] (spM K w F_noticed 4) :=
 okP (k := 1) F y0l fun cdv A outer s H E hr hgd => by
  have hN := y0l.nd
  have hu := hr.units
  exact zaf (zaz 4 hN (zb6 (za2 (own := [("word", 6), ("target", 7)]) (T := f_noticed_c1) (E := f_noticed_c2) rfl hN (zbs (zbn yd (zab 1))) (by first | exact blkOk_by (N := y1w) (sc := defScope ypj) (by decide +kernel) | exact blkOk_by (by with_unfolding_all rfl) | exact blkOk_by (by decide +kernel +revert)) (fun _ _ _ _ _ => pg_tup rfl Yfw) Ydn (fun _ _ _ _ _ => zb8 (zb1 hu (zab 6) (zam))) (fun _ _ _ _ _ => zab 7) zas) zds (zco Yj8))) (zaf (zbf ((zcf (zgf (zdq (dts := []) (dvs := []) yc.cn yc.cl yr yq Yb hgd yt .nil Ye zak (zab 0) Y3) (za6)) (zbt (it_nin hu (zab 3) (zab 4)))).it) (zai (zan (zab 2))) (zau)) (zaf (zaz 5 hN (ie_sub (ie_sub (zbg call_len zb4 Ydm yg) (zaj)) (ie_index (ie_rev (zab 4)) Y3))) (zai (zan (zat (ia_star (zb6 (zab 2) zds (zco (zab 5))) (zaa (zat (zaa (zaq (zaq (zab 2) (zab 5)) (zaj)) (zaa (zbw) (zad)))) (ia_star (zb6 (zab 2) (zco (zdd (zab 5) (zaj))) zds) (zad)))))))))
abbrev yyp : List Str := ["design", "reader", "standing", "kind", "name", "done", "counts", "at", "seen", "fit", "behind", "passed", "word", "target", "part"]
theorem ywm : FnScope yyp ["design", "reader", "standing", "kind"] (defScope ylu) := by simp_all_arith
theorem y2l (F : DG K "with_deed" "with_deed" ylu dfs kws f fd)
  (yg : mg "len" = none)
  (ye : mg "tuple" = none)
  (yb4 : mg "sorted" = none)
  (yap : mg "str" = none)
  {ywn : Addr} {y1x : FuncData} (yt5 : FnG P w K mg base Yd 2 ywn y1x ["design", "reader", "seen", "counter"] (spM K w F_noticed 4))
  (ywo : mg "noticed" = some (.ref ywn)) (ywp : PySem.W.keepIn K (.ref ywn) = true)
  (yt6 : Binds K y1x ["design", "reader", "seen", "counter"] [])
  {yzb : Addr} {y3j : FuncData} (ywq : FnG P w K mg base Yd 3 yzb y3j ["design", "counts", "counter"] (spM K w F_bumped 3))
  (yzc : mg "bumped" = some (.ref yzb)) (yzd : PySem.W.keepIn K (.ref yzb) = true)
  (ywr : Binds K y3j ["design", "counts", "counter"] [])
  {ya4 : Addr} {ybr : FuncData} (ybc : FnG P w K mg base Yd 1 ya4 ybr ["reader", "at"] (spM K w zcs 2))
  (ybj : mg "parts_left" = some (.ref ya4)) (ybk : PySem.W.keepIn K (.ref ya4) = true)
  (ybd : Binds K ybr ["reader", "at"] [])
  {yo : Addr} (yaq : ClsF K mg "Kind" yo)
  {ykg : Addr} {ykh : FuncData} (ydc : FnG P w K mg base Yd 1 ykg ykh ["self"] (spM K w zfz 1))
  (yx : ∀ c ∈ (["Kind", "Reader"] : List Str), FldOk K c "name")
  (ydd : Meth K yo "__len__" ykg)
  (yd : ∀ c ∈ (["Kind", "Reader"] : List Str), FldOk K c "deeds")
  (yfl : Binds K ykh ["self"] []) :
  FnG P w K mg base Yd 4 f fd ["design", "reader", "standing", "kind"] (spM K w zet 4) :=
 okP (k := 3) F ywm fun cdv A outer s H E hr hgd => by
  have hN := ywm.nd
  have hu := hr.units
  exact zaf Ycq (zaf (zfc (zaq (zbn yd (zab 3)) (zab 5)) (zfg rfl (pgs_cons (pg_name (i := 12) hN rfl Ya) (pgs_cons (pg_name (i := 13) hN rfl Ya) Ybg))) (zfd (zag (zae 12) (zag (zae 13) (za7))))) (zaf (zbf (zb1 hu (zab 12) (zam)) (zaf (zaz 6 hN (zal (dts := []) (dvs := []) ywq Yb hgd (by rfl) yzc yzd ywr .nil Ye zak (zaa (zab 0) (zaa (zab 6) (zaa (zab 13) (zad)))))) (zai (zaz 8 hN (zal (dts := []) (dvs := []) yt5 Yb hgd (by rfl) ywo ywp yt6 .nil Ye zak (zaa (zab 0) (zaa (zab 1) (zaa (zab 8) (zaa (zab 13) (zad))))))))) (zai (zbf ((zdx Ydx (zdx (it_in hu (zab 13) Yf0) (zc4 (it_nin hu (zab 13) (zab 10))))).it) (zai (zaz 10 hN (zdw zbr zeg (zaa (zbg cr_sortA ok_sort (zaa (za2 (own := [("part", 14)]) (T := mYes) (E := f_with_deed_c1) rfl hN (zbs (zat (ia_star (zab 10) (zaa (zab 13) (zad))))) (by first | exact blkOk_by (N := yyp) (sc := defScope ylu) (by decide +kernel) | exact blkOk_by (by with_unfolding_all rfl) | exact blkOk_by (by decide +kernel +revert)) (fun _ _ _ _ _ => pg_name (i := 14) hN rfl Ya) (zae 14) Yj Yku zas) (zad)) yb4) (zad)) ye))) (zau)))) (zaf (zbf (zb1 hu (zdd (zab 5) (zaj)) (ie_lenOwn yaq.cn ydd ydc Yb hgd yfl zak yg (zab 3))) (zai (zan (zat (zaa (zam) (zaa (zaj) (zaa (zab 6) (zaa (zab 7) (zaa (zab 8) (zaa (ze6 Ydx (zam) (zab 9)) (zaa (zab 10) (zaa (zab 11) (zad)))))))))))) (zau)) (zai (zan (zat (zaa (zbn yx (zab 3)) (zaa (zdd (zab 5) (zaj)) (zaa (zab 6) (zaa (zab 7) (zaa (zab 8) (zaa (zab 9) (zaa (zab 10) (zaa (zab 11) (zad)))))))))))))))
abbrev y2m : List Str := ["self", "name"]
theorem ys5 : FnScope y2m ["self", "name"] (defScope ymb) := by simp_all_arith
theorem y0m (F : DG K "kind" "Design.kind" ymb dfs kws f fd)
  {yb : Addr} (yc : ClsF K mg "Design" yb)
  {yeq : Addr} {yer : FuncData} (yby : FnG P w K mg base Yd 1 yeq yer ["self", "some", "name"] (spM K w zc9 3))
  (ybz : Meth K yb "thing" yeq)
  (yaa : ∀ c ∈ (["Design"] : List Str), FldOk K c "kinds")
  (yb0 : Binds K yer ["self", "some", "name"] []) :
  FnG P w K mg base Yd 2 f fd ["self", "name"] (spM K w zdj 2) :=
 okP (k := 1) F ys5 fun cdv A outer s H E hr hgd => by
  have hN := ys5.nd
  have hu := hr.units
  exact zai (zan (zdq (dts := []) (dvs := []) yc.cn yc.cl ybz yby Yb hgd yb0 .nil Ye zak (zab 0) (zaa (zbn yaa (zab 0)) Yad)))
abbrev yu3 : List Str := ["self", "word", "part"]
theorem ys6 : FnScope yu3 ["self"] (defScope yi2) := by simp_all_arith
theorem y0n (F : DG K "writes" "Kind.writes" yi2 dfs kws f fd)
  (ye : mg "tuple" = none)
  (yd : ∀ c ∈ (["Kind", "Reader"] : List Str), FldOk K c "deeds") :
  FnG P w K mg base Yd 1 f fd ["self"] (spM K w zdl 1) :=
 okP (k := 0) F ys6 fun cdv A outer s H E hr hgd => by
  have hN := ys6.nd
  have hu := hr.units
  exact zai (zan (zdw zbr zeg (zaa (za2 (own := [("word", 1), ("part", 2)]) (T := f_Kind_writes_c1) (E := f_Kind_writes_c2) rfl hN (zbs Yg3) (by first | exact blkOk_by (N := yu3) (sc := defScope yi2) (by decide +kernel) | exact blkOk_by (by with_unfolding_all rfl) | exact blkOk_by (by decide +kernel +revert)) (fun _ _ _ _ _ => pg_tup rfl Yh9) (zc3 (zag (zae 1) (zag (zae 2) (za7)))) (fun _ _ _ _ _ => zb8 (zb1 hu (zab 1) (zam))) (fun _ _ _ _ _ => zab 2) zas) (zad)) ye))
abbrev yws : List Str := ["reader", "at", "word", "target"]
theorem yu4 : FnScope yws ["reader", "at"] (defScope yj5) := by simp_all_arith
theorem y1b (F : DG K "parts_read" "parts_read" yj5 dfs kws f fd)
  (yd : ∀ c ∈ (["Kind", "Reader"] : List Str), FldOk K c "deeds") :
  FnG P w K mg base Yd 1 f fd ["reader", "at"] (spM K w F_parts_read 2) :=
 okP (k := 0) F yu4 fun cdv A outer s H E hr hgd => by
  have hN := yu4.nd
  have hu := hr.units
  exact zai (zan (za2 (own := [("word", 2), ("target", 3)]) (T := f_parts_read_c1) (E := f_parts_read_c2) rfl hN (zbs (zb6 Yg3 zds (zco (zab 1)))) (by first | exact blkOk_by (N := yws) (sc := defScope yj5) (by decide +kernel) | exact blkOk_by (by with_unfolding_all rfl) | exact blkOk_by (by decide +kernel +revert)) (fun _ _ _ _ _ => pg_tup rfl Ycr) (zc3 Yco) Yhy Yhx zas))
abbrev ywt : List Str := ["design", "reader", "standing", "kind", "most", "name", "done", "counts", "at", "seen", "fit", "behind", "passed", "part"]
theorem yu5 : FnScope ywt ["design", "reader", "standing", "kind", "most"] (defScope yj6) := by simp_all_arith
theorem y1c (F : DG K "with_begin" "with_begin" yj6 dfs kws f fd)
  (yxv : mg "any" = none)
  {yde : Addr} {yi1 : FuncData} (yeu : FnG P w K mg base Yd 4 yde yi1 ["design", "reader", "standing", "kind"] (spM K w zet 4))
  (yge : mg "with_deed" = some (.ref yde)) (ygf : PySem.W.keepIn K (.ref yde) = true)
  (yev : Binds K yi1 ["design", "reader", "standing", "kind"] [])
  {yo5 : Addr} {ywu : FuncData} (ymu : FnG P w K mg base Yd 1 yo5 ywu ["reader", "at"] (spM K w F_parts_read 2))
  (yo6 : mg "parts_read" = some (.ref yo5)) (yo7 : PySem.W.keepIn K (.ref yo5) = true)
  (ymv : Binds K ywu ["reader", "at"] [])
  {yo : Addr} (yaq : ClsF K mg "Kind" yo)
  {yfw : Addr} {yfx : FuncData} (ycj : FnG P w K mg base Yd 1 yfw yfx ["self"] (spM K w zdl 1))
  {ych : Addr} (ya9 : PropOf K yo "writes" ych yfw)
  (yc7 : Binds K yfx ["self"] []) :
  FnG P w K mg base Yd 5 f fd ["design", "reader", "standing", "kind", "most"] (spM K w F_with_begin 5) :=
 okP (k := 4) F yu5 fun cdv A outer s H E hr hgd => by
  have hN := yu5.nd
  have hu := hr.units
  exact zaf (zfc (zab 2) (zfg rfl (pgs_cons Ycs (pgs_cons Ycu (pgs_cons Ycx (pgs_cons Yga (pgs_cons Yi1 (pgs_cons (pg_name (i := 10) hN rfl Ya) Yh0))))))) (zfd (zag (zae 5) (zag (zae 6) (zag (zae 7) (zag (zae 8) (zag (zae 9) (zag (zae 10) (zag (zae 11) (zag (zae 12) (za7))))))))))) (zaf (zbf ((zdx (it_gt (zab 8) (zaj)) (zc4 (zgf (zab 4) (za6)))).it) (zaf (st_aug 12 hN (zaj) iop_add ok_opI0) (zai (zbf (it_gt (zab 12) (zab 4)) Yds (zau)))) (zau)) (zaf (zbf ((zdx (zb1 hu (zab 10) (zam)) (zc4 (zbc (zbg (cr_any rfl) ok_any (zaa (za2 (own := [("part", 13)]) (T := mYes) (E := f_with_begin_c1) rfl hN (zbs (zal (dts := []) (dvs := []) ymu Yb hgd (by rfl) yo6 yo7 ymv .nil Ye zak (zaa (zab 1) Ygn))) (by first | exact blkOk_by (N := ywt) (sc := defScope yj6) (by decide +kernel) | exact blkOk_by (by with_unfolding_all rfl) | exact blkOk_by (by decide +kernel +revert)) (fun _ _ _ _ _ => pg_name (i := 13) hN rfl Ya) (zae 13) Yj (fun _ _ _ _ _ => ie_in hu (zab 13) (ie_prop yaq.cn yaq.cl ya9 ycj Yb hgd yc7 (zak) (zab 3))) zas) (zad)) yxv)))).it) (zai (zaz 10 hN (zam))) (zau)) (zai (zan (zal (dts := []) (dvs := []) yeu Yb hgd (by rfl) yge ygf yev .nil Ye zak (zaa (zab 0) (zaa (zab 1) (zaa (zat (zaa (zab 5) (zaa (zab 6) (zaa (zab 7) (zaa (zab 8) (zaa (zab 9) (zaa (zab 10) (zaa (zab 11) (zaa (zab 12) (zad)))))))))) Y3))))))))
abbrev yip : List Str := ["design", "reader", "standing", "most", "found", "kind", "name", "later"]
theorem yqa : FnScope yip ["design", "reader", "standing", "most"] (defScope yb7) := by simp_all_arith
theorem yze (F : DG K "writer_steps" "writer_steps" yb7 dfs kws f fd)
  {yo8 : Addr} {ywv : FuncData} (yjd : FnG P w K mg base Yd 5 yo8 ywv ["design", "reader", "standing", "kind", "most"] (spM K w F_with_begin 5))
  (ykk : mg "with_begin" = some (.ref yo8)) (ykl : PySem.W.keepIn K (.ref yo8) = true)
  (yje : Binds K ywv ["design", "reader", "standing", "kind", "most"] [])
  {yde : Addr} {yi1 : FuncData} (yeu : FnG P w K mg base Yd 4 yde yi1 ["design", "reader", "standing", "kind"] (spM K w zet 4))
  (yge : mg "with_deed" = some (.ref yde)) (ygf : PySem.W.keepIn K (.ref yde) = true)
  (yev : Binds K yi1 ["design", "reader", "standing", "kind"] [])
  {yb : Addr} (yc : ClsF K mg "Design" yb)
  {yfy : Addr} {yfz : FuncData} (yck : FnG P w K mg base Yd 2 yfy yfz ["self", "name"] (spM K w zdj 2))
  (yaa : ∀ c ∈ (["Design"] : List Str), FldOk K c "kinds")
  (yx : ∀ c ∈ (["Kind", "Reader"] : List Str), FldOk K c "name")
  (ycl : Meth K yb "kind" yfy)
  (ycm : Binds K yfz ["self", "name"] []) :
  FnG P w K mg base Yd 6 f fd ["design", "reader", "standing", "most"] (spM K w zfo 4) :=
 okP (k := 5) F yqa fun cdv A outer s H E hr hgd => by
  have hN := yqa.nd
  have hu := hr.units
  exact zaf (zbf (zf8 hu Ybk (zam)) (zai (zan (ie_lstF (zaa (zat (zaa (za6) (zaa (zal (dts := []) (dvs := []) yeu Yb hgd (by rfl) yge ygf yev .nil Ye zak (zaa (zab 0) (zaa (zab 1) (zaa (zab 2) (zaa (zdq (dts := []) (dvs := []) yc.cn yc.cl ycl yck Yb hgd ycm .nil Ye zak (zab 0) (zaa Ybk (zad))) (zad)))))) (zad)))) (zad))))) (zau)) (zaf (by first | exact zdy (i := 4) (own := [("kind", 5)]) (T := mYes) (E := zdz) rfl hN rfl rfl rfl (zbs (zbn yaa (zab 0))) (by first | exact blkOk_by (N := yip) (sc := defScope yb7) (by decide +kernel) | exact blkOk_by (by with_unfolding_all rfl) | exact blkOk_by (by decide +kernel +revert)) (fun _ _ _ _ _ => pg_name (i := 5) hN rfl Ya) (zae 5) Yj Yc5 zas | exact zaz 4 hN (za2 (own := [("kind", 5)]) (T := mYes) (E := zdz) rfl hN (zbs (zbn yaa (zab 0))) (by first | exact blkOk_by (N := yip) (sc := defScope yb7) (by decide +kernel) | exact blkOk_by (by with_unfolding_all rfl) | exact blkOk_by (by decide +kernel +revert)) (fun _ _ _ _ _ => pg_name (i := 5) hN rfl Ya) (zae 5) Yj Yc5 zas)) (zai (zan (za2 (own := [("name", 6), ("later", 7)]) (T := zfs) (E := zfr) rfl hN (zbs (zab 4)) (by first | exact blkOk_by (N := yip) (sc := defScope yb7) (by decide +kernel) | exact blkOk_by (by with_unfolding_all rfl) | exact blkOk_by (by decide +kernel +revert)) (fun _ _ _ _ _ => pg_tup rfl Yfw) Ydn (fun _ _ _ _ _ => zb8 (zgf (zab 7) (za6))) (fun _ _ _ _ _ => zat (zaa (zab 6) (zaa (zab 7) (zad)))) zas))))
abbrev y3k : List Str := ["design", "standing", "counter", "many"]
theorem yu6 : FnScope y3k ["design", "standing", "counter"] (defScope yns) := by simp_all_arith
theorem y1d (F : DG K "value_seen" "value_seen" yns dfs kws f fd)
  (yki : mg "dict" = none)
  (ycu : mg "zip" = none)
  {yb : Addr} (yc : ClsF K mg "Design" yb)
  {y3 : Addr} {y4 : FuncData} (yq : FnG P w K mg base Yd 1 y3 y4 ["self", "counter"] Yld)
  {yae : Addr} {yaf : FuncData} (yz : FnG P w K mg base Yd 1 yae yaf ["self"] (spM K w za5 1))
  (yr : Meth K yb "round_of" y3)
  {yaj : Addr} (yp : PropOf K yb "counters" yaj yae)
  (yt : Binds K y4 ["self", "counter"] [])
  (y5 : Binds K yaf ["self"] []) :
  FnG P w K mg base Yd 3 f fd ["design", "standing", "counter"] (spM K w F_value_seen 3) :=
 okP (k := 2) F yu6 fun cdv A outer s H E hr hgd => by
  have hN := yu6.nd
  have hu := hr.units
  exact zaf (zaz 3 hN (ie_dgetT hu (ie_frzD (ie_dzip rfl yki ycu (zaa Ydo (zaa Ykj (zad))))) (zab 2))) (zai (zan (ze6 (it_isN (zdq (dts := []) (dvs := []) yc.cn yc.cl yr yq Yb hgd yt .nil Ye zak (zab 0) Yay) (za6)) (zat (zaa (zab 3) (zaa (zbw) (zad)))) (zab 3))))
abbrev yqb : List Str := ["kind", "done", "word", "target"]
theorem yo9 : FnScope yqb ["kind", "done"] (defScope ygg) := by simp_all_arith
theorem yxz (F : DG K "parts_written" "parts_written" ygg dfs kws f fd)
  (yd : ∀ c ∈ (["Kind", "Reader"] : List Str), FldOk K c "deeds") :
  FnG P w K mg base Yd 1 f fd ["kind", "done"] (spM K w zeu 2) :=
 okP (k := 0) F yo9 fun cdv A outer s H E hr hgd => by
  have hN := yo9.nd
  have hu := hr.units
  exact zai (zan (za2 (own := [("word", 2), ("target", 3)]) (T := zfi) (E := zfb) rfl hN (zbs (zb6 Yg3 zds (zco (zab 1)))) (by first | exact blkOk_by (N := yqb) (sc := defScope ygg) (by decide +kernel) | exact blkOk_by (by with_unfolding_all rfl) | exact blkOk_by (by decide +kernel +revert)) (fun _ _ _ _ _ => pg_tup rfl Ycr) (zc3 Yco) Yhy Yhx zas))
abbrev yww : List Str := ["design", "reader", "standing", "part", "name", "done", "counts", "at", "seen", "fit", "behind", "passed", "kind", "written", "other"]
theorem yu7 : FnScope yww ["design", "reader", "standing", "part"] (defScope yj7) := by simp_all_arith
theorem y1e (F : DG K "fit_behind" "fit_behind" yj7 dfs kws f fd)
  (ye : mg "tuple" = none)
  (yb4 : mg "sorted" = none)
  (yap : mg "str" = none)
  {ya4 : Addr} {ybr : FuncData} (ybc : FnG P w K mg base Yd 1 ya4 ybr ["reader", "at"] (spM K w zcs 2))
  (ybj : mg "parts_left" = some (.ref ya4)) (ybk : PySem.W.keepIn K (.ref ya4) = true)
  (ybd : Binds K ybr ["reader", "at"] [])
  {ykm : Addr} {yqc : FuncData} (yjl : FnG P w K mg base Yd 1 ykm yqc ["kind", "done"] (spM K w zeu 2))
  (ykn : mg "parts_written" = some (.ref ykm)) (yko : PySem.W.keepIn K (.ref ykm) = true)
  (yjm : Binds K yqc ["kind", "done"] [])
  {yo : Addr} (yaq : ClsF K mg "Kind" yo)
  {yb : Addr} (yc : ClsF K mg "Design" yb)
  {yfw : Addr} {yfx : FuncData} (ycj : FnG P w K mg base Yd 1 yfw yfx ["self"] (spM K w zdl 1))
  {yfy : Addr} {yfz : FuncData} (yck : FnG P w K mg base Yd 2 yfy yfz ["self", "name"] (spM K w zdj 2))
  {ych : Addr} (ya9 : PropOf K yo "writes" ych yfw)
  (ycl : Meth K yb "kind" yfy)
  (yc7 : Binds K yfx ["self"] [])
  (ycm : Binds K yfz ["self", "name"] []) :
  FnG P w K mg base Yd 3 f fd ["design", "reader", "standing", "part"] (spM K w F_fit_behind 4) :=
 okP (k := 2) F yu7 fun cdv A outer s H E hr hgd => by
  have hN := yu7.nd
  have hu := hr.units
  exact zaf Ycq (zaf (zbf ((zcf Ydx (zbt ((zdx Ydx (zc4 (it_in hu (zab 3) (zab 10)))).it))).it) Ygb (zau)) (zaf (zbf Ydx (zai (zan (zat (zaa (zam) (zaa (zab 10) (zad)))))) (zau)) (zaf (zaz 12 hN (ze6 (zf8 hu (zab 4) (zam)) (zdq (dts := []) (dvs := []) yc.cn yc.cl ycl yck Yb hgd ycm .nil Ye zak (zab 0) Ydm) (za6))) (zaf (zbf ((zcf (it_isN (zab 12) (za6)) (zbt (it_nin hu (zab 3) (ie_prop yaq.cn yaq.cl ya9 ycj Yb hgd yc7 (zak) (zab 12))))).it) (zai (zan (zat (zaa (zab 9) (zaa (zat (zad)) (zad)))))) (zau)) (zaf (zaz 13 hN (zal (dts := []) (dvs := []) yjl Yb hgd (by rfl) ykn yko yjm .nil Ye zak (zaa (zab 12) Yci))) (zaf (zbf (it_in hu (zab 3) (zab 13)) Ygb (zau)) (zaf (zbf Ydx Ygb (zau)) (zai (zan (zat (zaa (zam) (zaa (zdw zbr zeg (zaa (zbg cr_sortA ok_sort (zaa (za2 (own := [("other", 14)]) (T := f_fit_behind_c1) (E := f_fit_behind_c2) rfl hN (zbs (zal (dts := []) (dvs := []) ybc Yb hgd (by rfl) ybj ybk ybd .nil Ye zak (zaa (zab 1) (zaa (zdd (zab 7) (zaj)) (zad))))) (by first | exact blkOk_by (N := yww) (sc := defScope yj7) (by decide +kernel) | exact blkOk_by (by with_unfolding_all rfl) | exact blkOk_by (by decide +kernel +revert)) (fun _ _ _ _ _ => pg_name (i := 14) hN rfl Ya) (zae 14) (fun _ _ _ _ _ => zb8 (it_in hu (zab 14) (zab 13))) Yku zas) (zad)) yb4) (zad)) ye) (zad)))))))))))))
abbrev y4r : List Str := ["thing"]
theorem y0o : FnScope y4r ["thing"] (defScope yvr) := by simp_all_arith
theorem y33 (F : DG K "is_even" "is_even" yvr dfs kws f fd)
  (ya : mg "isinstance" = none)
  (ye : mg "tuple" = none)
  (hT : ze7 K zbo) :
  FnG P w K mg base Yd 1 f fd ["thing"] (spM K w F_is_even 1) :=
 okP (k := 0) F y0o fun cdv A outer s H E hr hgd => by
  have hN := y0o.nd
  have hu := hr.units
  exact zai (zan (ie_eq hu (ie_mod (ze6 Yc6 Ygm (zab 0)) (zaj)) (zaj)))
abbrev y1y : List Str := ["reader", "known", "test", "target", "spot"]
theorem y0p : FnScope y1y ["reader", "known", "test"] (defScope ypk) := by simp_all_arith
theorem y34 (F : DG K "is_same" "is_same" ypk dfs kws f fd)
  (yxv : mg "any" = none)
  (ybx : mg "range" = none)
  (ya : mg "isinstance" = none)
  (ye : mg "tuple" = none)
  (yd : ∀ c ∈ (["Kind", "Reader"] : List Str), FldOk K c "deeds")
  (hT : ze7 K zbo) :
  FnG P w K mg base Yd 1 f fd ["reader", "known", "test"] (spM K w F_is_same 3) :=
 okP (k := 0) F y0p fun cdv A outer s H E hr hgd => by
  have hN := y0p.nd
  have hu := hr.units
  exact zaf (zbf (zbi (zbc (zbg za9 (zcv hT) (zaa (ie_dgetT hu (zab 1) Ybk) Yf9) ya))) (zai (zan (ie_eq hu (ie_dgetT hu (zab 1) Ybk) (ie_dgetT hu (zab 1) Ybk)))) (zau)) (zaf (zaz 3 hN (zaq Yg3 Ybk)) (zai (zan (ie_not (zbg (cr_any rfl) ok_any (zaa (za2 (own := [("spot", 4)]) (T := f_is_same_c1) (E := f_is_same_c2) rfl hN (ii_rng2 (by rfl) ybx (zaa Ybk (zaa Ybk (zad)))) (by first | exact blkOk_by (N := y1y) (sc := defScope ypk) (by decide +kernel) | exact blkOk_by (by with_unfolding_all rfl) | exact blkOk_by (by decide +kernel +revert)) (fun _ _ _ _ _ => pg_name (i := 4) hN rfl Ya) (zae 4) (fun _ _ _ _ _ => zb8 (zb1 hu (zaq Yg3 (zab 4)) (zab 3))) (fun _ _ _ _ _ => zaq (ie_dgetT hu (zab 1) (zab 4)) (zaj)) zas) (zad)) yxv)))))
abbrev ymw : List Str := ["reader", "seen", "spots", "known", "test", "is_right", "spot", "deed"]
theorem ys7 : FnScope ymw ["reader", "seen"] (defScope yfp) := by simp_all_arith
theorem y0q (F : DG K "is_accepted" "is_accepted" yfp dfs kws f fd)
  (yki : mg "dict" = none)
  (ycu : mg "zip" = none)
  (ybf : mg "enumerate" = none)
  {ywx : Addr} {y1z : FuncData} (yt7 : FnG P w K mg base Yd 1 ywx y1z ["thing"] (spM K w F_is_even 1))
  (ywy : mg "is_even" = some (.ref ywx)) (ywz : PySem.W.keepIn K (.ref ywx) = true)
  (yt8 : Binds K y1z ["thing"] [])
  {yw0 : Addr} {y10 : FuncData} (yt9 : FnG P w K mg base Yd 1 yw0 y10 ["reader", "known", "test"] (spM K w F_is_same 3))
  (yw1 : mg "is_same" = some (.ref yw0)) (yw2 : PySem.W.keepIn K (.ref yw0) = true)
  (yua : Binds K y10 ["reader", "known", "test"] [])
  (ygd : ∀ c ∈ (["Reader"] : List Str), FldOk K c "tests")
  (yd : ∀ c ∈ (["Kind", "Reader"] : List Str), FldOk K c "deeds") :
  FnG P w K mg base Yd 2 f fd ["reader", "seen"] (spM K w zge 2) :=
 okP (k := 1) F ys7 fun cdv A outer s H E hr hgd => by
  have hN := ys7.nd
  have hu := hr.units
  exact zaf (by first | exact zdy (i := 2) (own := [("spot", 6), ("deed", 7)]) (T := zed) (E := zea) rfl hN rfl rfl rfl (ii_en (by rfl) ybf (zaa (zbn yd (zab 0)) (zad))) (by first | exact blkOk_by (N := ymw) (sc := defScope yfp) (by decide +kernel) | exact blkOk_by (by with_unfolding_all rfl) | exact blkOk_by (by decide +kernel +revert)) (fun _ _ _ _ _ => pg_tup rfl Yfw) Ydn (fun _ _ _ _ _ => zb8 (zb1 hu (zaq (zab 7) (zaj)) (zam))) Yhw zas | exact zaz 2 hN (za2 (own := [("spot", 6), ("deed", 7)]) (T := zed) (E := zea) rfl hN (ii_en (by rfl) ybf (zaa (zbn yd (zab 0)) (zad))) (by first | exact blkOk_by (N := ymw) (sc := defScope yfp) (by decide +kernel) | exact blkOk_by (by with_unfolding_all rfl) | exact blkOk_by (by decide +kernel +revert)) (fun _ _ _ _ _ => pg_tup rfl Yfw) Ydn (fun _ _ _ _ _ => zb8 (zb1 hu (zaq (zab 7) (zaj)) (zam))) Yhw zas)) (zaf (zaz 3 hN (ie_frzD (ie_dzip rfl yki ycu (zaa (zab 2) Yad)))) (zaf (st_for (B := f_is_accepted_l1) PassesOwn.never rfl (zbs (zbn ygd (zab 0))) Ycw (zae 4) (zaf (zaz 5 hN (ze6 (zb1 hu (zaq (zab 4) (zaj)) (zam)) (zal (dts := []) (dvs := []) yt7 Yb hgd (by rfl) ywy ywz yt8 .nil Ye zak (zaa (ie_dgetT hu (zab 3) (zaq (zab 4) (zaj))) (zad))) (zal (dts := []) (dvs := []) yt9 Yb hgd (by rfl) yw1 yw2 yua .nil Ye zak (zaa (zab 0) (zaa (zab 3) Ydm))))) (zai (zbf (zbi (zbc (zab 5))) Y4 (zau))))) Y4))
abbrev y2n : List Str := ["design", "reader", "standing", "name", "done", "counts", "at", "seen", "fit", "behind", "passed", "word", "target"]
theorem ys8 : FnScope y2n ["design", "reader", "standing"] (defScope ymc) := by simp_all_arith
theorem y0r (F : DG K "reader_step" "reader_step" ymc dfs kws f fd)
  (yg : mg "len" = none)
  {ymx : Addr} {yu8 : FuncData} (ylm : FnG P w K mg base Yd 2 ymx yu8 ["reader", "seen"] (spM K w zge 2))
  (ymy : mg "is_accepted" = some (.ref ymx)) (ymz : PySem.W.keepIn K (.ref ymx) = true)
  (yln : Binds K yu8 ["reader", "seen"] [])
  {ypa : Addr} {yw3 : FuncData} (ym0 : FnG P w K mg base Yd 3 ypa yw3 ["design", "standing", "counter"] (spM K w F_value_seen 3))
  (ypb : mg "value_seen" = some (.ref ypa)) (ypc : PySem.W.keepIn K (.ref ypa) = true)
  (ym1 : Binds K yw3 ["design", "standing", "counter"] [])
  {ypd : Addr} {yw4 : FuncData} (ym2 : FnG P w K mg base Yd 3 ypd yw4 ["design", "reader", "standing", "part"] (spM K w F_fit_behind 4))
  (ype : mg "fit_behind" = some (.ref ypd)) (ypf : PySem.W.keepIn K (.ref ypd) = true)
  (ym3 : Binds K yw4 ["design", "reader", "standing", "part"] [])
  {ym : Addr} (yax : ClsF K mg "Reader" ym)
  {yg6 : Addr} {yg7 : FuncData} (yc5 : FnG P w K mg base Yd 1 yg6 yg7 ["self"] (spM K w zd4 1))
  (yc6 : Meth K ym "__len__" yg6)
  (yd : ∀ c ∈ (["Kind", "Reader"] : List Str), FldOk K c "deeds")
  (yet : Binds K yg7 ["self"] []) :
  FnG P w K mg base Yd 4 f fd ["design", "reader", "standing"] (spM K w zgd 3) :=
 okP (k := 3) F ys8 fun cdv A outer s H E hr hgd => by
  have hN := ys8.nd
  have hu := hr.units
  exact zaf (zfc (zab 2) (zfg rfl (pgs_cons Yi0 (pgs_cons Ycw (pgs_cons Ycs (pgs_cons Ycu (pgs_cons Ycx (pgs_cons Yga (pgs_cons Yi1 (pgs_cons (pg_name (i := 10) hN rfl Ya) Ybg))))))))) (zfd (zag (zae 3) (zag (zae 4) (zag (zae 5) (zag (zae 6) (zag (zae 7) (zag (zae 8) (zag (zae 9) (zag (zae 10) (za7))))))))))) (zaf (zfc (zaq (zbn yd (zab 1)) (zab 6)) (zfg rfl Yh0) (zfd (zag (zae 11) (zag (zae 12) (za7))))) (zaf (zbf (zb1 hu (zab 11) (zam)) (zai (zaz 7 hN (zat (ia_star (zab 7) (zaa (zal (dts := []) (dvs := []) ym0 Yb hgd (by rfl) ypb ypc ym1 .nil Ye zak (zaa (zab 0) (zaa (zab 2) (zaa (zab 12) (zad))))) (zad)))))) (zai (zfc (zal (dts := []) (dvs := []) ym2 Yb hgd (by rfl) ype ypf ym3 .nil Ye zak (zaa (zab 0) (zaa (zab 1) (zaa (zab 2) (zaa (zab 12) (zad)))))) (zfg rfl (pgs_cons Yga (pgs_cons Yi1 Ybg))) (zfd (zag (zae 8) (zag (zae 9) (za7))))))) (zaf (zbf (it_ltA (zdd (zab 6) (zaj)) (ie_lenOwn yax.cn yc6 yc5 Yb hgd yet zak yg (zab 1))) (zai (zan (zat (zaa (zat (zaa (zab 3) (zaa (zab 4) (zaa (zab 5) (zaa (zdd (zab 6) (zaj)) (zaa (zab 7) (zaa (zab 8) (zaa (zab 9) (zaa (zab 10) (zad)))))))))) (zaa (za6) (zad)))))) (zau)) (zai (zan (zat (zaa (zat (zaa (zab 3) (zaa (zab 4) (zaa (zab 5) Ybc)))) (zaa (zat (zaa (zal (dts := []) (dvs := []) ylm Yb hgd (by rfl) ymy ymz yln .nil Ye zak (zaa (zab 1) (zaa (zab 7) (zad)))) Ygn)) (zad)))))))))
abbrev y4i : List Str := ["finished", "accepted", "fit"]
theorem yyq : FnScope y4i ["finished"] (defScope ytl) := by simp_all_arith
theorem y3l (F : DG K "fault_of" "fault_of" ytl dfs kws f fd) :
  FnG P w K mg base Yd 1 f fd ["finished"] (spM K w F_fault_of 1) :=
 okP (k := 0) F yyq fun cdv A outer s H E hr hgd => by
  have hN := yyq.nd
  have hu := hr.units
  exact zaf (zfc (zab 0) (zfg rfl Yh9) (zfd (zag (zae 1) (zag (zae 2) (za7))))) (zaf (zbf (zbi (zbc (zab 1))) Yds (zau)) (zai (zan (ze6 (zb1 hu (zab 2) (zam)) (zam) (ze6 (zb1 hu (zab 2) (zam)) (zam) (za6))))))
abbrev yzf : List Str := ["design", "reader", "standing", "most", "found", "later", "finished", "name"]
theorem y11 : FnScope yzf ["design", "reader", "standing", "most"] (defScope ynt) := by simp_all_arith
theorem y4j (F : DG K "led_on" "led_on" ynt dfs kws f fd)
  {yub : Addr} {y0s : FuncData} (yq4 : FnG P w K mg base Yd 1 yub y0s ["finished"] (spM K w F_fault_of 1))
  (yuc : mg "fault_of" = some (.ref yub)) (yud : PySem.W.keepIn K (.ref yub) = true)
  (yq5 : Binds K y0s ["finished"] [])
  {ym4 : Addr} {yu9 : FuncData} (ylo : FnG P w K mg base Yd 4 ym4 yu9 ["design", "reader", "standing"] (spM K w zgd 3))
  (ym5 : mg "reader_step" = some (.ref ym4)) (ym6 : PySem.W.keepIn K (.ref ym4) = true)
  (ylp : Binds K yu9 ["design", "reader", "standing"] [])
  {ylq : Addr} {ys9 : FuncData} (ygt : FnG P w K mg base Yd 6 ylq ys9 ["design", "reader", "standing", "most"] (spM K w zfo 4))
  (yiq : mg "writer_steps" = some (.ref ylq)) (yir : PySem.W.keepIn K (.ref ylq) = true)
  (ygu : Binds K ys9 ["design", "reader", "standing", "most"] []) :
  FnG P w K mg base Yd 7 f fd ["design", "reader", "standing", "most"] (spM K w F_led_on 4) :=
 okP (k := 6) F y11 fun cdv A outer s H E hr hgd => by
  have hN := y11.nd
  have hu := hr.units
  exact zaf (by first | exact zdy (i := 4) (own := [("name", 7), ("later", 5)]) (T := mYes) (E := f_led_on_c1) rfl hN rfl rfl rfl (zbs (zal (dts := []) (dvs := []) ygt (hr.mono (by decide)) hgd (by rfl) yiq yir ygu .nil (fun s => rfl) zak (zaa (zab 0) (zaa (zab 1) (zaa (zab 2) Y3))))) Yb6 Yle (zc3 (zag (zae 7) (zag (zae 5) (za7)))) Yj (fun _ _ _ _ _ => zat (zaa (zab 5) (zaa (za6) (zad)))) fin_live | exact zaz 4 hN (za2 (own := [("name", 7), ("later", 5)]) (T := mYes) (E := f_led_on_c1) rfl hN (zbs (zal (dts := []) (dvs := []) ygt (hr.mono (by decide)) hgd (by rfl) yiq yir ygu .nil (fun s => rfl) zak (zaa (zab 0) (zaa (zab 1) (zaa (zab 2) Y3))))) Yb6 Yle (zc3 (zag (zae 7) (zag (zae 5) (za7)))) Yj (fun _ _ _ _ _ => zat (zaa (zab 5) (zaa (za6) (zad)))) fin_live)) (zaf (zfc (zal (dts := []) (dvs := []) ylo Yb hgd (by rfl) ym5 ym6 ylp .nil Ye zak (zaa (zab 0) (zaa (zab 1) Yay))) (zfg rfl Yha) (zfd Yhb)) (zaf (st_expr (ie_append (zab 4) (zaa (zat (zaa (zab 5) (zaa (ze6 (it_isN (zab 6) (za6)) (za6) (zal (dts := []) (dvs := []) yq4 Yb hgd (by rfl) yuc yud yq5 .nil Ye zak (zaa (zab 6) (zad)))) (zad)))) (zad)))) (is_fz 4 (zai (zan (zab 4))))))
abbrev ylz : List Str := ["design", "name", "fault", "value", "most", "reader", "known", "standing", "later", "told"]
theorem yw5 : FnScope ylz ["design", "name", "fault", "value", "most"] (defScope yai) := by simp_all_arith
theorem y2o (F : DG K "certifies" "certifies" yai dfs kws f fd)
  (ya : mg "isinstance" = none)
  (ye : mg "tuple" = none)
  (ya0 : mg "all" = none)
  {yzg : Addr} {y3m : FuncData} (yw6 : FnG P w K mg base Yd 7 yzg y3m ["design", "reader", "standing", "most"] (spM K w F_led_on 4))
  (yzh : mg "led_on" = some (.ref yzg)) (yzi : PySem.W.keepIn K (.ref yzg) = true)
  (yw7 : Binds K y3m ["design", "reader", "standing", "most"] [])
  {y1f : Addr} {y36 : FuncData} (yzj : FnG P w K mg base Yd 3 y1f y36 ["design"] (spM K w F_start 1))
  (y1g : mg "start" = some (.ref y1f)) (y1h : PySem.W.keepIn K (.ref y1f) = true)
  (yzk : Binds K y36 ["design"] [])
  {ym7 : Addr} {yva : FuncData} (ylr : FnG P w K mg base Yd 5 ym7 yva ["design", "reader", "value", "most"] (spM K w zcg 4))
  (ym8 : mg "is_standing" = some (.ref ym7)) (ym9 : PySem.W.keepIn K (.ref ym7) = true)
  (yls : Binds K yva ["design", "reader", "value", "most"] [])
  {yiu : Addr} {yna : FuncData} (yg8 : FnG P w K mg base Yd 1 yiu yna ["fault"] (spM K w zbu 1))
  (yiv : mg "need_sure_fault" = some (.ref yiu)) (yiw : PySem.W.keepIn K (.ref yiu) = true)
  (yg9 : Binds K yna ["fault"] [])
  {yb : Addr} (yc : ClsF K mg "Design" yb)
  {yqd : Addr} {yqe : FuncData} (yjn : FnG P w K mg base Yd 2 yqd yqe ["self", "name"] (spM K w zcb 2))
  (hT : ze7 K zbo)
  (yjo : Meth K yb "reader" yqd)
  (yjp : Binds K yqe ["self", "name"] []) :
  FnG P w K mg base Yd 8 f fd ["design", "name", "fault", "value", "most"] (spM K w zap 5) :=
 okP (k := 7) F yw5 fun cdv A outer s H E hr hgd => by
  have hN := yw5.nd
  have hu := hr.units
  exact zaf (zaz 5 hN (zdq (dts := []) (dvs := []) yc.cn yc.cl yjo yjn Yb hgd yjp .nil Ye zak (zab 0) Yad)) (zaf (st_expr (zal (dts := []) (dvs := []) yg8 Yb hgd (by rfl) yiv yiw yg9 .nil Ye zak Yay)) (zaf (zbf ((zcf (zbi (zbc (zbg za9 (zcv hT) (zaa (zab 3) Yf9) ya))) (zbt (zbi (zbc (zbg Yh4 ok_all (zaa (za2 (own := [("standing", 7)]) (T := mYes) (E := zcn) rfl hN (zbs (zab 3)) (by first | exact blkOk_by (N := ylz) (sc := defScope yai) (by decide +kernel) | exact blkOk_by (by with_unfolding_all rfl) | exact blkOk_by (by decide +kernel +revert)) (fun _ _ _ _ _ => pg_name (i := 7) hN rfl Ya) (zae 7) Yj (fun _ _ _ _ _ => zal (dts := []) (dvs := []) ylr Yb hgd (by rfl) ym8 ym9 yls .nil Ye zak (zaa (zab 0) (zaa (zab 5) (zaa (zab 7) Ydm)))) zas) (zad)) ya0))))).it) Y4 (zau)) (zaf (by first | exact st_dcompN (i := 6) (own := [("standing", 7)]) (Kf := zfq) (Vf := zfp) hu rfl hN rfl rfl rfl (zbs (zab 3)) (by first | exact blkOk_by (N := ylz) (sc := defScope yai) (by decide +kernel) | exact blkOk_by (by with_unfolding_all rfl) | exact blkOk_by (by decide +kernel +revert)) (fun _ _ _ _ _ => pg_name (i := 7) hN rfl Ya) (zae 7) (fun _ _ _ _ _ => zab 7) (fun _ _ _ _ _ => zbw) | exact zaz 6 hN (ie_dcompN (own := [("standing", 7)]) (Kf := zfq) (Vf := zfp) hu rfl hN (zbs (zab 3)) (by first | exact blkOk_by (N := ylz) (sc := defScope yai) (by decide +kernel) | exact blkOk_by (by with_unfolding_all rfl) | exact blkOk_by (by decide +kernel +revert)) (fun _ _ _ _ _ => pg_name (i := 7) hN rfl Ya) (zae 7) (fun _ _ _ _ _ => zab 7) (fun _ _ _ _ _ => zbw))) (zaf (zbf (it_lNin hu (zal (dts := []) (dvs := []) yzj Yb hgd (by rfl) y1g y1h yzk .nil Ye zak Yaz) (ie_lockN (zab 6))) Y4 (zau)) (zaf (st_for (B := f_certifies_l2) PassesOwn.never rfl (ii_keysN (zab 6)) Ycx (zae 7) (zai (st_for (B := f_certifies_l1) PassesOwn.never rfl (zbs (zal (dts := []) (dvs := []) yw6 Yb hgd (by rfl) yzh yzi yw7 .nil Ye zak (zaa (zab 0) (zaa (zab 5) (zaa (zab 7) Ydm))))) (pg_tup rfl (pgs_cons Yga (pgs_cons Yi1 Ybg))) (zc3 (zag (zae 8) (zag (zae 9) (za7)))) (zai (zbf ((zcf (zb1 hu (zab 9) (zab 2)) (zbt (it_lNin hu (zab 8) (zab 6)))).it) Y4 (zau)))))) Y4)))))
abbrev y4x : List Str := ["_law_script", "_law_deal_here", "_law_made", "_law_begun", "_law_turn", "_law_value", "_law_fault", "_law_wide", "_law_amid", "_law_lone", "_law_some", "_law_fit"]
theorem y4s : FnScope y4x ["_law_script"] (defScope y2p) := by simp_all_arith
theorem y4z (F : DG K "law" "law" y2p dfs kws f fd)
  (ye : mg "tuple" = none)
  (ybx : mg "range" = none)
  {yq6 : Addr} {yyr : FuncData} (yag : FnG P w K mg base Yd 8 yq6 yyr ["design", "name", "fault", "value", "most"] (spM K w zap 5))
  (yan : mg "certifies" = some (.ref yq6)) (y6 : PySem.W.keepIn K (.ref yq6) = true)
  (yah : Binds K yyr ["design", "name", "fault", "value", "most"] [.none])
  {ylh : Addr} {ys2 : FuncData} (yg5 : FnG P w K mg base Yd 25 ylh ys2 ["_law_deal_here", "_law_deep"] (spM K w F_w_any 2))
  (yli : mg "_law_any" = some (.ref ylh)) (ylj : PySem.W.keepIn K (.ref ylh) = true)
  (yjk : Binds K ys2 ["_law_deal_here", "_law_deep"] [])
  {yzl : Addr} {y3n : FuncData} (yw8 : FnG P w K mg base Yd 1 yzl y3n ["_law_script", "_law_base"] (spM K w F_w_deal 2))
  (yzm : mg "_law_deal" = some (.ref yzl)) (yzn : PySem.W.keepIn K (.ref yzl) = true)
  (yw9 : Binds K y3n ["_law_script", "_law_base"] [])
  {yb : Addr} (yc : ClsF K mg "Design" yb)
  {yfu : Addr} {yfv : FuncData} (ybe : FnG P w K mg base Yd 10 yfu yfv ["cls", "text"] (spX K w zbj 2))
  {mc_Design : Value} {ycg : Addr} (r_Design : ClX.CRead K yb mc_Design) (cm_Design_read : ClX.CMet K yb mc_Design "read" ycg yfu)
  (ybo : Binds K yfv ["cls", "text"] []) :
  FnG P w K mg base Yd 26 f fd ["_law_script"] (spM K w F_law 1) :=
 okM (k := 25) F y4s fun cdv A outer s H E hr hgd => by
  have hN := y4s.nd
  have hu := hr.units
  exact zaf (zaz 1 hN (zal (dts := []) (dvs := []) yw8 Yb hgd (by rfl) yzm yzn yw9 .nil Ye fnM_len (zaa (zab 0) Ydt))) (zaf (zaz 2 hN Ycy) (zaf (zaz 3 hN (zat (zaa (zam) (zaa (zaj) (zaa (zat (zad)) Ybc))))) (zaf (st_for (B := f_law_l2) PassesOwn.never rfl (ii_rng1 (by rfl) ybx Ydt) Ycw (zae 4) (zaf (zaz 5 hN (zal (dts := []) (dvs := []) yg5 Yb hgd (by rfl) yli ylj yjk .nil Ye (recN_len (fun _ => fnM_len) _) (zaa (zab 1) Ydt))) (zai (st_for (B := f_law_l1) PassesOwn.never rfl (zbs (zat (zaa (zam) Ybu))) Ycu (zae 6) (zaf (zbf (zez (zal (dts := [.non]) (dvs := [V.non]) yag Yb hgd (by rfl) yan y6 yah Ybq Yn zak (zaa (zab 2) (zaa (zam) (zaa (zab 6) Yci)))) (zbw)) Y4 (zau)) (zai (zbf (zez (zal (dts := [.non]) (dvs := [V.non]) yag Yb hgd (by rfl) yan y6 yah Ybq Yn zak (zaa (zab 2) (zaa (zam) (zaa (zab 6) (zaa (zat (zaa (zab 3) Yci)) (zad)))))) (zbw)) Y4 (zau)))))))) (zaf (zbf ((zcf (zez (zal (dts := [.non]) (dvs := [V.non]) yag Yb hgd (by rfl) yan y6 yah Ybq Yn zak (zaa (zab 2) (zaa (zam) (zaa (zam) (zaa (zat Y3) (zad)))))) (zbw)) (zbt (zez (zal (dts := [.non]) (dvs := [V.non]) yag Yb hgd (by rfl) yan y6 yah Ybq Yn zak (zaa (zab 2) (zaa (zam) (zaa (zam) (zaa (zat (zaa (zab 3) Y3)) (zad)))))) (zbw)))).it) Y4 (zau)) (zaf (zaz 7 hN Ycy) (zaf (zaz 8 hN (zat (zaa (zam) (zaa (zaj) (zaa (zat (zad)) Ybc))))) (zaf (zbf ((zcf (zez (zal (dts := [.non]) (dvs := [V.non]) yag Yb hgd (by rfl) yan y6 yah Ybq Yn zak (zaa (zab 7) (zaa (zam) (zaa (zam) (zaa (zat (zaa (zab 3) Ygn)) (zad)))))) (zbw)) (zbt (zbc (zal (dts := [.non]) (dvs := [V.non]) yag Yb hgd (by rfl) yan y6 yah Ybq Yn zak (zaa (zab 7) (zaa (zam) (zaa (zam) (zaa (zat (zaa (zab 8) Y3)) (zad))))))))).it) Y4 (zau)) (zaf (zbf ((zcf (zez (zal (dts := [.non]) (dvs := [V.non]) yag Yb hgd (by rfl) yan y6 yah Ybq Yn zak (zaa (zab 7) (zaa (zam) (zaa (zam) (zaa (zat Y3) (zad)))))) (zbw)) (zbt (zez (zal (dts := [.non]) (dvs := [V.non]) yag Yb hgd (by rfl) yan y6 yah Ybq Yn zak (zaa (zab 7) (zaa (zam) (zaa (zam) (zaa (zat Ygn) (zad)))))) (zbw)))).it) Y4 (zau)) (zaf (zbf ((zcf (zez (zal (dts := [.non]) (dvs := [V.non]) yag Yb hgd (by rfl) yan y6 yah Ybq Yn zak (zaa (zab 7) (zaa (zam) (zaa (zam) (zaa (zat (zad)) (zad)))))) (zbw)) (zbt (zez (zal (dts := [.non]) (dvs := [V.non]) yag Yb hgd (by rfl) yan y6 yah Ybq Yn zak (zaa (zab 7) (zaa (zam) (zaa (zam) (zaa (ie_lstF (zaa (zab 3) Ygn)) (zad)))))) (zbw)))).it) Y4 (zau)) (zaf (zaz 9 hN Ycy) (zaf (zaz 10 hN (zdd (zat Y3) (zdw zbr zeg (zaa (za2 (own := [("_law_fit", 11)]) (T := mYes) (E := f_law_c1) rfl hN (zbs (zat (zaa (zam) (zaa (zam) Ybu)))) (by first | exact blkOk_by (N := y4x) (sc := defScope y2p) (by decide +kernel) | exact blkOk_by (by with_unfolding_all rfl) | exact blkOk_by (by decide +kernel +revert)) (fun _ _ _ _ _ => pg_name (i := 11) hN rfl Ya) (zae 11) Yj (fun _ _ _ _ _ => zat (zaa (zam) (zaa (zaj) (zaa (zat (zad)) (zaa (zaj) (zaa (zat (zad)) (zaa (zab 11) (zaa (zat (zad)) Ydt)))))))) zas) (zad)) ye))) (zaf (zbf ((zcf Ydd (zbt Ydd)).it) Y4 (zau)) (zai (zan (ie_and Yc8 (ie_one Yc8))))))))))))))))
end
theorem all_mk : AllMk F_law := by
 intro l w K h mg fa KX G hfa yb ybn ypl ypm ypn ypo ypp ypq ypr yps ye0 ydf ygh yo ycv yxl yxm yxn yxo yxp yxq yxr yxs yi3 yi4 yj8 ym ya7 ypt ypu ypv ypw ypx ypy ypz yp0 ygi ygj yhb ygk ye1 ih it ia_Kind im_Kind ia_Reader im_Reader ia_Design im_Design kz_Kind_str kz_Kind_tuple kz_Kind_list kz_Kind_int kz_Kind_bool kz_Reader_str kz_Reader_tuple kz_Reader_list kz_Reader_int kz_Reader_bool kz_Design_str kz_Design_tuple kz_Design_list kz_Design_int kz_Design_bool yn ydm yq8 yq9 yra yrb ykq yrc yrd yre yrf yrg yrh yri yrj yrk yrl yhc yhd ygl ydn ydo yhe ya5 ydp ydq yrm yhf yhg yhh yhi yrn yhj yb8 ydr yro yhk yhl yrp yrq ykr yrr yks yrs yhm yhn yho yrt yru yrv yhp yhq yhr yhs ygm ygn ygo yi ycn ynu ynv ynw ynx yjf yny ynz yn0 yn1 yn2 yn3 yn4 yn5 yn6 yn7 ye2 ye3 ydg yco ycp ye4 yar ycq ycr yn8 ye5 ye6 ye7 ye8 yn9 ye9 ybp ycs yoa yfa yfb yob yoc yjg yod yjh yoe yfc yfd yfe yof yog yoh yff yfg yfh yfi ydh ydi ydj yj yds yrw yrx yry yrz ykt yr0 yr1 yr2 yr3 yr4 yr5 yr6 yr7 yr8 yr9 yht yhu ygp ydt ydu yhv yal ydv ydw ysa yhw yhx yhy yhz ysb yh0 yb9 ydx ysc yh1 yh2 ysd yse yku ysf ykv ysg yh3 yh4 yh5 ysh ysi ysj yh6 yh7 yh8 yh9 ygq ygr ygs xsup xany xtop v_MOST_LETTERS w_MOST_LETTERS v_MOST_DIGITS_designs w_MOST_DIGITS_designs v_MOST_DIGITS_scripts w_MOST_DIGITS_scripts v_LEAST_ROUND w_LEAST_ROUND v_ENTRIES w_ENTRIES v_LETTERS w_LETTERS v_DIGITS w_DIGITS v_NAMED w_NAMED v_BESIDE w_BESIDE v_KIND w_KIND v_IF w_IF v_READER w_READER ykw o_BARRED us_BARRED ytm w_BARRED lk_BARRED yjq yjr oa_BARRED or_BARRED oz_BARRED yca o_WRITER_WORDS us_WRITER_WORDS yia w_WRITER_WORDS lk_WRITER_WORDS ybs ybt oa_WRITER_WORDS or_WRITER_WORDS oz_WRITER_WORDS ycb o_READER_WORDS us_READER_WORDS yib w_READER_WORDS lk_READER_WORDS ybu ybv oa_READER_WORDS or_READER_WORDS oz_READER_WORDS ycw o_SURE_FAULTS us_SURE_FAULTS yi5 w_SURE_FAULTS lk_SURE_FAULTS ycc ycd oa_SURE_FAULTS or_SURE_FAULTS oz_SURE_FAULTS ysk o_FITS us_FITS yzo w_FITS lk_FITS ynk ynl oa_FITS or_FITS oz_FITS ylv y2q y2r y2s yj9 y2t y2u yxt yzp y2v yzq ytn yxu yzr y2w y2x ad_w_deal y1i ykx ad_is_name yzs yjs ad_number_in yvs yf0 ad_round_in yx0 yic ad_named_in yx1 yid ad_is_sequence ysl ycx ad_deed_in yzt yjt ad_deeds_in yx2 yie ad_Kind_init yvt yf1 yka ad_Kind_read cm_Kind_read yvu yiz ad_kind_in yzu yju ad_spot_in yzv yjv ad_test_in yzw yjw ad_tests_in yx3 yif ad_Reader_init yky ydy ydz yd0 yce yd1 ykz yd2 sl_Reader_init yb1 to_Reader_init tn_Reader_init at_Reader_init fn_Reader_init yi6 yi7 yi8 e_Reader_init eo_Reader_init en_Reader_init t_Reader_init u_Reader_init el_Reader_init ec_Reader_init ed_Reader_init ea_Reader_init yig ad_Reader_read cm_Reader_read ysm yfq ad_reader_in yvv yf2 ad_are_unlike yue yd3 ad_are_kinds yvw yf3 ad_are_readers ysn ycy ad_is_integer yuf yd4 ad_is_round yx4 yih ad_are_rounds yug yd5 ad_Design_init yk0 yd6 yd7 yd8 ycf yd9 yk1 yea sl_Design_init yb2 to_Design_init tn_Design_init at_Design_init fn_Design_init yi9 yja yjb e_Design_init eo_Design_init en_Design_init t_Design_init u_Design_init el_Design_init ec_Design_init ed_Design_init ea_Design_init ycg ad_Design_read cm_Design_read yso yfr ad_w_draw y1j yk2 ad_w_pick y1k yk3 ad_w_any y2z ynm ad_Design_thing yp1 yeb ad_Design_reader yoi yc8 ad_need_sure_fault yl2 ybm ad_Kind_len yx5 ykb ad_is_below yx6 yii ad_is_progress ysp ycz yaj ad_Design_counters yp yl3 yb5 ad_Design_round_of yl4 yb6 ad_are_counts yuh yec ad_Reader_len yui ygw ad_is_seen yzx yjx ad_are_seen yx7 yij ad_is_lot_of yvx yf4 ad_parts_left yuj yed ad_is_standing ysq yc0 ad_start y20 ynn ad_bumped y1l yk4 ad_noticed yzy yjy ad_with_deed yvy yf5 ad_Design_kind ysr yfs ych ad_Kind_writes ya9 yss yft ad_parts_read yuk yee ad_with_begin yul yef ad_writer_steps yp2 yci ad_value_seen yum yeg ad_parts_written yoj ybw ad_fit_behind yun yeh ad_is_even yzz yjz ad_is_same yz0 yj0 ad_is_accepted yst yc1 ad_reader_step ysu yc2 ad_fault_of yx8 yik ad_led_on y1m yk5 ad_certifies yok ygx ygy ygz yei yg0 yol yg1 sl_certifies yda to_certifies tn_certifies ylw ylx yly y6 t_certifies u_certifies ad_law y4k yz1
 have e0 := hfa.symm.trans (PySem.W.mg_of KX G yz1.1)
 obtain rfl : fa = ad_law := by cases e0; rfl
 have yj1 : Cls K yb := ⟨ypl, ypm, ypn, ypo⟩
 have yc : ClsF K mg "Design" yb := ⟨ybn, PySem.W.mg_of KX G ybn, yj1⟩
 have yno : Cls K yo := ⟨yxl, yxm, yxn, yxo⟩
 have yaq : ClsF K mg "Kind" yo := ⟨ycv, PySem.W.mg_of KX G ycv, yno⟩
 have yey : Cls K ym := ⟨ypt, ypu, ypv, ypw⟩
 have yax : ClsF K mg "Reader" ym := ⟨ya7, PySem.W.mg_of KX G ya7, yey⟩
 have yd : ∀ c ∈ (["Kind", "Reader"] : List Str), FldOk K c "deeds" := by
  intro c hc
  simp only [List.mem_cons, List.not_mem_nil, or_false] at hc
  rcases hc with rfl | rfl
  ·exact ⟨_, ycv, yno, yi3⟩
  ·exact ⟨_, ya7, yey, ygi⟩
 have yga : ∀ c ∈ (["Kind", "Reader"] : List Str), FldOk K c "steps" := by
  intro c hc
  simp only [List.mem_cons, List.not_mem_nil, or_false] at hc
  rcases hc with rfl | rfl
  ·exact ⟨_, ycv, yno, yi4⟩
  ·exact ⟨_, ya7, yey, ygj⟩
 have yx : ∀ c ∈ (["Kind", "Reader"] : List Str), FldOk K c "name" := by
  intro c hc
  simp only [List.mem_cons, List.not_mem_nil, or_false] at hc
  rcases hc with rfl | rfl
  ·exact ⟨_, ycv, yno, yj8⟩
  ·exact ⟨_, ya7, yey, yhb⟩
 have ygd : ∀ c ∈ (["Reader"] : List Str), FldOk K c "tests" := by
  intro c hc
  simp only [List.mem_cons, List.not_mem_nil, or_false] at hc
  subst hc
  ·exact ⟨_, ya7, yey, ygk⟩
 have yop : ∀ c ∈ (["Reader"] : List Str), FldOk K c "checks" := by
  intro c hc
  simp only [List.mem_cons, List.not_mem_nil, or_false] at hc
  subst hc
  ·exact ⟨_, ya7, yey, ye1⟩
 have yep : ∀ c ∈ (["Design"] : List Str), FldOk K c "rounds" := by
  intro c hc
  simp only [List.mem_cons, List.not_mem_nil, or_false] at hc
  subst hc
  ·exact ⟨_, ybn, yj1, ye0⟩
 have ya6 : ∀ c ∈ (["Design"] : List Str), FldOk K c "readers" := by
  intro c hc
  simp only [List.mem_cons, List.not_mem_nil, or_false] at hc
  subst hc
  ·exact ⟨_, ybn, yj1, ydf⟩
 have yaa : ∀ c ∈ (["Design"] : List Str), FldOk K c "kinds" := by
  intro c hc
  simp only [List.mem_cons, List.not_mem_nil, or_false] at hc
  subst hc
  ·exact ⟨_, ybn, yj1, ygh⟩
 have kw_Kind_str : PySem.W.kitOne K Yf4 Yjh = some false := zev (T := "str") rfl kz_Kind_str
 have kw_Kind_tuple : PySem.W.kitOne K Yf4 Yhs = some false := zev (T := "tuple") rfl kz_Kind_tuple
 have kw_Kind_list : PySem.W.kitOne K Yf4 (.type "list") = some false := zev (T := "list") rfl kz_Kind_list
 have kw_Kind_int : PySem.W.kitOne K Yf4 (.type "int") = some false := zev (T := "int") rfl kz_Kind_int
 have kw_Kind_bool : PySem.W.kitOne K Yf4 (.type "bool") = some false := zev (T := "bool") rfl kz_Kind_bool
 have kw_Reader_str : PySem.W.kitOne K Yeh Yjh = some false := zev (T := "str") rfl kz_Reader_str
 have kw_Reader_tuple : PySem.W.kitOne K Yeh Yhs = some false := zev (T := "tuple") rfl kz_Reader_tuple
 have kw_Reader_list : PySem.W.kitOne K Yeh (.type "list") = some false := zev (T := "list") rfl kz_Reader_list
 have kw_Reader_int : PySem.W.kitOne K Yeh (.type "int") = some false := zev (T := "int") rfl kz_Reader_int
 have kw_Reader_bool : PySem.W.kitOne K Yeh (.type "bool") = some false := zev (T := "bool") rfl kz_Reader_bool
 have kw_Design_str : PySem.W.kitOne K Yfa Yjh = some false := zev (T := "str") rfl kz_Design_str
 have kw_Design_tuple : PySem.W.kitOne K Yfa Yhs = some false := zev (T := "tuple") rfl kz_Design_tuple
 have kw_Design_list : PySem.W.kitOne K Yfa (.type "list") = some false := zev (T := "list") rfl kz_Design_list
 have kw_Design_int : PySem.W.kitOne K Yfa (.type "int") = some false := zev (T := "int") rfl kz_Design_int
 have kw_Design_bool : PySem.W.kitOne K Yfa (.type "bool") = some false := zev (T := "bool") rfl kz_Design_bool
 have hT : ze7 K zbo := by
  refine ⟨fun t c b tv cv h ht hc => ?_, fun c d b C h n => ?_⟩
  ·unfold zbo at h
   split at h
   ·cases ht
    cases hc
    exact kit_ty h
   ·split at h
    ·rename_i a a2 e
     cases h
     obtain ⟨rfl, e⟩ := e
     obtain ⟨C1, rfl, n1⟩ := ht
     obtain ⟨C2, rfl, n2⟩ := hc
     cases n1.inj n2
     rcases e with rfl | rfl | rfl
     ·cases n1.inj ycv
      simp [PySem.W.kitOne]
     ·cases n1.inj ya7
      simp [PySem.W.kitOne]
     ·cases n1.inj ybn
      simp [PySem.W.kitOne]
    ·cases h
   ·split at h
    ·rename_i a a2 e
     cases h
     obtain ⟨e, e2⟩ := e
     obtain ⟨C1, rfl, n1⟩ := ht
     cases hc
     rcases e with rfl | rfl | rfl
     ·cases n1.inj ycv
      rcases e2 with rfl | rfl | rfl | rfl | rfl
      ·exact kw_Kind_str
      ·exact kw_Kind_tuple
      ·exact kw_Kind_list
      ·exact kw_Kind_int
      ·exact kw_Kind_bool
     ·cases n1.inj ya7
      rcases e2 with rfl | rfl | rfl | rfl | rfl
      ·exact kw_Reader_str
      ·exact kw_Reader_tuple
      ·exact kw_Reader_list
      ·exact kw_Reader_int
      ·exact kw_Reader_bool
     ·cases n1.inj ybn
      rcases e2 with rfl | rfl | rfl | rfl | rfl
      ·exact kw_Design_str
      ·exact kw_Design_tuple
      ·exact kw_Design_list
      ·exact kw_Design_int
      ·exact kw_Design_bool
    ·cases h
   ·cases h
  ·rcases d with d | d
   ·simp only [zbo] at h
    split at h
    ·rename_i e
     rcases e.1 with rfl | rfl | rfl
     ·cases n.inj ycv
      exact ⟨yno, ia_Kind, ih, it, im_Kind⟩
     ·cases n.inj ya7
      exact ⟨yey, ia_Reader, ih, it, im_Reader⟩
     ·cases n.inj ybn
      exact ⟨yj1, ia_Design, ih, it, im_Design⟩
    ·cases h
   ·simp only [zbo] at h
    split at h
    ·rename_i e
     obtain ⟨rfl, e⟩ := e
     rcases e with rfl | rfl | rfl
     ·cases n.inj ycv
      exact ⟨yno, ia_Kind, ih, it, im_Kind⟩
     ·cases n.inj ya7
      exact ⟨yey, ia_Reader, ih, it, im_Reader⟩
     ·cases n.inj ybn
      exact ⟨yj1, ia_Design, ih, it, im_Design⟩
    ·cases h
 have yta : OexC K yn := ⟨⟨_, _, _, _, _, _, _, _, _, _, _, _, _, _, _, yhc, yhd⟩, ygl, ydn, ydo, yhe⟩
 have ytb : XIni l.prog K yn ya5 "InvalidKind.__init__" "word" (defArgs (inClass (topS 3) 0)) (defBody (inClass (topS 3) 0)) (defScope (inClass (topS 3) 0)) Y8 := ⟨yta, ⟨_, _, _, _, _, _, _, _, _, _, _, _, _, _, _, _, _, _, _, rfl, yhk, yhl, yhm, yhn, yho, yhp⟩, ydp, ydq, yhq, yhr, yhs, xsup, xany, ygm, xtop⟩
 have yu : ∀ base : Heap, XF l.prog w K mg base "InvalidKind" yn ya5 Y8 ["self", "word"] "word" := fun base => ⟨yta, ydp, ydq, ydm, xini_ok ytb ⟨rfl, rfl, rfl, rfl, rfl, rfl, rfl, rfl, rfl, by decide +kernel, by decide, by decide⟩ Ykf, xini_hot ytb ⟨rfl, rfl, rfl, rfl, rfl, rfl, rfl, rfl, rfl, by decide +kernel, by decide, by decide⟩ Ykf, PySem.W.mg_of KX G ydm, .all fun us hl => match us, hl with | [_, _], _ => rfl, exm_self ydn ygn ydo ygo⟩
 have ypg : OexC K yi := ⟨⟨_, _, _, _, _, _, _, _, _, _, _, _, _, _, _, ye2, ye3⟩, ydg, yco, ycp, ye4⟩
 have yph : XIni l.prog K yi yar "InvalidReader.__init__" "word" (defArgs (inClass (topS 4) 0)) (defBody (inClass (topS 4) 0)) (defScope (inClass (topS 4) 0)) Y6 := ⟨ypg, ⟨_, _, _, _, _, _, _, _, _, _, _, _, _, _, _, _, _, _, _, rfl, yfa, yfb, yfc, yfd, yfe, yff⟩, ycq, ycr, yfg, yfh, yfi, xsup, xany, ydh, xtop⟩
 have yh : ∀ base : Heap, XF l.prog w K mg base "InvalidReader" yi yar Y6 ["self", "word"] "word" := fun base => ⟨ypg, ycq, ycr, ycn, xini_ok yph ⟨rfl, rfl, rfl, rfl, rfl, rfl, rfl, rfl, rfl, by decide +kernel, by decide, by decide⟩ Ykf, xini_hot yph ⟨rfl, rfl, rfl, rfl, rfl, rfl, rfl, rfl, rfl, by decide +kernel, by decide, by decide⟩ Ykf, PySem.W.mg_of KX G ycn, .all fun us hl => match us, hl with | [_, _], _ => rfl, exm_self yco ydi ycp ydj⟩
 have ytc : OexC K yj := ⟨⟨_, _, _, _, _, _, _, _, _, _, _, _, _, _, _, yht, yhu⟩, ygp, ydt, ydu, yhv⟩
 have ytd : XIni l.prog K yj yal "InvalidText.__init__" "at" (defArgs (inClass (topS 6) 0)) (defBody (inClass (topS 6) 0)) (defScope (inClass (topS 6) 0)) Y9 := ⟨ytc, ⟨_, _, _, _, _, _, _, _, _, _, _, _, _, _, _, _, _, _, _, rfl, yh1, yh2, yh3, yh4, yh5, yh6⟩, ydv, ydw, yh7, yh8, yh9, xsup, xany, ygq, xtop⟩
 have yf : ∀ base : Heap, XF l.prog w K mg base "InvalidText" yj yal Y9 ["self", "at"] "at" := fun base => ⟨ytc, ydv, ydw, yds, xini_ok ytd ⟨rfl, rfl, rfl, rfl, rfl, rfl, rfl, rfl, rfl, by decide +kernel, by decide, by decide⟩ Ykf, xini_hot ytd ⟨rfl, rfl, rfl, rfl, rfl, rfl, rfl, rfl, rfl, by decide +kernel, by decide, by decide⟩ Ykf, PySem.W.mg_of KX G yds, .all fun us hl => match us, hl with | [_, _], _ => rfl, exm_self ydt ygr ydu ygs⟩
 have yk6 := PySem.W.mg_of KX G w_MOST_LETTERS
 have yej := PySem.W.mg_of KX G w_MOST_DIGITS_designs
 have yem := PySem.W.mg_of KX G w_MOST_DIGITS_scripts
 have ymg := PySem.W.mg_of KX G w_LEAST_ROUND
 have ywk := PySem.W.mg_of KX G w_ENTRIES
 have yvz := PySem.W.mg_of KX G w_LETTERS
 have yy3 := PySem.W.mg_of KX G w_DIGITS
 have y02 := PySem.W.mg_of KX G w_NAMED
 have yji := PySem.W.mg_of KX G w_BESIDE
 have y26 := PySem.W.mg_of KX G w_KIND
 have y4t := PySem.W.mg_of KX G w_IF
 have yy5 := PySem.W.mg_of KX G w_READER
 have yy2 := PySem.W.mg_of KX G w_BARRED
 have yk7 := PySem.W.mg_of KX G w_WRITER_WORDS
 have yk8 := PySem.W.mg_of KX G w_READER_WORDS
 have ymn := PySem.W.mg_of KX G w_SURE_FAULTS
 have y3h := PySem.W.mg_of KX G w_FITS
 have ybf := PySem.W.mg_none_of KX G ylv
 have yc9 := PySem.W.mg_none_of KX G y2q
 have y2y := PySem.W.mg_none_of KX G y2r
 have ya0 := PySem.W.mg_none_of KX G y2s
 have ya := PySem.W.mg_none_of KX G yj9
 have yap := PySem.W.mg_none_of KX G y2t
 have yg := PySem.W.mg_none_of KX G y2u
 have ye := PySem.W.mg_none_of KX G yxt
 have y23 := PySem.W.mg_none_of KX G yzp
 have yjc := PySem.W.mg_none_of KX G y2v
 have ysz := PySem.W.mg_none_of KX G yzq
 have yb4 := PySem.W.mg_none_of KX G ytn
 have ybx := PySem.W.mg_none_of KX G yxu
 have yki := PySem.W.mg_none_of KX G yzr
 have ycu := PySem.W.mg_none_of KX G y2w
 have yxv := PySem.W.mg_none_of KX G y2x
 have yzm := PySem.W.mg_of KX G ykx.1
 have yzn := ykx.2.kp
 have y3o := ykx.2
 have ya1 := PySem.W.mg_of KX G yjs.1
 have ya2 := yjs.2.kp
 have y12 := yjs.2
 have yf6 := PySem.W.mg_of KX G yf0.1
 have yf7 := yf0.2.kp
 have yys := yf0.2
 have yty := PySem.W.mg_of KX G yic.1
 have ytz := yic.2.kp
 have y0t := yic.2
 have yin := PySem.W.mg_of KX G yid.1
 have yio := yid.2.kp
 have y0u := yid.2
 have yac := PySem.W.mg_of KX G ycx.1
 have yad := ycx.2.kp
 have yvb := ycx.2
 have yp3 := PySem.W.mg_of KX G yjt.1
 have yp4 := yjt.2.kp
 have y13 := yjt.2
 have yil := PySem.W.mg_of KX G yie.1
 have yim := yie.2.kp
 have y0v := yie.2
 have y25 : Mk K yo ad_Kind_init := ⟨yxp, yf1.1, yf1.2.1, yxq⟩
 have yyt := yf1.2.2
 have r_Kind : ClX.CRead K yo Yb8 := ⟨yxr, yxs⟩
 have ywb := PySem.W.mg_of KX G yju.1
 have ywc := yju.2.kp
 have y14 := yju.2
 have yp5 := PySem.W.mg_of KX G yjv.1
 have yp6 := yjv.2.kp
 have y15 := yjv.2
 have yp7 := PySem.W.mg_of KX G yjw.1
 have yp8 := yjw.2.kp
 have y16 := yjw.2
 have ytq := PySem.W.mg_of KX G yif.1
 have ytr := yif.2.kp
 have y0w := yif.2
 have yy4 : Mk K ym ad_Reader_init := ⟨ypx, at_Reader_init, fn_Reader_init, ypy⟩
 have dt_Reader_init : ∀ s, RwL K s (([.tup []] : List T).map W.t) [V.ref e_Reader_init] := fun s => ⟨V.ref e_Reader_init, [], rfl, by simp only [Rw, Rf]; exact ⟨e_Reader_init, [], rfl, .inr ⟨eo_Reader_init, #[], en_Reader_init, el_Reader_init, ec_Reader_init, ed_Reader_init, ea_Reader_init, by simp, .nil⟩, rfl⟩, rfl⟩
 have yvc : FunD K "__init__" "Reader.__init__" (defArgs yab) (defBody yab) (defScope yab) [V.ref e_Reader_init] [] ad_Reader_init Ya4 := ⟨⟨yky, ykz, (.ref yb1), ydy, ydz, yd0, yd2, yce, yd1, sl_Reader_init, rfl, yi6, yi7, .inr ⟨by simp, yb1, to_Reader_init, [.ref e_Reader_init], tn_Reader_init, rfl, t_Reader_init, u_Reader_init, .cons rfl .nil⟩, .inl rfl⟩, yi8⟩
 have r_Reader : ClX.CRead K ym Yb8 := ⟨ypz, yp0⟩
 have yqu := PySem.W.mg_of KX G yf2.1
 have yqv := yf2.2.kp
 have yyu := yf2.2
 have yen := PySem.W.mg_of KX G yd3.1
 have yeo := yd3.2.kp
 have yxa := yd3.2
 have yqr := PySem.W.mg_of KX G yf3.1
 have yqs := yf3.2.kp
 have yyv := yf3.2
 have ymk := PySem.W.mg_of KX G ycy.1
 have yml := ycy.2.kp
 have yvd := ycy.2
 have ybg := PySem.W.mg_of KX G yd4.1
 have ybh := yd4.2.kp
 have yxb := yd4.2
 have ytt := PySem.W.mg_of KX G yih.1
 have ytu := yih.2.kp
 have y0x := yih.2
 have yos := PySem.W.mg_of KX G yd5.1
 have yot := yd5.2.kp
 have yxc := yd5.2
 have yy6 : Mk K yb ad_Design_init := ⟨ypp, at_Design_init, fn_Design_init, ypq⟩
 have dt_Design_init : ∀ s, RwL K s (([.tup []] : List T).map W.t) [V.ref e_Design_init] := fun s => ⟨V.ref e_Design_init, [], rfl, by simp only [Rw, Rf]; exact ⟨e_Design_init, [], rfl, .inr ⟨eo_Design_init, #[], en_Design_init, el_Design_init, ec_Design_init, ed_Design_init, ea_Design_init, by simp, .nil⟩, rfl⟩, rfl⟩
 have yve : FunD K "__init__" "Design.__init__" (defArgs yak) (defBody yak) (defScope yak) [V.ref e_Design_init] [] ad_Design_init Ya5 := ⟨⟨yk0, yk1, (.ref yb2), yd6, yd7, yd8, yea, ycf, yd9, sl_Design_init, rfl, yi9, yja, .inr ⟨by simp, yb2, to_Design_init, [.ref e_Design_init], tn_Design_init, rfl, t_Design_init, u_Design_init, .cons rfl .nil⟩, .inl rfl⟩, yjb⟩
 have r_Design : ClX.CRead K yb Yb8 := ⟨ypr, yps⟩
 have yg3 := PySem.W.mg_of KX G yk2.1
 have yg4 := yk2.2.kp
 have y3p := yk2.2
 have yy8 := PySem.W.mg_of KX G yk3.1
 have yy9 := yk3.2.kp
 have y3q := yk3.2
 have yli := PySem.W.mg_of KX G ynm.1
 have ylj := ynm.2.kp
 have y37 := ynm.2
 have ybz := yeb.me
 have yte := yeb.2.2
 have yjo := yc8.me
 have yqf := yc8.2.2
 have yiv := PySem.W.mg_of KX G ybm.1
 have yiw := ybm.2.kp
 have ynb := ybm.2
 have ydd := ykb.me
 have y0y := ykb.2.2
 have yay := PySem.W.mg_of KX G yii.1
 have yaz := yii.2.kp
 have y0z := yii.2
 have ymq := PySem.W.mg_of KX G ycz.1
 have ymr := ycz.2.kp
 have yvf := ycz.2
 have yr := yb6.me
 have ync := yb6.2.2
 have yo3 := PySem.W.mg_of KX G yec.1
 have yo4 := yec.2.kp
 have yxd := yec.2
 have yc6 := ygw.me
 have yxe := ygw.2.2
 have ywg := PySem.W.mg_of KX G yjx.1
 have ywh := yjx.2.kp
 have y17 := yjx.2
 have yt3 := PySem.W.mg_of KX G yij.1
 have yt4 := yij.2.kp
 have y00 := yij.2
 have yq0 := PySem.W.mg_of KX G yf4.1
 have yq1 := yf4.2.kp
 have yyw := yf4.2
 have ybj := PySem.W.mg_of KX G yed.1
 have ybk := yed.2.kp
 have yxf := yed.2
 have ym8 := PySem.W.mg_of KX G yc0.1
 have ym9 := yc0.2.kp
 have yvg := yc0.2
 have y1g := PySem.W.mg_of KX G ynn.1
 have y1h := ynn.2.kp
 have y38 := ynn.2
 have yzc := PySem.W.mg_of KX G yk4.1
 have yzd := yk4.2.kp
 have y3r := yk4.2
 have ywo := PySem.W.mg_of KX G yjy.1
 have ywp := yjy.2.kp
 have y18 := yjy.2
 have yge := PySem.W.mg_of KX G yf5.1
 have ygf := yf5.2.kp
 have yyx := yf5.2
 have ycl := yfs.me
 have yvh := yfs.2.2
 have yo6 := PySem.W.mg_of KX G yee.1
 have yo7 := yee.2.kp
 have yxg := yee.2
 have ykk := PySem.W.mg_of KX G yef.1
 have ykl := yef.2.kp
 have yxh := yef.2
 have yiq := PySem.W.mg_of KX G yci.1
 have yir := yci.2.kp
 have ytf := yci.2
 have ypb := PySem.W.mg_of KX G yeg.1
 have ypc := yeg.2.kp
 have yxi := yeg.2
 have ykn := PySem.W.mg_of KX G ybw.1
 have yko := ybw.2.kp
 have yqg := ybw.2
 have ype := PySem.W.mg_of KX G yeh.1
 have ypf := yeh.2.kp
 have yxj := yeh.2
 have ywy := PySem.W.mg_of KX G yjz.1
 have ywz := yjz.2.kp
 have y19 := yjz.2
 have yw1 := PySem.W.mg_of KX G yj0.1
 have yw2 := yj0.2.kp
 have y2a := yj0.2
 have ymy := PySem.W.mg_of KX G yc1.1
 have ymz := yc1.2.kp
 have yvi := yc1.2
 have ym5 := PySem.W.mg_of KX G yc2.1
 have ym6 := yc2.2.kp
 have yvj := yc2.2
 have yuc := PySem.W.mg_of KX G yik.1
 have yud := yik.2.kp
 have y01 := yik.2
 have yzh := PySem.W.mg_of KX G yk5.1
 have yzi := yk5.2.kp
 have y3s := yk5.2
 have yan : mg "certifies" = some (.ref ad_certifies) := PySem.W.mg_of KX G ylw
 have yyy : FunD K "certifies" "certifies" (defArgs yai) (defBody yai) (defScope yai) [V.non] [] ad_certifies Ybb := ⟨⟨yok, yol, (.ref yda), ygx, ygy, ygz, yg1, yei, yg0, sl_certifies, rfl, ylx, yly, .inr ⟨by simp, yda, to_certifies, [.none], tn_certifies, rfl, t_certifies, u_certifies, .cons rfl .nil⟩, .inl rfl⟩, y6⟩
 have y4y := yz1.2
 have yel := yys.bindsN (ps := ["word", "digits"]) fun _ _ _ _ _ _ us hl => match us, hl with | [_, _], _ => rfl
 have yav := y12.bindsN (ps := ["value"]) fun _ _ _ _ _ _ us hl => match us, hl with | [_], _ => rfl
 have yne := y13.bindsN (ps := ["value", "words"]) fun _ _ _ _ _ _ us hl => match us, hl with | [_, _], _ => rfl
 have y9 := yvb.bindsN (ps := ["value"]) fun _ _ _ _ _ _ us hl => match us, hl with | [_], _ => rfl
 have yf9 := y0v.bindsN (ps := ["value", "words"]) fun _ _ _ _ _ _ us hl => match us, hl with | [_, _], _ => rfl
 have ygc := y0u.bindsN (ps := ["text", "word"]) fun _ _ _ _ _ _ us hl => match us, hl with | [_, _], _ => rfl
 have yon := yyt.bindsN (ps := ["self", "name", "steps"]) fun _ _ _ _ _ _ us hl => match us, hl with | [_, _, _], _ => rfl
 have yqk := yiz.bindsN (ps := ["cls", "text"]) fun _ _ _ _ _ _ us hl => match us, hl with | [_, _], _ => rfl
 have yng := y15.bindsN (ps := ["word", "deeds"]) fun _ _ _ _ _ _ us hl => match us, hl with | [_, _], _ => rfl
 have yni := y16.bindsN (ps := ["value", "deeds"]) fun _ _ _ _ _ _ us hl => match us, hl with | [_, _], _ => rfl
 have yqm := y0w.bindsN (ps := ["value", "deeds"]) fun _ _ _ _ _ _ us hl => match us, hl with | [_, _], _ => rfl
 have yla : Binds K Ya4 ["self", "name", "steps", "checks"] [] := by
  obtain ⟨ds, r, b⟩ := yvc.binds1 (ps := ["self", "name", "steps", "checks"]) 4 1 Yaw Yaw fun T kV doc pm an cdv ct us its hu hi => match us, hu, its, hi with | [_, _, _, _], _, [_], _ => ⟨_, rfl, rfl⟩
  cases r
  exact b
 have yme := yfq.bindsN (ps := ["cls", "text"]) fun _ _ _ _ _ _ us hl => match us, hl with | [_, _], _ => rfl
 have yc4 := yxa.bindsN (ps := ["names"]) fun _ _ _ _ _ _ us hl => match us, hl with | [_], _ => rfl
 have ybb := yxb.bindsN (ps := ["value"]) fun _ _ _ _ _ _ us hl => match us, hl with | [_], _ => rfl
 have yqp := y0x.bindsN (ps := ["value"]) fun _ _ _ _ _ _ us hl => match us, hl with | [_], _ => rfl
 have ymi := yxc.bindsN (ps := ["value"]) fun _ _ _ _ _ _ us hl => match us, hl with | [_], _ => rfl
 have yle := yvd.bindsN (ps := ["value"]) fun _ _ _ _ _ _ us hl => match us, hl with | [_], _ => rfl
 have yov := yyv.bindsN (ps := ["value"]) fun _ _ _ _ _ _ us hl => match us, hl with | [_], _ => rfl
 have yox := yyu.bindsN (ps := ["line"]) fun _ _ _ _ _ _ us hl => match us, hl with | [_], _ => rfl
 have ytw := y14.bindsN (ps := ["line"]) fun _ _ _ _ _ _ us hl => match us, hl with | [_], _ => rfl
 have yqx := y0t.bindsN (ps := ["line"]) fun _ _ _ _ _ _ us hl => match us, hl with | [_], _ => rfl
 have ylg : Binds K Ya5 ["self", "kinds", "readers", "rounds"] [] := by
  obtain ⟨ds, r, b⟩ := yve.binds1 (ps := ["self", "kinds", "readers", "rounds"]) 4 1 Yaw Yaw fun T kV doc pm an cdv ct us its hu hi => match us, hu, its, hi with | [_, _, _, _], _, [_], _ => ⟨_, rfl, rfl⟩
  cases r
  exact b
 have yex := y3p.bindsN (ps := ["_law_deal_here", "_law_wide"]) fun _ _ _ _ _ _ us hl => match us, hl with | [_, _], _ => rfl
 have ywe := y3q.bindsN (ps := ["_law_deal_here", "_law_some"]) fun _ _ _ _ _ _ us hl => match us, hl with | [_, _], _ => rfl
 have yjk := y37.bindsN (ps := ["_law_deal_here", "_law_deep"]) fun _ _ _ _ _ _ us hl => match us, hl with | [_, _], _ => rfl
 have ybo := yfr.bindsN (ps := ["cls", "text"]) fun _ _ _ _ _ _ us hl => match us, hl with | [_, _], _ => rfl
 have yb0 := yte.bindsN (ps := ["self", "some", "name"]) fun _ _ _ _ _ _ us hl => match us, hl with | [_, _, _], _ => rfl
 have yat := y0z.bindsN (ps := ["value", "size"]) fun _ _ _ _ _ _ us hl => match us, hl with | [_, _], _ => rfl
 have yfl := y0y.bindsN (ps := ["self"]) fun _ _ _ _ _ _ us hl => match us, hl with | [_], _ => rfl
 have y5 := yb5.bindsN (ps := ["self"]) fun _ _ _ _ _ _ us hl => match us, hl with | [_], _ => rfl
 have yt := ync.bindsN (ps := ["self", "counter"]) fun _ _ _ _ _ _ us hl => match us, hl with | [_, _], _ => rfl
 have yt1 := y17.bindsN (ps := ["value", "size"]) fun _ _ _ _ _ _ us hl => match us, hl with | [_, _], _ => rfl
 have ybd := yxf.bindsN (ps := ["reader", "at"]) fun _ _ _ _ _ _ us hl => match us, hl with | [_, _], _ => rfl
 have yo1 := yyw.bindsN (ps := ["value", "parts"]) fun _ _ _ _ _ _ us hl => match us, hl with | [_, _], _ => rfl
 have yq3 := y00.bindsN (ps := ["design", "reader", "at", "value"]) fun _ _ _ _ _ _ us hl => match us, hl with | [_, _, _, _], _ => rfl
 have yll := yvf.bindsN (ps := ["design", "kind", "done"]) fun _ _ _ _ _ _ us hl => match us, hl with | [_, _, _], _ => rfl
 have ymt := yxd.bindsN (ps := ["design", "value"]) fun _ _ _ _ _ _ us hl => match us, hl with | [_, _], _ => rfl
 have yet := yxe.bindsN (ps := ["self"]) fun _ _ _ _ _ _ us hl => match us, hl with | [_], _ => rfl
 have yt6 := y18.bindsN (ps := ["design", "reader", "seen", "counter"]) fun _ _ _ _ _ _ us hl => match us, hl with | [_, _, _, _], _ => rfl
 have ywr := y3r.bindsN (ps := ["design", "counts", "counter"]) fun _ _ _ _ _ _ us hl => match us, hl with | [_, _, _], _ => rfl
 have yev := yyx.bindsN (ps := ["design", "reader", "standing", "kind"]) fun _ _ _ _ _ _ us hl => match us, hl with | [_, _, _, _], _ => rfl
 have ymv := yxg.bindsN (ps := ["reader", "at"]) fun _ _ _ _ _ _ us hl => match us, hl with | [_, _], _ => rfl
 have yc7 := yft.bindsN (ps := ["self"]) fun _ _ _ _ _ _ us hl => match us, hl with | [_], _ => rfl
 have yje := yxh.bindsN (ps := ["design", "reader", "standing", "kind", "most"]) fun _ _ _ _ _ _ us hl => match us, hl with | [_, _, _, _, _], _ => rfl
 have ycm := yvh.bindsN (ps := ["self", "name"]) fun _ _ _ _ _ _ us hl => match us, hl with | [_, _], _ => rfl
 have yjm := yqg.bindsN (ps := ["kind", "done"]) fun _ _ _ _ _ _ us hl => match us, hl with | [_, _], _ => rfl
 have yt8 := y19.bindsN (ps := ["thing"]) fun _ _ _ _ _ _ us hl => match us, hl with | [_], _ => rfl
 have yua := y2a.bindsN (ps := ["reader", "known", "test"]) fun _ _ _ _ _ _ us hl => match us, hl with | [_, _, _], _ => rfl
 have yln := yvi.bindsN (ps := ["reader", "seen"]) fun _ _ _ _ _ _ us hl => match us, hl with | [_, _], _ => rfl
 have ym1 := yxi.bindsN (ps := ["design", "standing", "counter"]) fun _ _ _ _ _ _ us hl => match us, hl with | [_, _, _], _ => rfl
 have ym3 := yxj.bindsN (ps := ["design", "reader", "standing", "part"]) fun _ _ _ _ _ _ us hl => match us, hl with | [_, _, _, _], _ => rfl
 have yq5 := y01.bindsN (ps := ["finished"]) fun _ _ _ _ _ _ us hl => match us, hl with | [_], _ => rfl
 have ylp := yvj.bindsN (ps := ["design", "reader", "standing"]) fun _ _ _ _ _ _ us hl => match us, hl with | [_, _, _], _ => rfl
 have ygu := ytf.bindsN (ps := ["design", "reader", "standing", "most"]) fun _ _ _ _ _ _ us hl => match us, hl with | [_, _, _, _], _ => rfl
 have yw7 := y3s.bindsN (ps := ["design", "reader", "standing", "most"]) fun _ _ _ _ _ _ us hl => match us, hl with | [_, _, _, _], _ => rfl
 have yzk := y38.bindsN (ps := ["design"]) fun _ _ _ _ _ _ us hl => match us, hl with | [_], _ => rfl
 have yls := yvg.bindsN (ps := ["design", "reader", "value", "most"]) fun _ _ _ _ _ _ us hl => match us, hl with | [_, _, _, _], _ => rfl
 have yg9 := ynb.bindsN (ps := ["fault"]) fun _ _ _ _ _ _ us hl => match us, hl with | [_], _ => rfl
 have yjp := yqf.bindsN (ps := ["self", "name"]) fun _ _ _ _ _ _ us hl => match us, hl with | [_, _], _ => rfl
 have yah : Binds K Ybb ["design", "name", "fault", "value", "most"] [.none] := by
  obtain ⟨ds, r, b⟩ := yyy.binds1 (ps := ["design", "name", "fault", "value", "most"]) 4 0 Yaw Yaw fun T kV doc pm an cdv ct us its hu hi => match us, hu, its, hi with | [_, _, _, _], _, [_], _ => ⟨_, rfl, rfl⟩
  cases r with
  | cons a z =>
   cases z
   cases (show _ = Value.none from a)
   exact b
 have yw9 := y3o.bindsN (ps := ["_law_script", "_law_base"]) fun _ _ _ _ _ _ us hl => match us, hl with | [_, _], _ => rfl
 have yw8 := fun base : Heap => y39 (P := l.prog) (w := w) (mg := mg) (base := base) y3o ybf yc9 y2y
 have yau := fun base : Heap => y3t (P := l.prog) (w := w) (mg := mg) (base := base) y12 ya0 ya yap yg yk6 yvz hT yy2 lk_BARRED yjq yjr oa_BARRED or_BARRED oz_BARRED
 have yek := fun base : Heap => y2b (P := l.prog) (w := w) (mg := mg) (base := base) yys yc9 yg ya0 yy3
 have yqw := fun base : Heap => y21 (P := l.prog) (w := w) (mg := mg) (base := base) y0t yg yej (yek base) yf6 yf7 yel (yau base) ya1 ya2 yav
 have ygb := fun base : Heap => y22 (P := l.prog) (w := w) (mg := mg) (base := base) y0u yg y02
 have y8 := fun base : Heap => yz3 (P := l.prog) (w := w) (mg := mg) (base := base) yvb ya ye y23 hT
 have ynd := fun base : Heap => y3u (P := l.prog) (w := w) (mg := mg) (base := base) y13 yg ya yap (yau base) ya1 ya2 yav hT
 have yf8 := fun base : Heap => y24 (P := l.prog) (w := w) (mg := mg) (base := base) y0v yg yjc ye (ynd base) yp3 yp4 yne (y8 base) yac yad y9
 have yom := fun base : Heap => y2d (P := l.prog) (w := w) (mg := mg) (base := base) yyt ye yg (yf8 base) yil yim yf9 (yau base) ya1 ya2 yav yd yga yx (yu base) yk7 lk_WRITER_WORDS ybs ybt oa_WRITER_WORDS or_WRITER_WORDS oz_WRITER_WORDS
 have yoo := fun base : Heap => y2e (P := l.prog) (w := w) (mg := mg) (base := base) yiz (ygb base) yin yio ygc yaq (yom base) (yu base) yji y25 (yf base) y26 yon
 have ytv := fun base : Heap => y3x (P := l.prog) (w := w) (mg := mg) (base := base) y14 yaq (yoo base) (yf base) r_Kind cm_Kind_read yqk
 have ynf := fun base : Heap => y3y (P := l.prog) (w := w) (mg := mg) (base := base) y15 yg yem (yek base) yf6 yf7 yel
 have ynh := fun base : Heap => y3z (P := l.prog) (w := w) (mg := mg) (base := base) y16 yg ya yap (ynf base) yp5 yp6 yng hT
 have yql := fun base : Heap => y27 (P := l.prog) (w := w) (mg := mg) (base := base) y0w yg yjc ye (ynh base) yp7 yp8 yni (y8 base) yac yad y9
 have yk9 := fun base : Heap => yz8 (P := l.prog) (w := w) (mg := mg) (base := base) yvc ye (yql base) ytq ytr yqm (yf8 base) yil yim yf9 (yau base) ya1 ya2 yav ygd yd yop yga yx (yh base) yk8 lk_READER_WORDS ybu ybv oa_READER_WORDS or_READER_WORDS oz_READER_WORDS
 have ylb := fun base : Heap => y0a (P := l.prog) (w := w) (mg := mg) (base := base) yfq (ygb base) yin yio ygc yax (yk9 base) (yh base) yji yy4 (yf base) y4t yy5 yla
 have yow := fun base : Heap => y2g (P := l.prog) (w := w) (mg := mg) (base := base) yyu yax (ylb base) (yf base) r_Reader cm_Reader_read yme
 have yc3 := fun base : Heap => y03 (P := l.prog) (w := w) (mg := mg) (base := base) yxa yg yjc
 have you := fun base : Heap => y2h (P := l.prog) (w := w) (mg := mg) (base := base) yyv ya0 ya (yc3 base) yen yeo yc4 (y8 base) yac yad y9 yaq yx hT
 have ylc := fun base : Heap => y0b (P := l.prog) (w := w) (mg := mg) (base := base) yvd ya0 ya (yc3 base) yen yeo yc4 (y8 base) yac yad y9 yax yx hT
 have yba := fun base : Heap => y04 (P := l.prog) (w := w) (mg := mg) (base := base) yxb ya ysz yc9 hT
 have yqo := fun base : Heap => y3a (P := l.prog) (w := w) (mg := mg) (base := base) y0x ya ye yg ymg (yba base) ybg ybh ybb (yau base) ya1 ya2 yav hT
 have ymh := fun base : Heap => y05 (P := l.prog) (w := w) (mg := mg) (base := base) yxc yg yjc ya0 (y8 base) yac yad y9 (yqo base) ytt ytu yqp
 have ylf := fun base : Heap => y0d (P := l.prog) (w := w) (mg := mg) (base := base) yve ye yb4 (ymh base) yos yot ymi (ylc base) ymk yml yle (you base) yqr yqs yov yep ya6 yaa
 have ybe := fun base : Heap => y0e (P := l.prog) (w := w) (mg := mg) (base := base) yfr ybf yg ybx (yow base) yqu yqv yox (ytv base) ywb ywc ytw (yqw base) yty ytz yqx yc (ylf base) yy6 ylg
 have yew := fun base : Heap => y4d (P := l.prog) (w := w) (mg := mg) (base := base) y3p yc9
 have ywd := fun base : Heap => y4e (P := l.prog) (w := w) (mg := mg) (base := base) y3q yg (yew base) yg3 yg4 yex
 have yg5 := fun base : Heap => fnG_rec (P := l.prog) (w := w) (mg := mg) (base := base) (S := S_w_any) (L := 13) (m := 2) (ps := ["_law_deal_here", "_law_deep"]) (fun _ => fnM_len) (fun G r hG yg5 => y4o y37 hG ye ybx (ywd base) yy8 yy9 ywe (yew base) yg3 yg4 yex yg5 yli ylj yjk yc (ybe base) r_Design cm_Design_read ybo) rfl 12
 have yby := fun base : Heap => yza (P := l.prog) (w := w) (mg := mg) (base := base) yte ya yap hT yx
 have yjn := fun base : Heap => yxw (P := l.prog) (w := w) (mg := mg) (base := base) yqf yc (yby base) ybz ya6 yb0
 have yg8 := fun base : Heap => yvk (P := l.prog) (w := w) (mg := mg) (base := base) ynb ya yap hT ymn lk_SURE_FAULTS ycc ycd oa_SURE_FAULTS or_SURE_FAULTS oz_SURE_FAULTS
 have ydc := fun base : Heap => y3d (P := l.prog) (w := w) (mg := mg) (base := base) y0y yg yd
 have yas := fun base : Heap => y3e (P := l.prog) (w := w) (mg := mg) (base := base) y0z (yba base) ybg ybh ybb
 have ylk := fun base : Heap => y0h (P := l.prog) (w := w) (mg := mg) (base := base) yvf yg ya yap (yas base) yay yaz yat (yba base) ybg ybh ybb yaq (ydc base) yaa yx ydd hT yfl
 have yz := fun base : Heap => yvl (P := l.prog) (w := w) (mg := mg) (base := base) yb5 ye yb4 yap ya6 yaa yd
 have yq := fun base : Heap => yvm (P := l.prog) (w := w) (mg := mg) (base := base) ync yki yep
 have yms := fun base : Heap => y08 (P := l.prog) (w := w) (mg := mg) (base := base) yxd ya0 ycu ya ye yg (yas base) yay yaz yat yc (yz base) (yq base) yp yr hT y5 yt
 have yc5 := fun base : Heap => y09 (P := l.prog) (w := w) (mg := mg) (base := base) yxe yg yd
 have yt0 := fun base : Heap => y31 (P := l.prog) (w := w) (mg := mg) (base := base) y17 ya ysz ye yg (yas base) yay yaz yat hT
 have yq2 := fun base : Heap => y3g (P := l.prog) (w := w) (mg := mg) (base := base) y00 ya0 ycu ya ye yg (yt0 base) ywg ywh yt1 yc (yq base) yr hT yd yt
 have yo0 := fun base : Heap => y2j (P := l.prog) (w := w) (mg := mg) (base := base) yyw ya0 ycu ya ye yap hT
 have ybc := fun base : Heap => y1a (P := l.prog) (w := w) (mg := mg) (base := base) yxf yd
 have ylr := fun base : Heap => y0j (P := l.prog) (w := w) (mg := mg) (base := base) yvg ya yap yg ye ywk (yas base) yay yaz yat (ybc base) ybj ybk ybd (yo0 base) yq0 yq1 yo1 (yq2 base) yt3 yt4 yq3 (ylk base) ymq ymr yll (yms base) yo3 yo4 ymt yax (yc5 base) hT y3h lk_FITS ynk ynl oa_FITS or_FITS oz_FITS yc6 yet
 have yzj := fun base : Heap => y4q (P := l.prog) (w := w) (mg := mg) (base := base) y38 ye yc (yz base) yp y5
 have ywq := fun base : Heap => y4h (P := l.prog) (w := w) (mg := mg) (base := base) y3r ye ycu yc (yz base) (yq base) yp yr y5 yt
 have yt5 := fun base : Heap => y32 (P := l.prog) (w := w) (mg := mg) (base := base) y18 yg yc (yq base) yr yd yt
 have yeu := fun base : Heap => y2l (P := l.prog) (w := w) (mg := mg) (base := base) yyx yg ye yb4 yap (yt5 base) ywo ywp yt6 (ywq base) yzc yzd ywr (ybc base) ybj ybk ybd yaq (ydc base) yx ydd yd yfl
 have yck := fun base : Heap => y0m (P := l.prog) (w := w) (mg := mg) (base := base) yvh yc (yby base) ybz yaa yb0
 have ycj := fun base : Heap => y0n (P := l.prog) (w := w) (mg := mg) (base := base) yft ye yd
 have ymu := fun base : Heap => y1b (P := l.prog) (w := w) (mg := mg) (base := base) yxg yd
 have yjd := fun base : Heap => y1c (P := l.prog) (w := w) (mg := mg) (base := base) yxh yxv (yeu base) yge ygf yev (ymu base) yo6 yo7 ymv yaq (ycj base) ya9 yc7
 have ygt := fun base : Heap => yze (P := l.prog) (w := w) (mg := mg) (base := base) ytf (yjd base) ykk ykl yje (yeu base) yge ygf yev yc (yck base) yaa yx ycl ycm
 have ym0 := fun base : Heap => y1d (P := l.prog) (w := w) (mg := mg) (base := base) yxi yki ycu yc (yq base) (yz base) yr yp yt y5
 have yjl := fun base : Heap => yxz (P := l.prog) (w := w) (mg := mg) (base := base) yqg yd
 have ym2 := fun base : Heap => y1e (P := l.prog) (w := w) (mg := mg) (base := base) yxj ye yb4 yap (ybc base) ybj ybk ybd (yjl base) ykn yko yjm yaq yc (ycj base) (yck base) ya9 ycl yc7 ycm
 have yt7 := fun base : Heap => y33 (P := l.prog) (w := w) (mg := mg) (base := base) y19 ya ye hT
 have yt9 := fun base : Heap => y34 (P := l.prog) (w := w) (mg := mg) (base := base) y2a yxv ybx ya ye yd hT
 have ylm := fun base : Heap => y0q (P := l.prog) (w := w) (mg := mg) (base := base) yvi yki ycu ybf (yt7 base) ywy ywz yt8 (yt9 base) yw1 yw2 yua ygd yd
 have ylo := fun base : Heap => y0r (P := l.prog) (w := w) (mg := mg) (base := base) yvj yg (ylm base) ymy ymz yln (ym0 base) ypb ypc ym1 (ym2 base) ype ypf ym3 yax (yc5 base) yc6 yd yet
 have yq4 := fun base : Heap => y3l (P := l.prog) (w := w) (mg := mg) (base := base) y01
 have yw6 := fun base : Heap => y4j (P := l.prog) (w := w) (mg := mg) (base := base) y3s (yq4 base) yuc yud yq5 (ylo base) ym5 ym6 ylp (ygt base) yiq yir ygu
 have yag := fun base : Heap => y2o (P := l.prog) (w := w) (mg := mg) (base := base) yyy ya ye ya0 (yw6 base) yzh yzi yw7 (yzj base) y1g y1h yzk (ylr base) ym8 ym9 yls (yg8 base) yiv yiw yg9 yc (yjn base) hT yjo yjp
 exact ⟨_, fun s v => y4y.bindsA (ps := ["_law_script"]) (fun _ _ _ _ _ _ us hl => match us, hl with | [_], _ => rfl) s [v] rfl, fun base _ _ => y4z y4y ye ybx (yag base) yan y6 yah (yg5 base) yli ylj yjk (yw8 base) yzm yzn yw9 yc (ybe base) r_Design cm_Design_read ybo⟩
end D
theorem PySem.Challenge.cw_untorn_k37_any_values_as_certificates_holds : PySem.Challenge.rw_untorn_k37_any_values_as_certificates.Holds :=
 D.early D.all_mk fun h => D.law_is h
