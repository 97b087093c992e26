import PyProof.Rows.All
import PySem.Challenge.RW_untorn_k09_designs_refused
import KE.OsRunLaw
import HandS.Head0
import HandS.Head1
import HandS.Head2
import KE.KDictKeyed
import Wide.All
import OpenK.AllK
import Wide.FinOn
import HandS.ForMost
import HandS.Zip
import HandS.Style
import HandS.Lambda
import HandS.Star
import KE.DataEq
import KE.GoesEnum
import KE.GoesMore
import HandS.WordsExc
import HandS.Defaults
import HandS.Conv
import HandS.Wide
import HandS.TupAny
import HandS.RaiseMore
import HandS.Strs
import KE.KIndexOf
import HandS.SortInts
import HandS.Dict
import HandS.TryOnly
import HandS.List
import PyProof.ReprRoads
import HandS.Sort
import HandS.WideMore
import KE.SortKeyHeap
import HandS.SortKw
import PyProof.TupleOfSeq
import HandS.DictEq
import KE.KDictPairs
import KE.KDictZip
import PyProof.StrLawsRepr
import HandS.Property
import HandS.ClsMeth
import HandS.ExcInit
import HandS.ExcInitHot
import KE.KExcSuper
import HandS.CallSlots
import HandS.ExcCtx
import HandS.CallLocal
import HandS.SuiteRaise
import HandS.RaiseFrom
import HandS.ExcField
import HandS.ExcIs
import HandS.IsInst
import HandS.Text
import HandS.FStr
import PyProof.Rows.SetFrom
import HandS.SetKeys
import HandS.DictComp
import PyProof.InstSpecial
import HandS.TupSets
import HandS.TupMul
import HandS.Codes
import KE.SortData
import HandS.SetFor
import HandS.SetBool
import HandS.More
import HandS.SetTxt0
import PyProof.Rows.SortShellAny
import KE.KDictDisplayH
import PyProof.DictTable
import KE.KCallOwn
import HandS.ListItems
import HandS.OwnEq
import PyProof.InstNe
import KE.LtData
import KE.KDictSum
import KE.KDictCopyH
import HandS.TryMany
import KE.KExcIs
import KE.DatumOrd
import HandS.EndTab
set_option Elab.async false
set_option linter.all false
set_option maxRecDepth 100000
set_option maxHeartbeats 4000000
set_option autoImplicit false
set_option hygiene false
local macro_rules | `($x:ident) => do
 let .str .anonymous s := x.getId | Lean.Macro.throwUnsupported
 if s.front != 'Y' then Lean.Macro.throwUnsupported
 match s with
 | "Ya" => `((fun cdv s H hr => by have hN := yy.nd; have hu := hr.units; exact ⟨_, .cons (S := zak) ⟨rfl, by decide, .inl ya.mg⟩ ya.hit (fun a oe cls d pn hz hf => xss_set 1 (by decide) hN (xe_if ((xw_and (zcq (xe_isi (t := .cls "RecordError") ya.cn yf hz hf rfl (zbp yn yp) (zbj yn yat) yc)) (xw_and1 (xt_not (zcq (xe_isiT ya.cn yf hz hf (kx_f (zbp yk yo) (kx_f (zbp yh ym) (kx_nil))) (zaz (zaa (zbj yk yas) (zaa (zbj yh yae) (zad)))) yc))))).t) (xe_fld ya.cn yf y1 hz hf) (xe_of (zag))) (xss_nil)) .nil⟩))
 | "Yb" => `((hr.mono (by decide)))
 | "Yc" => `((.Call (.Attribute (.Call (.Name "super" p0) [] [] p1) "__init__" p2) [.Constant (.str txt) j p3] [] p4))
 | "Yd" => `((by simp [Rw, Rf]))
 | "Ye" => `((Aft.refl s))
 | "Yf" => `((L2.CX P w))
 | "Yg" => `(("InvalidDesign", hitC "InvalidDesign", zak))
 | "Yh" => `((fun s => rfl))
 | "Yi" => `((by simp_all_arith!))
 | "Yj" => `((mC (.int 0)))
 | "Yk" => `((zab (mC (.int 2)) (mNil)))
 | "Yl" => `((("law" ++ ".<locals>.") ++ "<lambda>"))
 | "Ym" => `((by omega))
 | "Yn" => `((zaz (zaa (zag) (zaa (zae) (zad)))))
 | "Yo" => `((zab (mVar 1) (mNil)))
 | "Yp" => `((PySem.W.ksFn "__init__" "InvalidDesign.__init__" (defArgs (inClass (topS 5) 0)) (defBody (inClass (topS 5) 0)) (defScope (inClass (topS 5) 0)) .none ydt ydu ydv ydx (.ref ya6) ydw ybz))
 | "Yq" => `((PySem.W.ksFn "__init__" "InvalidReader.__init__" (defArgs (inClass (topS 4) 0)) (defBody (inClass (topS 4) 0)) (defScope (inClass (topS 4) 0)) .none yea yeb yec yee (.ref ya8) yed yb3))
 | "Yr" => `((PySem.W.ksFn "__init__" "InvalidKind.__init__" (defArgs (inClass (topS 3) 0)) (defBody (inClass (topS 3) 0)) (defScope (inClass (topS 3) 0)) .none yfl yfm yfn yfp (.ref ybq) yfo yc3))
 | "Ys" => `((fun σ => L2.passAt (L2.takes_of rfl rfl rfl rfl) σ))
 | "Yt" => `((zab (mC (.str "c")) (zab (mBin wAdd (mC (.int 2)) (zas zba [] (zab (mVar 4) (zab (mC (.int 7)) (mNil))))) (mNil))))
 | "Yu" => `((seqObj "list" vs.toArray 0))
 | "Yv" => `((ts.map W.t))
 | "Yw" => `((if ltCps x.cps.toList y.cps.toList = true then [u, v] else [v, u]))
 | "Yx" => `((model X.prog X.w))
 | _ => Lean.Macro.throwUnsupported
local macro_rules | `($x:ident) => do
 let .str .anonymous s := x.getId | Lean.Macro.throwUnsupported
 if s.front != 'Y' then Lean.Macro.throwUnsupported
 match s with
 | "Yy" => `((LamX.lamS_by (sc := defScope yh0) (by decide +kernel)))
 | "Yz" => `((getMethod ov "__init__" (do return (← importBound (.Call (.Name "super" p0) [] [] p1) env).getD true)))
 | "Y0" => `((fun _ _ _ _ _ => zbi))
 | "Y1" => `((some (.lst (([] : List Int).map wI))))
 | "Y2" => `((NestedKey × Addr × V))
 | "Y3" => `((zaa (zac 1) (zad)))
 | "Y4" => `((zab (mVar 2) (mNil)))
 | "Y5" => `((X.suite a ((a, oe) :: pn)))
 | "Y6" => `((hp.set j (some (.lst (ys.map wI)))))
 | "Y7" => `((.builtin "object.__class__"))
 | "Y8" => `((mRet (mC (.bl false))))
 | "Y9" => `((defScope st))
 | "Yaa" => `((mC (.int 1)))
 | "Yab" => `((zab (zcx (zbw "Reader" zbl [.tup []] (zab (mC (.str "r")) (zab (mApp zap (zab (mC (.str "read a")) (mNil))) (mNil))))) (zab (zcx (zbw "Reader" zbl [.tup []] (zab (mC (.str "w")) (zab (mApp zap (zab (mC (.str "read b")) (mNil))) (mNil))))) (mNil))))
 | "Yac" => `((some (.lst [.r j, .t (.int ((st * 48271 + 43) % 2147483647))])))
 | "Yad" => `((.t (.lst ts)))
 | "Yae" => `((e :: es))
 | "Yaf" => `((fun s => by simp [Rw, Rf]))
 | "Yag" => `((mC (.str "c")))
 | "Yah" => `((PySem.W.kla_obj "<lambda>" (X.env.qual ++ "<lambda>") params body scope (cloFrom X.env.cells scope.names []) pm c' ctv))
 | "Yai" => `((.scr (ns.map T.int)))
 | "Yaj" => `((PySem.W.fnOf "__init__" "Reader.__init__" (defArgs y2) (defBody y2) (defScope y2) (.ref ybi) yc4 yc5 yc6 yc8 ybt yc7))
 | "Yak" => `((PySem.W.fnOf "__init__" "Design.__init__" (defArgs y6) (defBody y6) (defScope y6) (.ref ybj) ydc ydd yde ydg ybu ydf))
 | "Yal" => `((zab (zcx (zbw "Kind" zb7 [] (zab (mC (.str "w")) (zab (mApp zap (zab (mC (.str "write a")) (mNil))) (mNil))))) (zab (zcx (zbw "Kind" zb7 [] (zab (mC (.str "add")) (zab (mApp zap (zab (mC (.str "bump c")) (mNil))) (mNil))))) (mNil))))
 | _ => Lean.Macro.throwUnsupported
local macro_rules | `($x:ident) => do
 let .str .anonymous s := x.getId | Lean.Macro.throwUnsupported
 if s.front != 'Y' then Lean.Macro.throwUnsupported
 match s with
 | "Yam" => `((PySem.W.fnOf x q (defArgs s) (defBody s) (defScope s) .none kV dc pm an cd ct))
 | "Yan" => `((zbg call_len zcd (zaa (zac 0) (zad)) yq))
 | "Yao" => `((X.blk s H scope (compEnvC scope cl C X.env) fp))
 | "Yap" => `((zaa (zag) (zad)))
 | "Yaq" => `((by with_unfolding_all rfl))
 | "Yar" => `((zab (mVar 0) (mNil)))
 | "Yas" => `((.t (.int i)))
 | "Yat" => `((mC .non))
 | "Yau" => `((.ref ye))
 | "Yav" => `((hK P w k))
 | "Yaw" => `((.t (.tup ts)))
 | "Yax" => `((zab (mVar 3) (mNil)))
 | "Yay" => `((hp.set j (some (.lst (g2.map wI)))))
 | "Yaz" => `((.t (.int wide)))
 | "Ya0" => `((zai (zar (ie_bl))))
 | "Ya1" => `((s.heap.objs.size + 1))
 | "Ya2" => `((Value × (Addr → Value → Option Addr → TS)))
 | "Ya3" => `((.ref yj))
 | "Ya4" => `((.Call (.Name "len" p) [.Call (.Name "set" p2) [a] [] q] [] pos))
 | "Ya5" => `((zcz zbh ok_tup (zaa (zac 2) (zad)) y0))
 | "Ya6" => `((Option Value))
 | "Ya7" => `((zaj (zac 0) (zae)))
 | "Ya8" => `((NestedKey × Addr × Value))
 | "Ya9" => `((some (.builtin "object.__setattr__")))
 | _ => Lean.Macro.throwUnsupported
local macro_rules | `($x:ident) => do
 let .str .anonymous s := x.getId | Lean.Macro.throwUnsupported
 if s.front != 'Y' then Lean.Macro.throwUnsupported
 match s with
 | "Yba" => `((by first | exact blkOk_by (N := ylc) (sc := defScope yf9) (by decide +kernel) | exact blkOk_by (by with_unfolding_all rfl) | exact blkOk_by (by decide +kernel +revert)))
 | "Ybb" => `((by first | exact blkOk_by (N := yh6) (sc := defScope yeq) (by decide +kernel) | exact blkOk_by (by with_unfolding_all rfl) | exact blkOk_by (by decide +kernel +revert)))
 | "Ybc" => `((by first | exact blkOk_by (N := yj7) (sc := defScope yfc) (by decide +kernel) | exact blkOk_by (by with_unfolding_all rfl) | exact blkOk_by (by decide +kernel +revert)))
 | "Ybd" => `((hp.objs.size + 1))
 | "Ybe" => `((starEach es X.env))
 | "Ybf" => `((mNot (zal truW (mApp (oIsi zcv) (zab (mVar 0) (zab (mC (.ty "str")) (mNil)))))))
 | "Ybg" => `((zbk (zbo (zam (dts := []) (dvs := []) yt Yb hgd (by rfl) y3 y4 yu .nil Yh zau (zaa (zac 0) (zad))))))
 | "Ybh" => `((zai (zck rfl (takesN (L2.takes_of rfl rfl rfl rfl)) (zc8 ya.T ya.iC ya.tI ya.cn ya.ok Yb ya.bd rfl ya.mg Yap))))
 | "Ybi" => `((zcu (zca ymv ybb.cn yf7 Yb hgd (by rfl) ybb.mg yf8 (.cons (show L2.RelV (V.ref e_Reader_init) (Value.ref e_Reader_init) from rfl) .nil) dt_Reader_init zb9 (fun σ => L2N.passAt (takesN takes_nox) σ) (zaa (zag) (zaa (zaw Yap) (zad))))))
 | "Ybj" => `((.Call (.Name "super" p0) [] [] p1))
 | "Ybk" => `((zab (mBin ixW (mVar 1) Yj) (mNil)))
 | "Ybl" => `((mBin ixW (mVar 0) Yj))
 | "Ybm" => `((zab (mApp zap (zab (mApp za4 (zab (mC (.str "e")) Yk)) (zab (zas zay [] (zab (mVar 0) Yo)) (mNil)))) (zab (mApp zap (zab (zas zay [] (zab (mVar 0) Yo)) (zab (mApp za4 (zab (mC (.str "e")) Yk)) (mNil)))) (mNil))))
 | "Ybn" => `((zai (zck rfl (L2N.takes_of rfl rfl rfl rfl) (zc8 yi.T yi.iC yi.tI yi.cn yi.ok Yb yi.bd rfl yi.mg Yap))))
 | "Ybo" => `((by decide))
 | "Ybp" => `((.Call (.Name x p) Yae [] pos))
 | "Ybq" => `((zbk (zbo (zam (dts := []) (dvs := []) yac Yb hgd (by rfl) yak yal yad .nil Yh zau Y3))))
 | "Ybr" => `((fun _ _ _ _ _ => pg_name (i := 1) hN rfl Yi))
 | "Ybs" => `((zcu (zca ypl ydi.cn yhb Yb hgd (by rfl) ydi.mg yhc .nil (fun s => by rfl) zb9 (fun σ => L2N.passAt (takesN takes_nox) σ) (zaa (zag) (zaa (zaw Yap) (zad))))))
 | "Ybt" => `((Addr × Obj))
 | "Ybu" => `((zbk (zbo (zbg zb3 (ok_isi hT) (zaa (zac 0) (zaa (ie_ty ygi Yaq) (zad))) yc))))
 | "Ybv" => `((eqW true))
 | "Ybw" => `((some (.builtin "ValueError.__init__")))
 | "Ybx" => `((by decide +kernel))
 | _ => Lean.Macro.throwUnsupported
local macro_rules | `($x:ident) => do
 let .str .anonymous s := x.getId | Lean.Macro.throwUnsupported
 if s.front != 'Y' then Lean.Macro.throwUnsupported
 match s with
 | "Yby" => `((zaa (zac 3) (zad)))
 | "Ybz" => `((A.deeper (envOfC qual Y9 s.heap.objs.size f cdv)))
 | "Yb0" => `((.t (.int j)))
 | "Yb1" => `((zab (mC (.int 3)) (mNil)))
 | "Yb2" => `((SetTable.insertAt es j (hK P w k, Value.ref x)))
 | "Yb3" => `((.lst ws))
 | "Yb4" => `((fun _ _ _ _ _ => by rfl))
 | "Yb5" => `((zab (mApp za4 Yt) (zab (mApp za4 (zab (mC (.str "q")) Yk)) (mNil))))
 | "Yb6" => `((PySem.HandSPX.excO C hp.objs.size))
 | "Yb7" => `((.ref yb))
 | "Yb8" => `((good n d))
 | "Yb9" => `((mNot (zal truW (zas zat [] Yar))))
 | "Yca" => `((zab (mVar 4) (zab (mVar 1) (zab (mBin ixW (mVar 2) Yj) (mNil)))))
 | "Ycb" => `((fun _ _ _ _ _ => its_one ((iw_and (it_notN (zac 5) (za3)) (iw_and1 (it_eq hu (zaj (zac 5) (zae)) (zaj (zac 1) (zae))))).it)))
 | "Ycc" => `((by simp))
 | "Ycd" => `((L2.CX X.prog X.w))
 | "Yce" => `((.type "tuple"))
 | "Ycf" => `((List Key × T))
 | "Ycg" => `((Addr × List Key))
 | "Ych" => `((pe_var (X := X.suite a ((a, oe) :: pn)) (i := i) hN hv hd hcd))
 | "Yci" => `((zab (zas zay [] (zab (mVar 0) (zab (mVar 4) (mNil)))) (mNil)))
 | "Ycj" => `((starEach [.Constant (.str txt) j p3] env))
 | "Yck" => `((sortingHeap (h1.push Yu) h1.objs.size vs))
 | "Ycl" => `((some (.lst ((ys ++ [y / wide]).map wI))))
 | _ => Lean.Macro.throwUnsupported
local macro_rules | `($x:ident) => do
 let .str .anonymous s := x.getId | Lean.Macro.throwUnsupported
 if s.front != 'Y' then Lean.Macro.throwUnsupported
 match s with
 | "Ycm" => `((eqW false))
 | "Ycn" => `((.builtin "sorted"))
 | "Yco" => `((((zcw ks).length : Nat) : Int))
 | "Ycp" => `((zcn (mUn oFmt (mFld ["Kind", "Reader"] "name" (mVar 0))) (zcn (mC (.str ": ")) (zcn (mUn oFmt (mVar 1)) (mJNil)))))
 | "Ycq" => `((zaa (zae) (zad)))
 | "Ycr" => `((fun v H2 => v = .non ∧ Q (.ref x) H2))
 | "Ycs" => `((.r hp.length))
 | "Yct" => `((ns.map V.int))
 | "Ycu" => `((.type "str"))
 | "Ycv" => `((.tbl (ps ++ #[rawInt pos.line, rawInt pos.col, .ref c'])))
 | "Ycw" => `((List Key × V))
 | "Ycx" => `((zai (zar (ie_joined (zb2 (zag) (zb2 (ie_fmt (zcr y5 (zac 0))) (zb2 (zag) (zb2 (ie_fmt (zac 1)) (ij_nil)))))))))
 | "Ycy" => `((Str × V))
 | "Ycz" => `((model P w))
 | "Yc0" => `((("self" : Str), Value.ref e))
 | "Yc1" => `((q.mono fun _ _ q => Wp.ok q))
 | "Yc2" => `((fun _ _ _ _ _ => zam (dts := []) (dvs := []) yif Yb hgd (by rfl) yks ykt yig .nil Yh zau (zaa (zac 4) Y3)))
 | "Yc3" => `((zab Yat (zab (mApp (oStrO [("Kind", zbx), ("Reader", zbf)]) Ybk) (zab (mC (.int 3)) (zab (mApp zap Ybk) Y4)))))
 | "Yc4" => `((fun _ _ _ _ _ => zam (dts := []) (dvs := []) yih Yb hgd (by rfl) yku ykv yii .nil Yh zau (zaa (zac 4) Y3)))
 | "Yc5" => `((fun _ _ _ _ _ => zam (dts := []) (dvs := []) yij Yb hgd (by rfl) ykw ykx yik .nil Yh zau (zaa (zac 3) Y3)))
 | "Yc6" => `((mApp oInt (zab (mBin wAdd (mBin wMul (mBin ixW (mVar 0) Yaa) (mC (.int 48271))) (mC (.int 43))) (mNil))))
 | "Yc7" => `((fun r s' => r = .ok (.ret (.bool true)) ∧ OldK s1.heap s'.heap ∧ s'.os = s1.os ∧ AllBare s'.gens))
 | "Yc8" => `((zai (zck rfl (L2N.takes_of rfl rfl rfl rfl) (zc8 yx.T yx.iC yx.tI yx.cn yx.ok Yb yx.bd rfl yx.mg Yap))))
 | "Yc9" => `((.ref s.heap.objs.size))
 | _ => Lean.Macro.throwUnsupported
local macro_rules | `($x:ident) => do
 let .str .anonymous s := x.getId | Lean.Macro.throwUnsupported
 if s.front != 'Y' then Lean.Macro.throwUnsupported
 match s with
 | "Yda" => `((cxOf CX P w K mg base N qual Y9 f cdv A outer s H E))
 | "Ydb" => `((.type "BaseException"))
 | "Ydc" => `((by rw [R.len]; exact Nat.le_refl _))
 | "Ydd" => `((defBody st))
 | "Yde" => `((.t (.bl b)))
 | "Ydf" => `((zai (zar (za3))))
 | "Ydg" => `((fun _ _ _ _ _ => zbg call_abs ok_abs (zaa (zcz call_int1 ok_int (zaa (zac 4) (zad)) yce) (zad)) yqq))
 | "Ydh" => `((t_const fun s => by simp [Rw, Rf]))
 | "Ydi" => `((.nx eta))
 | "Ydj" => `((.t .non))
 | "Ydk" => `((List.mem_cons_of_mem _ hu))
 | "Ydl" => `((E O1 O2 O3 w9 w10 w11 w12))
 | "Ydm" => `((zaj (zac 2) (zae)))
 | "Ydn" => `((zaj (zac 3) (zae)))
 | "Ydo" => `((fun env => by rfl))
 | "Ydp" => `((.ListComp elt [⟨tg, iter, ifs, 0⟩] scope pos))
 | "Ydq" => `((X.A.deeper (envOfC qg sg s.heap.objs.size g cdg)))
 | "Ydr" => `((hp.set k (some (.ins "Design" (putA "readers" (.t (.tup B)) (putA "kinds" (.t (.tup A)) []))))))
 | "Yds" => `((X.env.qual ++ "<lambda>"))
 | "Ydt" => `((Str × W))
 | "Ydu" => `((.type "function"))
 | "Ydv" => `((zab (mVar 9) (mNil)))
 | "Ydw" => `((.ins "Design" []))
 | "Ydx" => `((model prog w))
 | _ => Lean.Macro.throwUnsupported
local macro_rules | `($x:ident) => do
 let .str .anonymous s := x.getId | Lean.Macro.throwUnsupported
 if s.front != 'Y' then Lean.Macro.throwUnsupported
 match s with
 | "Ydy" => `((.type "type"))
 | "Ydz" => `((zam (dts := []) (dvs := []) ybm Yb hgd (by rfl) yci ycj ybn .nil Yh zbt (zaa (zac 4) Ycq)))
 | "Yd0" => `((zb5 zap (mSq (mSl (mVar 0) (mPart (mVar 1)) (mPart (mC (.int 62))))) (gN 4) mYes zc4 [4]))
 | "Yd1" => `((zam (dts := []) (dvs := []) yax Yb hgd (by rfl) ya9 yba yay .nil Yh zbt (zaa (zac 0) Y3)))
 | "Yd2" => `((pgs_cons (pg_name (i := 6) hN rfl Yi) (pgs_cons (pg_name (i := 7) hN rfl Yi) (pgs_nil))))
 | "Yd3" => `((fun _ _ _ => False))
 | "Yd4" => `((mC (.str "rounds")))
 | "Yd5" => `((Key × W))
 | "Yd6" => `((ws.map some ++ List.replicate (nn - n) none))
 | "Yd7" => `((spM X.K X.w m n))
 | "Yd8" => `((some (.builtin "getset_descriptor.__get__")))
 | "Yd9" => `((.ref yg))
 | "Yea" => `((.ref yd))
 | "Yeb" => `((h ++ [some Yb3]))
 | "Yec" => `((zaa (zaj (zac 1) (zae)) (zad)))
 | "Yed" => `((fun Y => pe_non))
 | "Yee" => `((Str × OpN))
 | "Yef" => `((RwL.of_trees.mp l))
 | "Yeg" => `((.bl false))
 | "Yeh" => `((.t (.lst (if ltCps p.1.cps.toList q.1.cps.toList = true then [t, u] else [u, t]))))
 | "Yei" => `((zaa (zac 2) (zad)))
 | "Yej" => `(((cxOf CXg X.prog X.w X.K X.mg X.base Ng qg sg g cdg X.A X.stack s H Eg).tr pn xe))
 | "Yek" => `((zab (zas zcj [] Yca) (zab (zas zcj [] (zab (mVar 4) (zab (mVar 2) Ybk))) (mNil))))
 | "Yel" => `((fun _ (a b : Bool) => a = b))
 | _ => Lean.Macro.throwUnsupported
local macro_rules | `($x:ident) => do
 let .str .anonymous s := x.getId | Lean.Macro.throwUnsupported
 if s.front != 'Y' then Lean.Macro.throwUnsupported
 match s with
 | "Yem" => `((.type "object"))
 | "Yen" => `((fun _ (x y : Bool) => x = y))
 | "Yeo" => `((zal asB (mBin Ybv Ybl (mApp zap (mNil)))))
 | "Yep" => `((eval o X.env))
 | "Yeq" => `((.ref cda))
 | "Yer" => `(("self" : Str))
 | "Yes" => `((.type "list"))
 | "Yet" => `((mSq (mVar 0)))
 | "Yeu" => `((PySem.W.fnOf x x (defArgs s) (defBody s) (defScope s) .none kV dc pm an cd ct))
 | "Yev" => `(((["if", "bump", "even", "kind", "look", "read", "same"] : List Str).map V.str))
 | "Yew" => `((fun (v : Value) (b : V × PyData) => RelV b.1 v ∧ ∃ as, Reads h v b.2 as))
 | "Yex" => `((.type "NoneType"))
 | "Yey" => `((dsgT [K1, K2] [R1, R2] Yb8))
 | "Yez" => `((by simp only [List.length_cons]; omega))
 | "Ye0" => `((PySem.W.kxs_mw "ValueError.__init__" e))
 | "Ye1" => `((.t (.lst [.tup [.str "c", .int (2 + (d : Int))], .tup [.str "q", .int 2]])))
 | "Ye2" => `((.lst xs))
 | "Ye3" => `((i _ _ _ hw))
 | "Ye4" => `((cutL ts lo hi))
 | "Ye5" => `((some (.ref a)))
 | "Ye6" => `((mApp oLen Yar))
 | "Ye7" => `((.lst (cs.map T.int)))
 | "Ye8" => `((.inl (by rfl)))
 | "Ye9" => `((.bl true))
 | _ => Lean.Macro.throwUnsupported
local macro_rules | `($x:ident) => do
 let .str .anonymous s := x.getId | Lean.Macro.throwUnsupported
 if s.front != 'Y' then Lean.Macro.throwUnsupported
 match s with
 | "Yfa" => `((.ExceptHandler (some (.Name x np)) (some n) (b₀ :: suite) pos' :: hds))
 | "Yfb" => `((.type "int"))
 | "Yfc" => `((by rw [p_not, p_test, zbr (ws := [.t t]) (zaq (varP e) rfl) (q h)]; rfl))
 | "Yfd" => `((.r h.length))
 | "Yfe" => `((fun s => by rfl))
 | "Yff" => `((m (.r s.hp.length :: (ws ++ dts.map W.t)) (s.hp ++ [some (.ins c [])])))
 | "Yfg" => `((eta.set i (some w)))
 | "Yfh" => `((by rw [wipe_length]; simpa using hl))
 | "Yfi" => `((eta.set i (some a)))
 | "Yfj" => `((Nat.lt_succ_self _))
 | "Yfk" => `((mSM oJoin (mC (.str ", ")) (mFld ["Kind", "Reader"] "steps" (mVar 0))))
 | "Yfl" => `((zb5 newL (mSq (mFld ["Design"] "rounds" (mVar 0))) (gN 4) za5 za6 [4]))
 | "Yfm" => `((.lst vs))
 | "Yfn" => `((.ins C dx []))
 | "Yfo" => `((mApp oTup Y4))
 | "Yfp" => `((zbg call_len zcd Yby yq))
 | "Yfq" => `(((List.range (j - i).toNat).map fun k => W.t (.int (i + (k : Nat)))))
 | "Yfr" => `((fun (v : Value) (b : V × PyData) => ∃ as, Reads s.heap v b.2 as))
 | "Yfs" => `((fun env => rfl))
 | "Yft" => `((by simpa using hl))
 | "Yfu" => `((fun _ (a b : Option Int) => a = b))
 | "Yfv" => `((.frz o (.lst Yct)))
 | "Yfw" => `((.tab lamQ))
 | "Yfx" => `((List.mem_of_getElem? e))
 | _ => Lean.Macro.throwUnsupported
local macro_rules | `($x:ident) => do
 let .str .anonymous s := x.getId | Lean.Macro.throwUnsupported
 if s.front != 'Y' then Lean.Macro.throwUnsupported
 match s with
 | "Yfy" => `((F eta hp))
 | "Yfz" => `((mMeth isL oAppend Ybl (zab (mBin iDiv (mVar 2) (mVar 1)) (mNil))))
 | "Yf0" => `((.ref yab))
 | "Yf1" => `((zal asB (mBin (isN true) (zcg Yl 3 1 2 .non f_law_c4 [Yg]) Yat)))
 | "Yf2" => `((fun _ _ _ _ _ => its_one (it_ne hu (zaj (zac 4) (zae)) (zac 1))))
 | "Yf3" => `((.Name x pos))
 | "Yf4" => `((Nat.le_refl _))
 | "Yf5" => `((fun e p => e.set p.1 (some p.2)))
 | "Yf6" => `((s3.addF p' (.lst (cutV xs l u))))
 | "Yf7" => `((List.mem_cons_self ..))
 | "Yf8" => `((.ref x :: (vs ++ dvs)))
 | "Yf9" => `((.builtin "isinstance"))
 | "Yga" => `((way t.mask Yav n))
 | "Ygb" => `((mNot (zal truW (zas za9 [] Yo))))
 | "Ygc" => `((mBin Ybv (mFld ["Design"] "rounds" (mVar 10)) (mApp oTup Ydv)))
 | "Ygd" => `((spM K w za9 1))
 | "Yge" => `((spM K w zat 1))
 | "Ygf" => `((.int (if i < 0 then -i else i)))
 | "Ygg" => `((fun cls d H' => W cls d σZ H'))
 | "Ygh" => `((q.mono fun _ _ q => Wp.bind (q.mono fun _ _ q => Wp.bind q)))
 | "Ygi" => `((.t (.bl (if neg then !decide (i = j) else decide (i = j)))))
 | "Ygj" => `((keywordEach [] X.env))
 | "Ygk" => `((.t (.bl (if neg then !decide (b = c) else decide (b = c)))))
 | "Ygl" => `((.ins c (putA f v fs)))
 | _ => Lean.Macro.throwUnsupported
local macro_rules | `($x:ident) => do
 let .str .anonymous s := x.getId | Lean.Macro.throwUnsupported
 if s.front != 'Y' then Lean.Macro.throwUnsupported
 match s with
 | "Ygm" => `((fun acc k => if memT k acc = true then acc else acc ++ [k]))
 | "Ygn" => `((mBin ixW (mVar 2) Yj))
 | "Ygo" => `((mBin ixW (mVar 3) Yj))
 | "Ygp" => `((Cell.ins "Design" []))
 | _ => Lean.Macro.throwUnsupported
set_option hygiene true
namespace Mir
open PySem PySem.Spec L2
open PyProof.Rows hiding St
/-- a frozen value as a tree -/
inductive T where
 | non | bl (b : Bool) | int (i : Int) | str (s : Str) | ty (n : String)
 | tup (xs : List T) | lst (xs : List T) | scr (xs : List T) | pr (xs : List T)
 | dic (ks : List Key) (vs : List T) | ins (c : Str) (ns : List Str) (vs : List T)
 | cls (c : Str) | dit (ks : List (List Key)) (vs : List T) | exc (c : Str) (ns : List Str) (vs : List T)
/-- a value: a tree, or a live cell -/
inductive W where
 | t (x : T) | r (i : Nat)
inductive Cell where
 | lst (xs : List W)
 | dic (kvs : List (Key × W))
 | ins (c : Str) (fs : List (Str × W))
 | dit (kvs : List (T × W))
 | tpl (ws : List W)
 /-- a dict keyed by nested tuples, locked for good -/
 | dil (kvs : List (T × W))
 /-- a table of code objects of the name q -/
 | tab (q : Str)
def Cell.alive : Cell → Prop
 | .dil _ => False
 | _ => True
abbrev IH := List (Option Cell)
structure Ex where
 cls : Str
 fs : List Ydt
inductive Res (A : Type) where
 | ok (a : A) (h : IH) | er (e : Ex) (eta : List (Option W)) (h : IH) | bad
abbrev IS := List (Option W)
abbrev M (A : Type) := IS → IH → Res A
def Res.bind {A B : Type} (r : Res A) (k : A → IH → Res B) : Res B := match r with
 | .ok a h => k a h
 | .er e eta h => .er e eta h
 | .bad => .bad
/-- the state of the relation -/
structure S4 where
 rho : List Addr
 fz : Addr → Prop
 hp : IH
 H : Hp
def KTup (K : PySem.W.Frag) (a : Addr) (xs : List V) : Prop :=
 ∃ (o : Obj) (its : Array Value) (n : Nat), K.lookup a = some o ∧ o.cls = .type "tuple" ∧ o.dict = none ∧ o.data = .seq its n ∧ its.size ≤ sizeLine ∧ Vals xs its.toList
def KLst (K : PySem.W.Frag) (a : Addr) (xs : List V) : Prop :=
 ∃ (o : Obj) (its : Array Value) (n : Nat), K.lookup a = some o ∧ o.cls = .type "list" ∧ o.dict = none ∧ o.data = .seq its n ∧ its.size ≤ sizeLine ∧ Vals xs its.toList
def FTup (K : PySem.W.Frag) (fz : Addr → Prop) (H : Hp) (a : Addr) (xs : List V) : Prop := (fz a ∧ ∃ o : Obj, H a = some (.frz o (.tup xs)) ∧ o.dict = none) ∨ KTup K a xs
/-- a pair that a walk lays -/
def FPr (fz : Addr → Prop) (H : Hp) (a : Addr) (xs : List V) : Prop := fz a ∧ H a = some (.tup xs)
/-- a dict whose keys are tuples -/
def FDit (fz : Addr → Prop) (H : Hp) (a : Addr) (kvs : List Ycw) : Prop := fz a ∧ H a = some (.dT kvs)
def FLst (fz : Addr → Prop) (H : Hp) (a : Addr) (xs : List V) : Prop := fz a ∧ H a = some Ye2
def FDic (fz : Addr → Prop) (H : Hp) (a : Addr) (kvs : List (Key × V)) : Prop := fz a ∧ ∃ o, H a = some (.frz o (.dK kvs))
def FScr (K : PySem.W.Frag) (fz : Addr → Prop) (H : Hp) (a : Addr) (xs : List V) : Prop := (fz a ∧ ∃ o, H a = some (.frz o Ye2)) ∨ KLst K a xs
/-- the class that the module's name c holds -/
def CN (K : PySem.W.Frag) (c : Str) (C : Addr) : Prop := PySem.W.nsIn K mainGlobals c = some (some (.ref C))
/-- a frozen instance -/
def FIns (fz : Addr → Prop) (H : Hp) (a C : Addr) (fs : List Ycy) : Prop := fz a ∧ ∃ dx, H a = some (.ins C dx fs)
mutual
def Rf (K : PySem.W.Frag) (fz : Addr → Prop) (H : Hp) : T → V → Prop
 | .non, v => v = .non
 | .bl b, v => v = .bl b
 | .int i, v => v = .int i
 | .str s, v => v = .str s
 | .ty n, v => v = .ty n
 | .tup xs, v => ∃ a vs, v = .ref a ∧ FTup K fz H a vs ∧ RfL K fz H xs vs
 | .lst xs, v => ∃ a vs, v = .ref a ∧ FLst fz H a vs ∧ RfL K fz H xs vs
 | .scr xs, v => ∃ a vs, v = .ref a ∧ FScr K fz H a vs ∧ RfL K fz H xs vs
 | .pr xs, v => ∃ a vs, v = .ref a ∧ FPr fz H a vs ∧ RfL K fz H xs vs
 | .dic ks xs, v => ∃ a vs, v = .ref a ∧ FDic fz H a (ks.zip vs) ∧ ks.length = xs.length ∧ RfL K fz H xs vs
 | .cls c, v => ∃ C, v = .ref C ∧ CN K c C
 | .dit ks xs, v => ∃ a vs, v = .ref a ∧ FDit fz H a (ks.zip vs) ∧ ks.length = xs.length ∧ RfL K fz H xs vs
 | .exc _ _ _, _ => False
 | .ins c ns xs, v => ∃ a C vs, v = .ref a ∧ CN K c C ∧ FIns fz H a C (ns.zip vs) ∧ ns.length = xs.length ∧ RfL K fz H xs vs
def RfL (K : PySem.W.Frag) (fz : Addr → Prop) (H : Hp) : List T → List V → Prop
 | [], vs => vs = []
 | x :: xs, vs => ∃ v r, vs = v :: r ∧ Rf K fz H x v ∧ RfL K fz H xs r
end
def Rw (K : PySem.W.Frag) (s : S4) : W → V → Prop
 | .t x, v => Rf K s.fz s.H x v
 | .r i, v => ∃ a, s.rho[i]? = some a ∧ v = .ref a
def RwL (K : PySem.W.Frag) (s : S4) : List W → List V → Prop
 | [], vs => vs = []
 | x :: xs, vs => ∃ v r, vs = v :: r ∧ Rw K s x v ∧ RwL K s xs r
def RwK (K : PySem.W.Frag) (s : S4) : List Yd5 → List (Key × V) → Prop
 | [], vs => vs = []
 | x :: xs, vs => ∃ v r, vs = (x.1, v) :: r ∧ Rw K s x.2 v ∧ RwK K s xs r
def RwF (K : PySem.W.Frag) (s : S4) : List Ydt → List Ycy → Prop
 | [], vs => vs = []
 | x :: xs, vs => ∃ v r, vs = (x.1, v) :: r ∧ Rw K s x.2 v ∧ RwF K s xs r
mutual
/-- a tree as a key -/
def nkT : T → Option NestedKey
 | .non => some .none
 | .bl b => some (.num (if b = true then 1 else 0))
 | .int i => some (.num i)
 | .str s => some (.text s)
 | .tup xs => (nkTL xs).map .tup
 | .ty _ => none | .lst _ => none | .scr _ => none | .pr _ => none | .dic _ _ => none | .ins _ _ _ => none | .cls _ => none | .dit _ _ => none | .exc _ _ _ => none
def nkTL : List T → Option (List NestedKey)
 | [] => some []
 | x :: xs => match nkT x, nkTL xs with | some k, some ks => some (k :: ks) | _, _ => none
end
/-- a dict whose keys are nested tuples: its entries, by the world's hash -/
def DitO (ω : World) (a : Addr) (xs : List Y2) : HO := .ext fun h => xs.length ≤ sizeLine ∧ (a == sysModules) = false ∧
 ∃ ys : List Ya8, Paired (fun (p : NestedKey × Addr × V) (q : NestedKey × Addr × Value) => p.1 = q.1 ∧ p.2.1 = q.2.1 ∧ RelV p.2.2 q.2.2) xs ys ∧ (ys.map (·.1)).Nodup ∧
 ∃ o es ep, h.get? a = some o ∧ o.ExactDict ∧ o.data = .dict es ep ∧ es.toList = ys.map fun y => (⟨y.1.hash ω, .ref y.2.1, y.2.2⟩ : DictEntry)
def RwD (K : PySem.W.Frag) (s : S4) : List (T × W) → List Y2 → Prop
 | [], vs => vs = []
 | x :: xs, vs => ∃ k b v r, vs = (k, b, v) :: r ∧ nkT x.1 = some k ∧ k.depth ≤ 8 ∧ Rf K s.fz s.H x.1 (.ref b) ∧ Rw K s x.2 v ∧ RwD K s xs r
/-- the table of code objects of the def law -/
def LawTab (K : PySem.W.Frag) (P : Addr) : Prop := ∃ (fa : Addr) (o : Obj) (fd : FuncData) (c : Addr) (oc : Obj) (vs : Array Value),
 PySem.W.nsIn K mainGlobals "law" = some (some (.ref fa)) ∧ K.lookup fa = some o ∧ o.data = .func fd ∧ fd.code = .ref c ∧ K.lookup c = some oc ∧ oc.data = .fields vs ∧ vs[11]? = some (.ref P)
theorem LawTab.inj {K : PySem.W.Frag} {P P' : Addr} (h : LawTab K P) (h' : LawTab K P') : P = P' := by
 obtain ⟨fa, o, fd, c, oc, vs, h1, h2, h3, h4, h5, h6, h7⟩ := h
 obtain ⟨fa', o', fd', c', oc', vs', g1, g2, g3, g4, g5, g6, g7⟩ := h'
 rw [h1] at g1; cases g1
 rw [h2] at g2; cases g2
 rw [h3] at g3; cases g3
 rw [h4] at g4; cases g4
 rw [h5] at g5; cases g5
 rw [h6] at g6; cases g6
 rw [h7] at g7; cases g7
 rfl
def CellOk (K : PySem.W.Frag) (ω : World) (s : S4) (a : Addr) : Cell → Option HO → Prop
 | .lst ws, o => ∃ vs, o = some Yfm ∧ RwL K s ws vs
 | .dic kvs, o => ∃ vs, o = some (.dK vs) ∧ RwK K s kvs vs
 | .ins c fs, o => ∃ C dx vs, o = some (.ins C dx vs) ∧ CN K c C ∧ RwF K s fs vs
 | .dit kvs, o => ∃ xs, o = some (DitO ω a xs) ∧ RwD K s kvs xs
 | .tpl ws, o => ∃ ob vs, o = some (.frz ob (.tup vs)) ∧ ob.dict = none ∧ RwL K s ws vs
 | .dil kvs, o => ∃ ob xs, o = some (.frz ob (DitO ω a xs)) ∧ RwD K s kvs xs
 | .tab q, o => LawTab K a ∧ ∃ ps : Array Value, o = some (.tbl ps) ∧ TriplesOk ps.toList ∧ ∀ (pos : Pos) (cv : Value), codeAmong pos ps.toList = some cv → ∃ c, cv = .ref c ∧ s.fz c ∧ s.H c = some (LamX.CodeO c q)
def Live (s : S4) (a : Addr) : Prop := ∃ (i : Nat) (c : Cell), (s.hp[i]? = some (some c) ∧ c.alive) ∧ s.rho[i]? = some a
structure Rel (K : PySem.W.Frag) (ω : World) (s : S4) : Prop where
 len : s.rho.length = s.hp.length
 nd : s.rho.Nodup
 trk : ∀ a ∈ s.rho, s.H a ≠ none
 ftrk : ∀ a, s.fz a → s.H a ≠ none
 fz : ∀ a, Live s a → ¬ s.fz a
 cell : ∀ (i : Nat) (c : Cell) (a : Addr), s.hp[i]? = some (some c) → s.rho[i]? = some a → CellOk K ω s a c (s.H a)
structure Aft (s s' : S4) : Prop where
 pre : ∃ ex, s'.rho = s.rho ++ ex ∧ ∀ a ∈ ex, s.H a = none
 fz : ∀ a, s.fz a → s'.fz a
 keep : ∀ a o, s.H a = some o → ¬ Live s a → s'.H a = some o
 fnew : ∀ a, s'.fz a → s.fz a ∨ s.H a = none ∨ Live s a
 live : ∀ a, Live s' a → Live s a ∨ s.H a = none
 trk : ∀ a, s.H a ≠ none → s'.H a ≠ none
theorem Aft.refl (s : S4) : Aft s s := ⟨⟨[], by simp, by simp⟩, fun _ h => h, fun _ _ h _ => h, fun _ h => .inl h, fun _ h => .inl h, fun _ h => h⟩
theorem Aft.trans {s s1 s2 : S4} (a : Aft s s1) (b : Aft s1 s2) : Aft s s2 := by
 have none_of : ∀ x, s1.H x = none → s.H x = none := fun x h => by
  cases q : s.H x with
  | none => rfl
  | some o => exact absurd h (a.trk x (by rw [q]; intro z; cases z))
 refine ⟨?_, fun x h => b.fz x (a.fz x h), fun x o h nl => ?_, fun x h => ?_, fun x h => ?_, fun x h => b.trk x (a.trk x h)⟩
 ·obtain ⟨e1, p1, q1⟩ := a.pre
  obtain ⟨e2, p2, q2⟩ := b.pre
  refine ⟨e1 ++ e2, by rw [p2, p1, List.append_assoc], fun x hx => ?_⟩
  rcases List.mem_append.mp hx with hx | hx
  ·exact q1 x hx
  ·exact none_of x (q2 x hx)
 ·refine b.keep x o (a.keep x o h nl) fun l => ?_
  rcases a.live x l with l | l
  ·exact nl l
  ·rw [l] at h; cases h
 ·rcases b.fnew x h with h | h | h
  ·exact a.fnew x h
  ·exact .inr (.inl (none_of x h))
  ·rcases a.live x h with h | h
   ·exact .inr (.inr h)
   ·exact .inr (.inl h)
 ·rcases b.live x h with h | h
  ·exact a.live x h
  ·exact .inr (none_of x h)
section
variable {K : PySem.W.Frag} {ω : World} {s s' : S4}
theorem FTup.aft {a : Addr} {xs : List V} (h : FTup K s.fz s.H a xs) (A : Aft s s') (R : Rel K ω s) : FTup K s'.fz s'.H a xs := by
 rcases h with ⟨f, o, h, d⟩ | h
 ·exact .inl ⟨A.fz a f, o, A.keep a _ h fun l => R.fz a l f, d⟩
 ·exact .inr h
theorem FPr.aft {a : Addr} {xs : List V} (h : FPr s.fz s.H a xs) (A : Aft s s') (R : Rel K ω s) : FPr s'.fz s'.H a xs := by
 obtain ⟨f, h⟩ := h
 exact ⟨A.fz a f, A.keep a _ h fun l => R.fz a l f⟩
theorem FDit.aft {a : Addr} {xs : List Ycw} (h : FDit s.fz s.H a xs) (A : Aft s s') (R : Rel K ω s) : FDit s'.fz s'.H a xs := by
 obtain ⟨f, h⟩ := h
 exact ⟨A.fz a f, A.keep a _ h fun l => R.fz a l f⟩
theorem FLst.aft {a : Addr} {xs : List V} (h : FLst s.fz s.H a xs) (A : Aft s s') (R : Rel K ω s) : FLst s'.fz s'.H a xs :=
 ⟨A.fz a h.1, A.keep a _ h.2 fun l => R.fz a l h.1⟩
theorem FDic.aft {a : Addr} {xs : List (Key × V)} (h : FDic s.fz s.H a xs) (A : Aft s s') (R : Rel K ω s) : FDic s'.fz s'.H a xs :=
 let ⟨o, e⟩ := h.2; ⟨A.fz a h.1, o, A.keep a _ e fun l => R.fz a l h.1⟩
theorem FIns.aft {a C : Addr} {fs : List Ycy} (h : FIns s.fz s.H a C fs) (A : Aft s s') (R : Rel K ω s) : FIns s'.fz s'.H a C fs :=
 let ⟨dx, e⟩ := h.2; ⟨A.fz a h.1, dx, A.keep a _ e fun l => R.fz a l h.1⟩
theorem FScr.aft {a : Addr} {xs : List V} (h : FScr K s.fz s.H a xs) (A : Aft s s') (R : Rel K ω s) : FScr K s'.fz s'.H a xs :=
 h.imp (fun h => let ⟨o, e⟩ := h.2; ⟨A.fz a h.1, o, A.keep a _ e fun l => R.fz a l h.1⟩) id
mutual
theorem Rf.aft (A : Aft s s') (R : Rel K ω s) : ∀ (x : T) (v : V), Rf K s.fz s.H x v → Rf K s'.fz s'.H x v
 | .non, _, h => by simpa [Rf] using h
 | .bl _, _, h => by simpa [Rf] using h
 | .int _, _, h => by simpa [Rf] using h
 | .str _, _, h => by simpa [Rf] using h
 | .ty _, _, h => by simpa [Rf] using h
 | .cls _, _, h => by simpa [Rf] using h
 | .exc _ _ _, _, h => by simp [Rf] at h
 | .tup xs, v, h => by
  simp only [Rf] at h ⊢
  obtain ⟨a, vs, e, t, l⟩ := h
  exact ⟨a, vs, e, t.aft A R, RfL.aft A R xs vs l⟩
 | .lst xs, v, h => by
  simp only [Rf] at h ⊢
  obtain ⟨a, vs, e, t, l⟩ := h
  exact ⟨a, vs, e, t.aft A R, RfL.aft A R xs vs l⟩
 | .scr xs, v, h => by
  simp only [Rf] at h ⊢
  obtain ⟨a, vs, e, t, l⟩ := h
  exact ⟨a, vs, e, t.aft A R, RfL.aft A R xs vs l⟩
 | .pr xs, v, h => by
  simp only [Rf] at h ⊢
  obtain ⟨a, vs, e, t, l⟩ := h
  exact ⟨a, vs, e, t.aft A R, RfL.aft A R xs vs l⟩
 | .dic ks xs, v, h => by
  simp only [Rf] at h ⊢
  obtain ⟨a, vs, e, t, n, l⟩ := h
  exact ⟨a, vs, e, t.aft A R, n, RfL.aft A R xs vs l⟩
 | .dit ks xs, v, h => by
  simp only [Rf] at h ⊢
  obtain ⟨a, vs, e, t, n, l⟩ := h
  exact ⟨a, vs, e, t.aft A R, n, RfL.aft A R xs vs l⟩
 | .ins c ns xs, v, h => by
  simp only [Rf] at h ⊢
  obtain ⟨a, C, vs, e, cn, t, n, l⟩ := h
  exact ⟨a, C, vs, e, cn, t.aft A R, n, RfL.aft A R xs vs l⟩
theorem RfL.aft (A : Aft s s') (R : Rel K ω s) : ∀ (xs : List T) (vs : List V), RfL K s.fz s.H xs vs → RfL K s'.fz s'.H xs vs
 | [], _, h => by simpa [RfL] using h
 | x :: xs, vs, h => by
  simp only [RfL] at h ⊢
  obtain ⟨v, r, e, a, b⟩ := h
  exact ⟨v, r, e, Rf.aft A R x v a, RfL.aft A R xs r b⟩
end
theorem Rw.aft {w : W} {v : V} (h : Rw K s w v) (A : Aft s s') (R : Rel K ω s) : Rw K s' w v := by
 cases w with
 | t x => exact Rf.aft A R x v h
 | r i =>
  obtain ⟨a, e1, e2⟩ := h
  obtain ⟨ex, p, _⟩ := A.pre
  exact ⟨a, by rw [p, List.getElem?_append_left (List.getElem?_eq_some_iff.mp e1).1]; exact e1, e2⟩
theorem RwL.aft (A : Aft s s') (R : Rel K ω s) : ∀ (ws : List W) (vs : List V), RwL K s ws vs → RwL K s' ws vs
 | [], _, h => h
 | x :: xs, vs, h => by
  obtain ⟨v, r, e, a, b⟩ := h
  exact ⟨v, r, e, a.aft A R, RwL.aft A R xs r b⟩
theorem RwK.aft (A : Aft s s') (R : Rel K ω s) : ∀ (ws : List (Key × W)) (vs : List (Key × V)), RwK K s ws vs → RwK K s' ws vs
 | [], _, h => h
 | x :: xs, vs, h => by
  obtain ⟨v, r, e, a, b⟩ := h
  exact ⟨v, r, e, a.aft A R, RwK.aft A R xs r b⟩
theorem RwF.aft (A : Aft s s') (R : Rel K ω s) : ∀ (ws : List (Str × W)) (vs : List (Str × V)), RwF K s ws vs → RwF K s' ws vs
 | [], _, h => h
 | x :: xs, vs, h => by
  obtain ⟨v, r, e, a, b⟩ := h
  exact ⟨v, r, e, a.aft A R, RwF.aft A R xs r b⟩
theorem RwD.aft (A : Aft s s') (R : Rel K ω s) : ∀ (ws : List (T × W)) (vs : List (NestedKey × Addr × V)), RwD K s ws vs → RwD K s' ws vs
 | [], _, h => h
 | x :: xs, vs, h => by
  obtain ⟨k, b, v, r, e, h1, h2, h3, h4, h5⟩ := h
  exact ⟨k, b, v, r, e, h1, h2, Rf.aft A R _ _ h3, h4.aft A R, RwD.aft A R xs r h5⟩
theorem CellOk.aft {a : Addr} {c : Cell} {o : Option HO} (h : CellOk K ω s a c o) (A : Aft s s') (R : Rel K ω s) : CellOk K ω s' a c o := by
 cases c with
 | lst ws => obtain ⟨vs, e, l⟩ := h; exact ⟨vs, e, RwL.aft A R ws vs l⟩
 | dic kvs => obtain ⟨vs, e, l⟩ := h; exact ⟨vs, e, RwK.aft A R kvs vs l⟩
 | ins c fs => obtain ⟨C, dx, vs, e, cn, l⟩ := h; exact ⟨C, dx, vs, e, cn, RwF.aft A R fs vs l⟩
 | dit kvs => obtain ⟨vs, e, l⟩ := h; exact ⟨vs, e, RwD.aft A R kvs vs l⟩
 | tpl ws => obtain ⟨ob, vs, e, d, l⟩ := h; exact ⟨ob, vs, e, d, RwL.aft A R ws vs l⟩
 | dil kvs => obtain ⟨ob, vs, e, l⟩ := h; exact ⟨ob, vs, e, RwD.aft A R kvs vs l⟩
 | tab q => obtain ⟨lt, ps, e, t, l⟩ := h; exact ⟨lt, ps, e, t, fun pos cv hc => let ⟨c, e1, f, e2⟩ := l pos cv hc; ⟨c, e1, A.fz c f, A.keep c _ e2 fun l => R.fz c l f⟩⟩
theorem RwL.length : ∀ {ws : List W} {vs : List V}, RwL K s ws vs → ws.length = vs.length
 | [], _, h => by rw [show _ = [] from h]; rfl
 | x :: xs, vs, h => by
  obtain ⟨v, r, e, a, b⟩ := h
  rw [e, List.length_cons, List.length_cons, RwL.length b]
theorem RfL.length : ∀ {ws : List T} {vs : List V}, RfL K s.fz s.H ws vs → ws.length = vs.length
 | [], _, h => by simp only [RfL] at h; rw [h]; rfl
 | x :: xs, vs, h => by
  simp only [RfL] at h
  obtain ⟨v, r, e, a, b⟩ := h
  rw [e, List.length_cons, List.length_cons, RfL.length b]
theorem RwL.get : ∀ {ws : List W} {vs : List V} {i : Nat} {w : W}, RwL K s ws vs → ws[i]? = some w → ∃ v, vs[i]? = some v ∧ Rw K s w v
 | [], _, _, _, _, h => by simp at h
 | x :: xs, vs, 0, w, h, e => by
  obtain ⟨v, r, e', a, b⟩ := h
  simp at e
  subst e
  exact ⟨v, by rw [e']; rfl, a⟩
 | x :: xs, vs, i + 1, w, h, e => by
  obtain ⟨v, r, e', a, b⟩ := h
  obtain ⟨v', h1, h2⟩ := RwL.get (i := i) (w := w) b (by simpa using e)
  exact ⟨v', by rw [e']; simpa using h1, h2⟩
theorem RfL.get : ∀ {ws : List T} {vs : List V} {i : Nat} {w : T}, RfL K s.fz s.H ws vs → ws[i]? = some w → ∃ v, vs[i]? = some v ∧ Rf K s.fz s.H w v
 | [], _, _, _, _, h => by simp at h
 | x :: xs, vs, 0, w, h, e => by
  simp only [RfL] at h
  obtain ⟨v, r, e', a, b⟩ := h
  simp at e
  subst e
  exact ⟨v, by rw [e']; rfl, a⟩
 | x :: xs, vs, i + 1, w, h, e => by
  simp only [RfL] at h
  obtain ⟨v, r, e', a, b⟩ := h
  obtain ⟨v', h1, h2⟩ := RfL.get (i := i) (w := w) b (by simpa using e)
  exact ⟨v', by rw [e']; simpa using h1, h2⟩
/-- trees among values -/
theorem RwL.of_trees : ∀ {ts : List T} {vs : List V}, RwL K s Yv vs ↔ RfL K s.fz s.H ts vs
 | [], vs => by simp [RwL, RfL]
 | x :: xs, vs => by
  simp only [List.map_cons, RwL, RfL, Rw]
  constructor
  ·rintro ⟨v, r, e, a, b⟩; exact ⟨v, r, e, a, RwL.of_trees.mp b⟩
  ·rintro ⟨v, r, e, a, b⟩; exact ⟨v, r, e, a, RwL.of_trees.mpr b⟩
theorem RwL.append : ∀ {ws ws' : List W} {vs vs' : List V}, RwL K s ws vs → RwL K s ws' vs' → RwL K s (ws ++ ws') (vs ++ vs')
 | [], _, _, _, h, h' => by rw [show _ = [] from h]; exact h'
 | x :: xs, _, vs, _, h, h' => by
  obtain ⟨v, r, e, a, b⟩ := h
  rw [e]
  exact ⟨v, _, rfl, a, RwL.append b h'⟩
theorem FTup.sq {fz : Addr → Prop} {H : Hp} {a : Addr} {xs : List V} (h : FTup K fz H a xs) : SqT K H a xs := by
 rcases h with ⟨_, o, h, _⟩ | ⟨o, its, n, h1, h2, _, h3⟩
 ·exact .inl (.inr ⟨o, h⟩)
 ·exact .inr ⟨o, its, n, h1, h2, h3⟩
theorem FPr.sq {K : PySem.W.Frag} {fz : Addr → Prop} {H : Hp} {a : Addr} {xs : List V} (h : FPr fz H a xs) : SqT K H a xs := .inl (.inl h.2)
theorem FLst.sq {K : PySem.W.Frag} {fz : Addr → Prop} {H : Hp} {a : Addr} {xs : List V} (h : FLst fz H a xs) : SqL K H a xs := .inl (.inl h.2)
theorem FScr.sq {K : PySem.W.Frag} {fz : Addr → Prop} {H : Hp} {a : Addr} {xs : List V} (h : FScr K fz H a xs) : SqL K H a xs := h.elim (fun h => let ⟨o, e⟩ := h.2; .inl (.inr ⟨o, e⟩)) .inr
end
def Sl (K : PySem.W.Frag) (s : S4) (eta : IS) (σ : St) : Prop :=
 eta.length = σ.length ∧ ∀ (i : Nat) (w : W), eta[i]? = some (some w) → ∃ v, σ[i]? = some (some v) ∧ Rw K s w v
theorem Sl.aft {K : PySem.W.Frag} {ω : World} {s s' : S4} {eta : IS} {σ : St} (h : Sl K s eta σ) (A : Aft s s') (R : Rel K ω s) : Sl K s' eta σ :=
 ⟨h.1, fun i w e => let ⟨v, a, b⟩ := h.2 i w e; ⟨v, a, b.aft A R⟩⟩
theorem Sl.set {K : PySem.W.Frag} {s : S4} {eta : IS} {σ : St} {w : W} {v : V} (h : Sl K s eta σ) (i : Nat) (r : Rw K s w v) : Sl K s Yfg (σ.set i (some v)) := by
 refine ⟨by simp [h.1], fun j u e => ?_⟩
 by_cases hj : i = j
 ·subst hj
  by_cases hl : i < eta.length
  ·rw [List.getElem?_set_self hl] at e
   cases e
   exact ⟨v, by rw [List.getElem?_set_self (by rw [← h.1]; exact hl)], r⟩
  ·rw [List.getElem?_eq_none Yft] at e
   cases e
 ·rw [List.getElem?_set_ne hj] at e
  obtain ⟨x, a, b⟩ := h.2 j u e
  exact ⟨x, by rw [List.getElem?_set_ne hj]; exact a, b⟩
theorem Sl.wipe {K : PySem.W.Frag} {s : S4} {eta : IS} {σ : St} (h : Sl K s eta σ) : ∀ (vs : List Nat), Sl K s (vs.foldr (fun v e => e.set v none) eta) (wipe σ vs)
 | [] => h
 | v :: vs => by
  have ih := Sl.wipe h vs
  refine ⟨by simp only [List.foldr_cons, L2.wipe, List.length_set]; exact ih.1, fun j u e => ?_⟩
  simp only [List.foldr_cons] at e
  by_cases hj : v = j
  ·subst hj
   by_cases hl : v < (vs.foldr (fun v e => e.set v none) eta).length
   ·rw [List.getElem?_set_self hl] at e; cases e
   ·rw [List.getElem?_eq_none Yft] at e; cases e
  ·rw [List.getElem?_set_ne hj] at e
   obtain ⟨x, a, b⟩ := ih.2 j u e
   exact ⟨x, by simp only [L2.wipe]; rw [List.getElem?_set_ne hj]; exact a, b⟩
/-- how a raised error lies: its class by name, its fields in its own dict -/
def ExR (K : PySem.W.Frag) (s : S4) (e : Ex) (cls : Value) (d : Option Addr) : Prop :=
 ∃ C, cls = .ref C ∧ CN K e.cls C ∧ ((e.fs = [] ∧ d = none) ∨ ∃ dd vs, d = some dd ∧ s.H dd = some (.xd vs) ∧ RwF K s e.fs vs)
abbrev WX := Value → Option Addr → St → Hp → Prop
def Go {A B : Type} (K : PySem.W.Frag) (ω : World) (Wx : WX) (Fam : S4 → A → B → Prop) (s : S4) (r : Res A) (Q : B → Hp → Prop) : Prop := match r with
 | .ok a hp' => ∀ (b : B) (s' : S4), s'.hp = hp' → Aft s s' → Rel K ω s' → Fam s' a b → Q b s'.H
 | .er e eta' hp' => ∀ (s' : S4) (σ' : St) (cls : Value) (d : Option Addr), s'.hp = hp' → Aft s s' → Rel K ω s' → Sl K s' eta' σ' → ExR K s' e cls d → Wx cls d σ' s'.H
 | .bad => False
section
variable {K : PySem.W.Frag} {ω : World} {Wx : WX} {s s' : S4} {A B C D : Type} {Fam : S4 → A → B → Prop} {Gam : S4 → C → D → Prop}
theorem Go.aft {r : Res A} {Q : B → Hp → Prop} (g : Go K ω Wx Fam s r Q) (a : Aft s s') : Go K ω Wx Fam s' r Q := by
 cases r with
 | ok x hp => exact fun b s2 h1 h2 h3 h4 => g b s2 h1 (a.trans h2) h3 h4
 | er e eta hp => exact fun s2 σ' cls d h1 h2 h3 h4 h5 => g s2 σ' cls d h1 (a.trans h2) h3 h4 h5
 | bad => exact g
theorem Go.mono {r : Res A} {Q Q' : B → Hp → Prop} (g : Go K ω Wx Fam s r Q) (h : ∀ b H, Q b H → Q' b H) : Go K ω Wx Fam s r Q' := by
 cases r with
 | ok x hp => exact fun b s2 h1 h2 h3 h4 => h _ _ (g b s2 h1 h2 h3 h4)
 | er e eta hp => exact g
 | bad => exact g
/-- a run, then more -/
theorem Go.bind {r : Res A} {k : A → IH → Res C} {Q : D → Hp → Prop} {R : B → Hp → Prop} (g : Go K ω Wx Gam s (r.bind k) Q)
  (h : ∀ a b s', Aft s s' → Rel K ω s' → Fam s' a b → r = .ok a s'.hp → Go K ω Wx Gam s' (k a s'.hp) Q → R b s'.H) : Go K ω Wx Fam s r R := by
 cases r with
 | ok x hp =>
  intro b s2 h1 h2 h3 h4
  subst h1
  exact h x b s2 h2 h3 h4 rfl (Go.aft (show Go K ω Wx Gam s (k x s2.hp) Q from g) h2)
 | er e eta hp => exact g
 | bad => exact g
theorem Go.ret {a : A} {b : B} {hp : IH} {Q : B → Hp → Prop} (g : Go K ω Wx Fam s (.ok a hp) Q) (s' : S4) (h1 : s'.hp = hp) (h2 : Aft s s') (h3 : Rel K ω s') (h4 : Fam s' a b) : Q b s'.H := g b s' h1 h2 h3 h4
end
/-- the reading made of a plain function -/
def tM {A B : Type} (K : PySem.W.Frag) (ω : World) (Wx : WX) (Fam : S4 → A → B → Prop) (F : M A) : St → Hp → (B → Hp → Prop) → Prop := fun σ H Q =>
 ∃ (s : S4) (eta : IS), s.H = H ∧ Rel K ω s ∧ Sl K s eta σ ∧ Go K ω Wx Fam s (F eta s.hp) Q
abbrev tE (K : PySem.W.Frag) (ω : World) (Wx : WX) (F : M W) : TE := tM K ω Wx (Rw K) F
abbrev tA (K : PySem.W.Frag) (ω : World) (Wx : WX) (F : M (List W)) : TA := tM K ω Wx (RwL K) F
abbrev tT (K : PySem.W.Frag) (ω : World) (Wx : WX) (F : M Bool) : TT := tM K ω Wx Yel F
/-- judgements -/
def IE (X : Cx) (Wx : WX) (e : Expr) (F : M W) : Prop := PE X e (tE X.K X.w Wx F)
def IA (X : Cx) (Wx : WX) (es : List Expr) (F : M (List W)) : Prop := PA X es (tA X.K X.w Wx F)
def IT (X : Cx) (Wx : WX) (e : Expr) (F : M Bool) : Prop := PT X e (tT X.K X.w Wx F)
theorem PE.imp {X : Cx} {e : Expr} {t t' : TE} (h : PE X e t) (i : ∀ σ H Q, t' σ H Q → t σ H Q) : PE X e t' := ⟨fun pins s σ H Q I hw => h.run pins s σ H Q I Ye3⟩
theorem PT.imp {X : Cx} {e : Expr} {t t' : TT} (h : PT X e t) (i : ∀ σ H Q, t' σ H Q → t σ H Q) : PT X e t' := ⟨fun pins s σ H Q I hw => h.run pins s σ H Q I Ye3⟩
theorem PW.imp {X : Cx} {e : Expr} {t t' : TT} (h : PW X e t) (i : ∀ σ H Q, t' σ H Q → t σ H Q) : PW X e t' := ⟨fun wh pins s σ H Q I hw => h.run wh pins s σ H Q I Ye3⟩
theorem PA.imp {X : Cx} {e : List Expr} {t t' : TA} (h : PA X e t) (i : ∀ σ H Q, t' σ H Q → t σ H Q) : PA X e t' := ⟨fun pos pins s σ H Q I hw => h.run pos pins s σ H Q I Ye3⟩
theorem PS.imp {X : Cx} {e : Stmt} {t t' : TS} (h : PS X e t) (i : ∀ D σ H, t' D σ H → t D σ H) : PS X e t' := ⟨fun pins s σ H D I hw => h.run pins s σ H D I Ye3⟩
theorem PSs.imp {X : Cx} {e : List Stmt} {t t' : TS} (h : PSs X e t) (i : ∀ D σ H, t' D σ H → t D σ H) : PSs X e t' := ⟨fun pins s σ H D I hw => h.run pins s σ H D I Ye3⟩
theorem PG.imp {X : Cx} {e : Expr} {t t' : TG} (h : PG X e t) (i : ∀ v σ H Q, t' v σ H Q → t v σ H Q) : PG X e t' := ⟨fun pins s σ H v u Q I r hw => h.run pins s σ H v u Q I r (i _ _ _ _ hw)⟩
theorem PI.imp {X : Cx} {tg e : Expr} {t t' : TI} (h : PI X tg e t) (i : ∀ σ H Q, t' σ H Q → t σ H Q) : PI X tg e t' := ⟨fun pins s σ H Q I hw => h.run pins s σ H Q I Ye3⟩
end Mir
namespace Mir
open PySem PySem.Spec L2
open PyProof.Rows hiding St
mutual
def dat : T → PyData
 | .non => .none | .bl b => .bool b | .int i => .int i | .str s => .str s
 | .tup xs => .tuple (datL xs) | .lst xs => .list (datL xs) | .scr _ => .none | .pr _ => .none
 | .ty _ => .none | .dic _ _ => .none | .ins _ _ _ => .none | .cls _ => .none | .dit _ _ => .none | .exc _ _ _ => .none
def datL : List T → List PyData
 | [] => [] | x :: xs => dat x :: datL xs
end
mutual
/-- no dict, no instance; nested at most n deep -/
def fit : T → Nat → Bool
 | .non, _ => true | .bl _, _ => true | .int _, _ => true | .str _, _ => true
 | .tup xs, n => match n with | 0 => false | n + 1 => fitL xs n
 | .lst xs, n => match n with | 0 => false | n + 1 => fitL xs n
 | .scr _, _ => false | .pr _, _ => false | .ty _, _ => false | .dic _ _, _ => false | .ins _ _ _, _ => false | .cls _, _ => false | .dit _ _, _ => false | .exc _ _ _, _ => false
def fitL : List T → Nat → Bool
 | [], _ => true | x :: xs, n => fit x n && fitL xs n
end
mutual
def eqT : T → T → Bool
 | .non, y => match y with | .non => true | _ => false
 | .bl a, y => match y with | .bl b => a == b | .int j => (if a then 1 else 0) == j | _ => false
 | .int i, y => match y with | .bl b => i == (if b then 1 else 0) | .int j => i == j | _ => false
 | .str x, y => match y with | .str z => x == z | _ => false
 | .tup xs, y => match y with | .tup ys => eqTL xs ys | _ => false
 | .lst xs, y => match y with | .lst ys => eqTL xs ys | _ => false
 | .scr _, _ => false | .pr _, _ => false | .ty _, _ => false | .dic _ _, _ => false | .ins _ _ _, _ => false | .cls _, _ => false | .dit _ _, _ => false | .exc _ _ _, _ => false
def eqTL : List T → List T → Bool
 | [], ys => match ys with | [] => true | _ :: _ => false
 | x :: xs, ys => match ys with | [] => false | y :: ys => eqT x y && eqTL xs ys
end
mutual
theorem zcy : ∀ (x : T) (n : Nat), fit x n = true → (dat x).plain = true ∧ (dat x).depth ≤ n
 | .non, n, _ => by simp [dat, PyData.plain, PyData.depth]
 | .bl _, n, _ => by simp [dat, PyData.plain, PyData.depth]
 | .int _, n, _ => by simp [dat, PyData.plain, PyData.depth]
 | .str _, n, _ => by simp [dat, PyData.plain, PyData.depth]
 | .tup xs, 0, h => by simp [fit] at h
 | .tup xs, n + 1, h => by
  have := fit_plainL xs n (by simpa [fit] using h)
  simp only [dat, PyData.plain, PyData.depth]
  exact ⟨this.1, by omega⟩
 | .lst xs, 0, h => by simp [fit] at h
 | .lst xs, n + 1, h => by
  have := fit_plainL xs n (by simpa [fit] using h)
  simp only [dat, PyData.plain, PyData.depth]
  exact ⟨this.1, by omega⟩
 | .ty _, n, h => by simp [fit] at h
 | .scr _, n, h => by simp [fit] at h
 | .pr _, n, h => by simp [fit] at h
 | .dic _ _, n, h => by simp [fit] at h
 | .ins _ _ _, n, h => by simp [fit] at h
 | .cls _, n, h => by simp [fit] at h
 | .dit _ _, n, h => by simp [fit] at h
 | .exc _ _ _, n, h => by simp [fit] at h
theorem fit_plainL : ∀ (xs : List T) (n : Nat), fitL xs n = true → PyData.plainAll (datL xs) = true ∧ PyData.depthAll (datL xs) ≤ n
 | [], n, _ => by simp [datL, PyData.plainAll, PyData.depthAll]
 | x :: xs, n, h => by
  simp only [fitL, Bool.and_eq_true] at h
  have h1 := zcy x n h.1
  have h2 := fit_plainL xs n h.2
  simp only [datL, PyData.plainAll, PyData.depthAll, h1.1, h2.1, Bool.and_self, true_and]
  omega
end
mutual
theorem eqT_dat : ∀ (x y : T) (n m : Nat), fit x n = true → fit y m = true → PyData.eqv (dat x) (dat y) = eqT x y
 | .non, y, n, m, _, hy => by cases y <;> simp_all [dat, PyData.eqv, eqT, fit]
 | .bl a, y, n, m, _, hy => by cases y <;> simp_all [dat, PyData.eqv, eqT, fit]
 | .int i, y, n, m, _, hy => by cases y <;> simp_all [dat, PyData.eqv, eqT, fit]
 | .str x, y, n, m, _, hy => by cases y <;> simp_all [dat, PyData.eqv, eqT, fit]
 | .tup xs, .tup ys, 0, _, h, _ => by simp [fit] at h
 | .tup xs, .tup ys, n + 1, 0, _, h => by simp [fit] at h
 | .tup xs, .tup ys, n + 1, m + 1, hx, hy => by
  simp only [dat, PyData.eqv, eqT]
  exact eqTL_dat xs ys n m (by simpa [fit] using hx) (by simpa [fit] using hy)
 | .lst xs, .lst ys, 0, _, h, _ => by simp [fit] at h
 | .lst xs, .lst ys, n + 1, 0, _, h => by simp [fit] at h
 | .lst xs, .lst ys, n + 1, m + 1, hx, hy => by
  simp only [dat, PyData.eqv, eqT]
  exact eqTL_dat xs ys n m (by simpa [fit] using hx) (by simpa [fit] using hy)
 | .tup xs, .non, _, _, _, _ => by simp [dat, PyData.eqv, eqT]
 | .tup xs, .bl _, _, _, _, _ => by simp [dat, PyData.eqv, eqT]
 | .tup xs, .int _, _, _, _, _ => by simp [dat, PyData.eqv, eqT]
 | .tup xs, .str _, _, _, _, _ => by simp [dat, PyData.eqv, eqT]
 | .tup xs, .lst _, _, _, _, _ => by simp [dat, PyData.eqv, eqT]
 | .tup xs, .ty _, _, _, _, h => by simp [fit] at h
 | .tup xs, .scr _, _, _, _, h => by simp [fit] at h
 | .tup xs, .pr _, _, _, _, h => by simp [fit] at h
 | .tup xs, .dic _ _, _, _, _, h => by simp [fit] at h
 | .tup xs, .ins _ _ _, _, _, _, h => by simp [fit] at h
 | .tup xs, .cls _, _, _, _, h => by simp [fit] at h
 | .tup xs, .dit _ _, _, _, _, h => by simp [fit] at h
 | .tup xs, .exc _ _ _, _, _, _, h => by simp [fit] at h
 | .lst xs, .non, _, _, _, _ => by simp [dat, PyData.eqv, eqT]
 | .lst xs, .bl _, _, _, _, _ => by simp [dat, PyData.eqv, eqT]
 | .lst xs, .int _, _, _, _, _ => by simp [dat, PyData.eqv, eqT]
 | .lst xs, .str _, _, _, _, _ => by simp [dat, PyData.eqv, eqT]
 | .lst xs, .tup _, _, _, _, _ => by simp [dat, PyData.eqv, eqT]
 | .lst xs, .ty _, _, _, _, h => by simp [fit] at h
 | .lst xs, .scr _, _, _, _, h => by simp [fit] at h
 | .lst xs, .pr _, _, _, _, h => by simp [fit] at h
 | .lst xs, .dic _ _, _, _, _, h => by simp [fit] at h
 | .lst xs, .ins _ _ _, _, _, _, h => by simp [fit] at h
 | .lst xs, .cls _, _, _, _, h => by simp [fit] at h
 | .lst xs, .dit _ _, _, _, _, h => by simp [fit] at h
 | .lst xs, .exc _ _ _, _, _, _, h => by simp [fit] at h
 | .ty _, _, _, _, h, _ => by simp [fit] at h
 | .scr _, _, _, _, h, _ => by simp [fit] at h
 | .pr _, _, _, _, h, _ => by simp [fit] at h
 | .dic _ _, _, _, _, h, _ => by simp [fit] at h
 | .ins _ _ _, _, _, _, h, _ => by simp [fit] at h
 | .cls _, _, _, _, h, _ => by simp [fit] at h
 | .dit _ _, _, _, _, h, _ => by simp [fit] at h
 | .exc _ _ _, _, _, _, h, _ => by simp [fit] at h
theorem eqTL_dat : ∀ (xs ys : List T) (n m : Nat), fitL xs n = true → fitL ys m = true → PyData.eqvAll (datL xs) (datL ys) = eqTL xs ys
 | [], [], _, _, _, _ => by simp [datL, PyData.eqvAll, eqTL]
 | [], _ :: _, _, _, _, _ => by simp [datL, PyData.eqvAll, eqTL]
 | _ :: _, [], _, _, _, _ => by simp [datL, PyData.eqvAll, eqTL]
 | x :: xs, y :: ys, n, m, hx, hy => by
  simp only [fitL, Bool.and_eq_true] at hx hy
  simp only [datL, PyData.eqvAll, eqTL, eqT_dat x y n m hx.1 hy.1, eqTL_dat xs ys n m hx.2 hy.2]
end
section
variable {K : PySem.W.Frag} {ω : World} {s : S4}
mutual
theorem Rf.dp : ∀ (x : T) (v : V) (n : Nat), fit x n = true → Rf K s.fz s.H x v → Dp K s.H v (dat x)
 | .non, v, _, _, h => by simp only [Rf] at h; subst h; exact .non
 | .bl b, v, _, _, h => by simp only [Rf] at h; subst h; exact .bl b
 | .int b, v, _, _, h => by simp only [Rf] at h; subst h; exact .int b
 | .str b, v, _, _, h => by simp only [Rf] at h; subst h; exact .str b
 | .tup xs, v, 0, f, _ => by simp [fit] at f
 | .tup xs, v, n + 1, f, h => by
  simp only [Rf] at h
  obtain ⟨a, vs, e, t, l⟩ := h
  subst e
  exact .tup t.sq (RfL.dp xs vs n (by simpa [fit] using f) l)
 | .lst xs, v, 0, f, _ => by simp [fit] at f
 | .lst xs, v, n + 1, f, h => by
  simp only [Rf] at h
  obtain ⟨a, vs, e, t, l⟩ := h
  subst e
  exact .lst t.sq (RfL.dp xs vs n (by simpa [fit] using f) l)
 | .ty _, _, _, f, _ => by simp [fit] at f
 | .scr _, _, _, f, _ => by simp [fit] at f
 | .pr _, _, _, f, _ => by simp [fit] at f
 | .dic _ _, _, _, f, _ => by simp [fit] at f
 | .ins _ _ _, _, _, f, _ => by simp [fit] at f
 | .cls _, _, _, f, _ => by simp [fit] at f
 | .dit _ _, _, _, f, _ => by simp [fit] at f
 | .exc _ _ _, _, _, f, _ => by simp [fit] at f
theorem RfL.dp : ∀ (xs : List T) (vs : List V) (n : Nat), fitL xs n = true → RfL K s.fz s.H xs vs → DpAll K s.H vs (datL xs)
 | [], vs, _, _, h => by simp only [RfL] at h; subst h; exact .nil
 | x :: xs, vs, n, f, h => by
  simp only [fitL, Bool.and_eq_true] at f
  simp only [RfL] at h
  obtain ⟨v, r, e, a, b⟩ := h
  subst e
  exact .cons (Rf.dp x v n f.1 a) (RfL.dp xs r n f.2 b)
end
end
def allT : List W → Option (List T)
 | [] => some []
 | .t x :: ws => (allT ws).map (x :: ·)
 | .r _ :: _ => none
theorem zbu : ∀ {ws : List W} {ts : List T}, allT ws = some ts → ws = ts.map W.t
 | [], ts, h => by simp [allT] at h; subst h; rfl
 | .t x :: ws, ts, h => by
  simp only [allT, Option.map_eq_some_iff] at h
  obtain ⟨r, h1, h2⟩ := h
  subst h2
  rw [zbu h1]
  rfl
 | .r _ :: _, _, h => by simp [allT] at h
/-- a live list's items -/
def getL (hp : IH) (i : Nat) : Option (List W) := match hp[i]? with
 | some (some (.lst ws)) => some ws
 | _ => none
theorem zbv {hp : IH} {i : Nat} {ws : List W} (h : getL hp i = some ws) : hp[i]? = some (some Yb3) := by
 unfold getL at h
 split at h
 ·cases h; assumption
 ·cases h
/-- as a tree (a live list of trees too) -/
def asT (hp : IH) : W → Option T
 | .t x => some x
 | .r i => ((getL hp i).bind allT).map T.lst
section
variable {K : PySem.W.Frag} {ω : World} {s : S4}
/-- where a live list lies -/
theorem Rel.lst (R : Rel K ω s) {i : Nat} {v : V} {ws : List W} (g : getL s.hp i = some ws) (r : Rw K s (.r i) v) : ∃ a vs, v = .ref a ∧ s.rho[i]? = some a ∧ s.H a = some Yfm ∧ RwL K s ws vs ∧ ¬ s.fz a := by
 obtain ⟨a, e1, e2⟩ := r
 obtain ⟨vs, h1, h2⟩ := R.cell i _ a (zbv g) e1
 exact ⟨a, vs, e2, e1, h1, h2, R.fz a ⟨i, _, ⟨zbv g, True.intro⟩, e1⟩⟩
theorem asT_dp (R : Rel K ω s) {w : W} {x : T} {v : V} {n : Nat} (h : asT s.hp w = some x) (r : Rw K s w v) (f : fit x n = true) : Dp K s.H v (dat x) := by
 cases w with
 | t y => simp only [asT, Option.some.injEq] at h; subst h; exact Rf.dp _ v n f r
 | r i =>
  simp only [asT, Option.map_eq_some_iff, Option.bind_eq_some_iff] at h
  obtain ⟨ts, ⟨ws, g, h1⟩, h2⟩ := h
  subst h2
  obtain ⟨a, vs, e, _, e2, l, _⟩ := R.lst g r
  subst e
  cases n with
  | zero => simp [fit] at f
  | succ n =>
   rw [zbu h1] at l
   exact .lst (.inl (.inl e2)) (RfL.dp ts vs n (by simpa [fit] using f) Yef)
end
section
variable {X : Cx}
def rEqP (K : PySem.W.Frag) : R2 := fun x y H Q => ∃ d e, Dp K H x d ∧ Dp K H y e ∧ d.plain = true ∧ e.plain = true ∧ d.depth ≤ 60 ∧ Q (.bl (PyData.eqv d e)) H
def rNeP (K : PySem.W.Frag) : R2 := fun x y H Q => ∃ d e, Dp K H x d ∧ Dp K H y e ∧ d.plain = true ∧ e.plain = true ∧ d.depth ≤ 60 ∧ Q (.bl (!PyData.eqv d e)) H
theorem op_eqP (hu : X.A.units + 64 < cLine) : OpR X (compareOp .Eq) (rEqP X.K) := by
 intro pins s σ H x y v u Q I rx ry h
 obtain ⟨d, e, hd, he, sd, se, dd, q⟩ := h
 obtain ⟨as, r1⟩ := Dp.reads I d x v hd rx
 obtain ⟨bs, r2⟩ := Dp.reads I e y u he ry
 exact SeqAt.eq_plain r1 r2 sd se (by have : min d.depth e.depth ≤ d.depth := Nat.min_le_left _ _; omega) ⟨.bl _, H, I, rfl, q⟩
theorem op_neP (hu : X.A.units + 64 < cLine) : OpR X (compareOp .NotEq) (rNeP X.K) := by
 intro pins s σ H x y v u Q I rx ry h
 obtain ⟨d, e, hd, he, sd, se, dd, q⟩ := h
 obtain ⟨as, r1⟩ := Dp.reads I d x v hd rx
 obtain ⟨bs, r2⟩ := Dp.reads I e y u he ry
 exact SeqAt.ne_plain r1 r2 sd se (by have : min d.depth e.depth ≤ d.depth := Nat.min_le_left _ _; omega) ⟨.bl _, H, I, rfl, q⟩
/-- x in c: c a list or a tuple of data -/
def rInP (K : PySem.W.Frag) (neg : Bool) : R2 := fun x y H Q => ∃ d e, Dp K H x d ∧ (Dp K H y (.list e) ∨ Dp K H y (.tuple e)) ∧ d.plain = true ∧ PyData.plainAll e = true ∧ d.depth ≤ 60 ∧
 Q (.bl (if neg then !(e.any fun z => PyData.eqv z d) else e.any fun z => PyData.eqv z d)) H
theorem op_inP (hu : X.A.units + 64 < cLine) : OpR X (compareOp .In) (rInP X.K false) := by
 intro pins s σ H x y v u Q I rx ry h
 obtain ⟨d, e, hd, he, sd, se, dd, q⟩ := h
 obtain ⟨as, r1⟩ := Dp.reads I d x v hd rx
 have hm : X.A.units + 1 + min (PyData.depthAll e) d.depth < cLine := by have : min (PyData.depthAll e) d.depth ≤ d.depth := Nat.min_le_right _ _; omega
 rcases he with he | he
 ·obtain ⟨bs, r2⟩ := Dp.reads I _ y u he ry
  exact SeqAt.in_list_data r2 r1 se sd hm ⟨.bl _, H, I, rfl, q⟩
 ·obtain ⟨bs, r2⟩ := Dp.reads I _ y u he ry
  exact SeqAt.in_tuple_data r2 r1 se sd hm ⟨.bl _, H, I, rfl, q⟩
theorem op_ninP (hu : X.A.units + 64 < cLine) : OpR X (compareOp .NotIn) (rInP X.K true) := by
 intro pins s σ H x y v u Q I rx ry h
 obtain ⟨d, e, hd, he, sd, se, dd, q⟩ := h
 obtain ⟨as, r1⟩ := Dp.reads I d x v hd rx
 have hm : X.A.units + 1 + min (PyData.depthAll e) d.depth < cLine := by have : min (PyData.depthAll e) d.depth ≤ d.depth := Nat.min_le_right _ _; omega
 rcases he with he | he
 ·obtain ⟨bs, r2⟩ := Dp.reads I _ y u he ry
  exact SeqAt.notIn_list_data r2 r1 se sd hm ⟨.bl _, H, I, rfl, q⟩
 ·obtain ⟨bs, r2⟩ := Dp.reads I _ y u he ry
  exact SeqAt.notIn_tuple_data r2 r1 se sd hm ⟨.bl _, H, I, rfl, q⟩
end
abbrev Op2 := W → W → IH → Res W
abbrev Op1 := W → IH → Res W
abbrev OpN := List W → IH → Res W
def zcp (K : PySem.W.Frag) (ω : World) (Wx : WX) (f : Op2) (r : R2) : Prop := ∀ (s : S4) (a b : W) (x y : V) (Q : VK), Rel K ω s → Rw K s a x → Rw K s b y → Go K ω Wx (Rw K) s (f a b s.hp) Q → r x y s.H Q
def Op1Ok (K : PySem.W.Frag) (ω : World) (Wx : WX) (f : Op1) (r : V → Hp → VK → Prop) : Prop := ∀ (s : S4) (a : W) (x : V) (Q : VK), Rel K ω s → Rw K s a x → Go K ω Wx (Rw K) s (f a s.hp) Q → r x s.H Q
def OpNOk (K : PySem.W.Frag) (ω : World) (Wx : WX) (f : OpN) (r : List V → Hp → VK → Prop) : Prop := ∀ (s : S4) (a : List W) (x : List V) (Q : VK), Rel K ω s → RwL K s a x → Go K ω Wx (Rw K) s (f a s.hp) Q → r x s.H Q
def mBin (f : Op2) (Fa Fb : M W) : M W := fun eta hp => (Fa eta hp).bind fun a h1 => (Fb eta h1).bind fun b h2 => f a b h2
def mUn (f : Op1) (Fa : M W) : M W := fun eta hp => (Fa eta hp).bind fun a h1 => f a h1
def mNil : M (List W) := fun _ hp => .ok [] hp
def zab (Fa : M W) (Fr : M (List W)) : M (List W) := fun eta hp => (Fa eta hp).bind fun a h1 => (Fr eta h1).bind fun r h2 => .ok (a :: r) h2
def mApp (f : OpN) (Fa : M (List W)) : M W := fun eta hp => (Fa eta hp).bind fun a h1 => f a h1
section
variable {X : Cx} {Wx : WX} {a b c e : Expr} {es : List Expr} {Fa Fb Fc F : M W} {Fs : M (List W)} {pos : Pos}
theorem tM.bind1 {A B C D : Type} {K : PySem.W.Frag} {ω : World} {Fam : S4 → A → B → Prop} {Gam : S4 → C → D → Prop} {Fa : M A} {k : A → IS → IH → Res C} {σ : St} {H : Hp} {Q : D → Hp → Prop} {R : B → Hp → Prop}
  (h : tM K ω Wx Gam (fun eta hp => (Fa eta hp).bind fun a h1 => k a eta h1) σ H Q)
  (n : ∀ (s : S4) (eta : IS) (a : A) (b : B), Rel K ω s → Sl K s eta σ → Fam s a b → Go K ω Wx Gam s (k a eta s.hp) Q → R b s.H) : tM K ω Wx Fam Fa σ H R := by
 obtain ⟨s, eta, e1, R1, S1, g⟩ := h
 refine ⟨s, eta, e1, R1, S1, Go.bind g fun a b s' A' R' f _ g' => n s' eta a b R' (S1.aft A' R1) f g'⟩
theorem tM.bind2 {A B C D A' B' : Type} {K : PySem.W.Frag} {ω : World} {Fam : S4 → A → B → Prop} {Fam' : S4 → A' → B' → Prop} {Gam : S4 → C → D → Prop} {Fa : M A} {Fb : M A'} {k : A → A' → IS → IH → Res C} {σ : St} {H : Hp} {Q : D → Hp → Prop} {R : B → B' → Hp → Prop}
  (keep : ∀ s s' a b, Fam s a b → Aft s s' → Rel K ω s → Fam s' a b)
  (h : tM K ω Wx Gam (fun eta hp => (Fa eta hp).bind fun a h1 => (Fb eta h1).bind fun b h2 => k a b eta h2) σ H Q)
  (n : ∀ (s : S4) (eta : IS) (a : A) (b : B) (a' : A') (b' : B'), Rel K ω s → Sl K s eta σ → Fam s a b → Fam' s a' b' → Go K ω Wx Gam s (k a a' eta s.hp) Q → R b b' s.H) : tM K ω Wx Fam Fa σ H fun b H1 => tM K ω Wx Fam' Fb σ H1 fun b' H2 => R b b' H2 := by
 refine tM.bind1 (k := fun a eta h1 => (Fb eta h1).bind fun b h2 => k a b eta h2) h fun s eta a b R1 S1 f g => ?_
 refine ⟨s, eta, rfl, R1, S1, Go.bind g fun a' b' s' A' R' f' _ g' => n s' eta a b a' b' R' (S1.aft A' R1) (keep _ _ _ _ f A' R1) f' g'⟩
theorem Rw.keep {K : PySem.W.Frag} {ω : World} : ∀ (s s' : S4) (a : W) (b : V), Rw K s a b → Aft s s' → Rel K ω s → Rw K s' a b := fun _ _ _ _ h A R => h.aft A R
theorem RwL.keep {K : PySem.W.Frag} {ω : World} : ∀ (s s' : S4) (a : List W) (b : List V), RwL K s a b → Aft s s' → Rel K ω s → RwL K s' a b := fun _ _ _ _ h A R => RwL.aft A R _ _ h
theorem t_bin {f : Op2} {r : R2} (hf : zcp X.K X.w Wx f r) : ∀ σ H Q, tE X.K X.w Wx (mBin f Fa Fb) σ H Q → tOp r (tE X.K X.w Wx Fa) (tE X.K X.w Wx Fb) σ H Q := by
 intro σ H Q h
 exact tM.bind2 (R := fun x y H2 => r x y H2 Q) (k := fun a b _ hp => f a b hp) Rw.keep h fun s eta a b a' b' R1 S1 f1 f2 g => hf s a a' b b' Q R1 f1 f2 g
theorem ie_bin {op : Operator} {f : Op2} {r : R2} (ho : OpR X (binaryOp op) r) (hf : zcp X.K X.w Wx f r) (ha : IE X Wx a Fa) (hb : IE X Wx b Fb) : IE X Wx (.BinOp a op b pos) (mBin f Fa Fb) :=
 PE.imp (pe_op ho ha hb) (t_bin hf)
theorem ie_cmp {op : CmpOp} {f : Op2} {r : R2} (ho : OpR X (compareOp op) r) (hf : zcp X.K X.w Wx f r) (ha : IE X Wx a Fa) (hb : IE X Wx b Fb) (hm : behindInMarks op b = false) : IE X Wx (.Compare a [op] [b] pos) (mBin f Fa Fb) :=
 PE.imp (pe_cmpR ho ha hb hm) (t_bin hf)
theorem ie_un {op : UnaryOp} {f : Op1} {r : V → Hp → VK → Prop} (ho : UnR X (unaryOp op) r) (hf : Op1Ok X.K X.w Wx f r) (ha : IE X Wx a Fa) : IE X Wx (.UnaryOp op a pos) (mUn f Fa) :=
 PE.imp (pe_un ho ha) fun σ H Q h => tM.bind1 (R := fun x H1 => r x H1 Q) (k := fun a _ hp => f a hp) h fun s eta a b R1 _ f1 g => hf s a b Q R1 f1 g
theorem ie_ix {f : Op2} {r : R2} (hr : IxR X r) (hf : zcp X.K X.w Wx f r) (ha : IE X Wx a Fa) (hb : IE X Wx b Fb) (hs : PlainIx b) : IE X Wx (.Subscript a b pos) (mBin f Fa Fb) :=
 PE.imp (pe_ix hr ha hb hs) (t_bin hf)
theorem zad : IA X Wx [] mNil := PA.imp pa_nil fun σ H Q h => by
 obtain ⟨s, eta, e1, R1, S1, g⟩ := h
 subst e1
 exact g [] s rfl Ye R1 rfl
theorem zaa (ha : IE X Wx e Fa) (hr : IA X Wx es Fs) (hs : starEach Yae X.env = (false, eval e X.env) :: starEach es X.env := by rfl) : IA X Wx Yae (zab Fa Fs) :=
 PA.imp (pa_cons ha hr hs) fun σ H Q h => tM.bind2 (R := fun x xs H2 => Q (x :: xs) H2) (k := fun a r _ hp => .ok (a :: r) hp) Rw.keep h fun s eta a b a' b' R1 S1 f1 f2 g => g (b :: b') s rfl Ye R1 ⟨b, b', rfl, f1, f2⟩
/-- *e: a tuple or a list -/
def items (hp : IH) : W → Option (List W)
 | .t (.tup xs) => some (xs.map W.t)
 | .t (.lst xs) => some (xs.map W.t)
 | .t (.scr xs) => some (xs.map W.t)
 | .t _ => none
 | .r i => getL hp i
theorem items_sq {K : PySem.W.Frag} {ω : World} {s : S4} (R : Rel K ω s) {w : W} {v : V} {ws : List W} (h : items s.hp w = some ws) (r : Rw K s w v) : ∃ p xs, v = .ref p ∧ (SqT K s.H p xs ∨ SqL K s.H p xs) ∧ RwL K s ws xs := by
 cases w with
 | t x =>
  cases x with
  | tup xs =>
   simp only [items, Option.some.injEq] at h
   subst h
   obtain ⟨a, vs, e, t, l⟩ : ∃ a vs, v = .ref a ∧ FTup K s.fz s.H a vs ∧ RfL K s.fz s.H xs vs := by simpa only [Rw, Rf] using r
   exact ⟨a, vs, e, .inl t.sq, RwL.of_trees.mpr l⟩
  | lst xs =>
   simp only [items, Option.some.injEq] at h
   subst h
   obtain ⟨a, vs, e, t, l⟩ : ∃ a vs, v = .ref a ∧ FLst s.fz s.H a vs ∧ RfL K s.fz s.H xs vs := by simpa only [Rw, Rf] using r
   exact ⟨a, vs, e, .inr t.sq, RwL.of_trees.mpr l⟩
  | scr xs =>
   simp only [items, Option.some.injEq] at h
   subst h
   obtain ⟨a, vs, e, t, l⟩ : ∃ a vs, v = .ref a ∧ FScr K s.fz s.H a vs ∧ RfL K s.fz s.H xs vs := by simpa only [Rw, Rf] using r
   exact ⟨a, vs, e, .inr t.sq, RwL.of_trees.mpr l⟩
  | _ => simp [items] at h
 | r i =>
  obtain ⟨a, vs, e, _, e2, l, _⟩ := R.lst (show getL s.hp i = some ws from h) r
  exact ⟨a, vs, e, .inr (.inl (.inl e2)), l⟩
def mStar (Fa : M W) (Fr : M (List W)) : M (List W) := fun eta hp => (Fa eta hp).bind fun a h1 => match items h1 a with
 | some ws => (Fr eta h1).bind fun r h2 => .ok (ws ++ r) h2
 | none => .bad
end
section
variable {X : Cx} {Wx : WX} {pos : Pos}
def mVar (i : Nat) : M W := fun eta hp => match eta[i]? with
 | some (some w) => .ok w hp
 | _ => .bad
def mC (x : T) : M W := fun _ hp => .ok (.t x) hp
theorem zac (i : Nat) {x : Str} (hN : X.N[i]? = some x := by rfl) (hv : Vis X.env.scope x := by first | exact Or.inl rfl | exact Or.inr (Or.inl rfl) | exact Or.inr (Or.inr rfl)) (hd : (x == ("__debug__" : Str)) = false := by decide)
  (hcd : (x == ("__classdict__" : Str)) = false := by decide) : IE X Wx Yf3 (mVar i) := PE.imp (pe_var hN hv hd hcd) fun σ H Q h => by
 obtain ⟨s, eta, e1, R1, S1, g⟩ := h
 subst e1
 unfold mVar at g
 split at g
 ·rename_i w hw
  obtain ⟨v, h1, h2⟩ := S1.2 i w hw
  exact ⟨v, h1, g v s rfl Ye R1 h2⟩
 ·exact g.elim
theorem t_const {v : V} {x : T} (hx : ∀ s, Rw X.K s (.t x) v) : ∀ σ H Q, tE X.K X.w Wx (mC x) σ H Q → tC v σ H Q := fun σ H Q h => by
 obtain ⟨s, eta, e1, R1, S1, g⟩ := h
 subst e1
 exact g v s rfl Ye R1 (hx s)
theorem zae {i j} : IE X Wx (.Constant (.int i) j pos) (mC (.int i)) := PE.imp pe_int Ydh
theorem ie_bl {b j} : IE X Wx (.Constant (.bool b) j pos) (mC (.bl b)) := PE.imp pe_bl Ydh
theorem za3 {j} : IE X Wx (.Constant .none j pos) Yat := PE.imp pe_non Ydh
theorem zag {x j} : IE X Wx (.Constant (.str x) j pos) (mC (.str x)) := PE.imp pe_str Ydh
/-- a module's constant: what stands in the written part -/
def KT (K : PySem.W.Frag) (x : T) (v : V) : Prop := ∀ s, Rw K s (.t x) v
theorem ie_glob {x : Str} {v : V} {u : Value} {t : T} (hg : Gl X x) (hm : X.mg x = some u) (r : RelV v u) (k : KT X.K t v) (hd : (x == ("__debug__" : Str)) = false := by decide) : IE X Wx Yf3 (mC t) :=
 PE.imp (pe_glob hg hm r hd) (t_const k)
end
end Mir
namespace Mir
open PySem PySem.Spec L2
open PyProof.Rows hiding St
section
variable {K : PySem.W.Frag} {ω : World} {s : S4}
theorem Rel.fresh (R : Rel K ω s) {p : Addr} (h : s.H p = none) : p ∉ s.rho ∧ ¬ s.fz p := ⟨fun m => R.trk p m h, fun f => R.ftrk p f h⟩
theorem Rel.notlive (R : Rel K ω s) {p : Addr} (h : s.H p = none) : ¬ Live s p := fun ⟨i, c, _, e⟩ => (R.fresh h).1 Yfx
theorem Rel.liveH (R : Rel K ω s) {i : Nat} {c : Cell} {a : Addr} (h : s.hp[i]? = some (some c)) (e : s.rho[i]? = some a) : s.H a ≠ none := R.trk a Yfx
/-- a new frozen object -/
def S4.addF (s : S4) (p : Addr) (o : HO) : S4 := ⟨s.rho, fun a => s.fz a ∨ a = p, s.hp, upd s.H p o⟩
theorem za0 (R : Rel K ω s) {p : Addr} {o : HO} (h : s.H p = none) : Aft s (s.addF p o) := by
 refine ⟨⟨[], by simp [S4.addF], by simp⟩, fun a f => .inl f, fun a u e _ => ?_, fun a f => ?_, fun a l => .inl l, fun a e => ?_⟩
 ·show upd s.H p o a = some u
  rw [upd_ne (ne_of_none e h)]; exact e
 ·rcases f with f | f
  ·exact .inl f
  ·exact .inr (.inl (by rw [f]; exact h))
 ·show upd s.H p o a ≠ none
  by_cases q : a = p
  ·rw [q, upd_same]; intro z; cases z
  ·rw [upd_ne q]; exact e
theorem za8 (R : Rel K ω s) {p : Addr} {o : HO} (h : s.H p = none) : Rel K ω (s.addF p o) := by
 have A := za0 (o := o) R h
 refine ⟨R.len, R.nd, fun a m => A.trk a (R.trk a m), fun a f => ?_, fun a l f => ?_, fun i c a e1 e2 => ?_⟩
 ·rcases f with f | f
  ·exact A.trk a (R.ftrk a f)
  ·show upd s.H p o a ≠ none
   rw [f, upd_same]; intro z; cases z
 ·rcases f with f | f
  ·exact R.fz a l f
  ·rw [f] at l; exact R.notlive h l
 ·have q := R.cell i c a e1 e2
  have ne : a ≠ p := fun z => R.liveH e1 e2 (by rw [z]; exact h)
  show CellOk K ω (s.addF p o) a c (upd s.H p o a)
  rw [upd_ne ne]
  exact q.aft A R
theorem addF_tup (R : Rel K ω s) {p : Addr} {o : Obj} {ts : List T} {vs : List V} (h : s.H p = none) (d : o.dict = none) (l : RfL K s.fz s.H ts vs) : Rw K (s.addF p (.frz o (.tup vs))) Yaw (.ref p) := by
 have A := za0 (o := .frz o (.tup vs)) R h
 simp only [Rw, Rf]
 exact ⟨p, vs, rfl, .inl ⟨.inr rfl, o, upd_same, d⟩, RfL.aft A R _ _ l⟩
theorem zbq (R : Rel K ω s) {p : Addr} {ts : List T} {vs : List V} (h : s.H p = none) (l : RfL K s.fz s.H ts vs) : Rw K (s.addF p Yfm) Yad (.ref p) := by
 have A := za0 (o := .lst vs) R h
 simp only [Rw, Rf]
 exact ⟨p, vs, rfl, ⟨.inr rfl, upd_same⟩, RfL.aft A R _ _ l⟩
/-- a new live cell -/
def S4.addL (s : S4) (p : Addr) (c : Cell) (o : HO) : S4 := ⟨s.rho ++ [p], s.fz, s.hp ++ [some c], upd s.H p o⟩
theorem live_addL (R : Rel K ω s) {p a : Addr} {c : Cell} {o : HO} (l : Live (s.addL p c o) a) : Live s a ∨ a = p := by
 obtain ⟨i, d, ⟨e1, al⟩, e2⟩ := l
 have e1 : (s.hp ++ [some c])[i]? = some (some d) := e1
 have e2 : (s.rho ++ [p])[i]? = some a := e2
 by_cases hi : i < s.hp.length
 ·rw [List.getElem?_append_left hi] at e1
  rw [List.getElem?_append_left (by rw [R.len]; exact hi)] at e2
  exact .inl ⟨i, d, ⟨e1, al⟩, e2⟩
 ·rw [List.getElem?_append_right (by rw [R.len]; omega)] at e2
  have : i - s.rho.length = 0 := by
   have := (List.getElem?_eq_some_iff.mp e2).1
   simp at this
   omega
  rw [this] at e2
  simp at e2
  exact .inr e2.symm
theorem aft_addL (R : Rel K ω s) {p : Addr} {c : Cell} {o : HO} (h : s.H p = none) : Aft s (s.addL p c o) := by
 refine ⟨⟨[p], rfl, by simp [h]⟩, fun a f => f, fun a u e _ => ?_, fun a f => .inl f, fun a l => ?_, fun a e => ?_⟩
 ·show upd s.H p o a = some u
  rw [upd_ne (ne_of_none e h)]; exact e
 ·rcases live_addL R l with l | l
  ·exact .inl l
  ·exact .inr (by rw [l]; exact h)
 ·show upd s.H p o a ≠ none
  by_cases q : a = p
  ·rw [q, upd_same]; intro z; cases z
  ·rw [upd_ne q]; exact e
theorem rel_addL (R : Rel K ω s) {p : Addr} {c : Cell} {o : HO} (h : s.H p = none) (ok : CellOk K ω s p c (some o)) : Rel K ω (s.addL p c o) := by
 have A := aft_addL (c := c) (o := o) R h
 have hp := R.fresh h
 refine ⟨by simp [S4.addL, R.len], ?_, fun a m => ?_, fun a f => A.trk a (R.ftrk a f), fun a l f => ?_, fun i d a e1 e2 => ?_⟩
 ·show (s.rho ++ [p]).Nodup
  refine List.nodup_append.mpr ⟨R.nd, by simp, fun a m b hb => ?_⟩
  simp at hb
  rintro rfl
  exact hp.1 (hb ▸ m)
 ·have m : a ∈ s.rho ++ [p] := m
  rcases List.mem_append.mp m with m | m
  ·exact A.trk a (R.trk a m)
  ·simp at m
   show upd s.H p o a ≠ none
   rw [m, upd_same]; intro z; cases z
 ·rcases live_addL R l with l | l
  ·exact R.fz a l f
  ·exact hp.2 (l ▸ f)
 ·have e1 : (s.hp ++ [some c])[i]? = some (some d) := e1
  have e2 : (s.rho ++ [p])[i]? = some a := e2
  show CellOk K ω (s.addL p c o) a d (upd s.H p o a)
  by_cases hi : i < s.hp.length
  ·rw [List.getElem?_append_left hi] at e1
   rw [List.getElem?_append_left (by rw [R.len]; exact hi)] at e2
   have ne : a ≠ p := fun z => R.liveH e1 e2 (by rw [z]; exact h)
   rw [upd_ne ne]
   exact (R.cell i d a e1 e2).aft A R
  ·have h0 : i = s.hp.length := by
    have := (List.getElem?_eq_some_iff.mp e1).1
    simp at this
    omega
   subst h0
   simp at e1
   rw [List.getElem?_append_right Ydc, R.len] at e2
   simp at e2
   subst e1 e2
   rw [upd_same]
   exact ok.aft A R
theorem addL_r (R : Rel K ω s) {p : Addr} {c : Cell} {o : HO} : Rw K (s.addL p c o) (.r s.hp.length) (.ref p) :=
 ⟨p, by show (s.rho ++ [p])[s.hp.length]? = some p; rw [List.getElem?_append_right Ydc, R.len]; simp, rfl⟩
/-- a live cell is changed -/
def S4.setL (s : S4) (i : Nat) (a : Addr) (c : Cell) (o : HO) : S4 := ⟨s.rho, s.fz, s.hp.set i (some c), upd s.H a o⟩
theorem live_setL {i : Nat} {a b : Addr} {c c0 : Cell} {o : HO} (h0 : s.hp[i]? = some (some c0)) (l : Live (s.setL i a c o) b) (hv : c0.alive := by exact True.intro) : Live s b := by
 obtain ⟨j, d, ⟨e1, al⟩, e2⟩ := l
 have e1 : (s.hp.set i (some c))[j]? = some (some d) := e1
 by_cases hj : i = j
 ·subst hj
  exact ⟨i, c0, ⟨h0, hv⟩, e2⟩
 ·rw [List.getElem?_set_ne hj] at e1
  exact ⟨j, d, ⟨e1, al⟩, e2⟩
theorem aft_setL (R : Rel K ω s) {i : Nat} {a : Addr} {c c0 : Cell} {o : HO} (h0 : s.hp[i]? = some (some c0)) (ha : s.rho[i]? = some a) (hv : c0.alive := by exact True.intro) : Aft s (s.setL i a c o) := by
 refine ⟨⟨[], by simp [S4.setL], by simp⟩, fun _ f => f, fun b u e nl => ?_, fun _ f => .inl f, fun b l => .inl (live_setL h0 l hv), fun b e => ?_⟩
 ·show upd s.H a o b = some u
  rw [upd_ne (fun z => nl (by rw [z]; exact ⟨i, c0, ⟨h0, hv⟩, ha⟩))]; exact e
 ·show upd s.H a o b ≠ none
  by_cases q : b = a
  ·rw [q, upd_same]; intro z; cases z
  ·rw [upd_ne q]; exact e
theorem rel_setL (R : Rel K ω s) {i : Nat} {a : Addr} {c c0 : Cell} {o : HO} (h0 : s.hp[i]? = some (some c0)) (ha : s.rho[i]? = some a) (ok : CellOk K ω s a c (some o)) (hv : c0.alive := by exact True.intro) : Rel K ω (s.setL i a c o) := by
 have A := aft_setL (c := c) (o := o) R h0 ha hv
 refine ⟨by simp [S4.setL, R.len], R.nd, fun b m => A.trk b (R.trk b m), fun b f => A.trk b (R.ftrk b f), fun b l f => R.fz b (live_setL h0 l hv) f, fun j d b e1 e2 => ?_⟩
 have e1 : (s.hp.set i (some c))[j]? = some (some d) := e1
 show CellOk K ω (s.setL i a c o) b d (upd s.H a o b)
 by_cases hj : i = j
 ·subst hj
  have e2 : s.rho[i]? = some b := e2
  rw [ha] at e2; cases e2
  rw [List.getElem?_set_self (List.getElem?_eq_some_iff.mp h0).1] at e1
  cases e1
  rw [upd_same]
  exact ok.aft A R
 ·rw [List.getElem?_set_ne hj] at e1
  have e2 : s.rho[j]? = some b := e2
  have ne : b ≠ a := fun z => by
   subst z
   exact hj ((List.getElem?_inj (List.getElem?_eq_some_iff.mp ha).1 R.nd).mp (ha.trans e2.symm))
  rw [upd_ne ne]
  exact (R.cell j d b e1 e2).aft A R
/-- a live cell is frozen -/
def S4.frz (s : S4) (i : Nat) (a : Addr) : S4 := ⟨s.rho, fun b => s.fz b ∨ b = a, s.hp.set i none, s.H⟩
theorem live_frz (R : Rel K ω s) {i : Nat} {a b : Addr} (ha : s.rho[i]? = some a) (l : Live (s.frz i a) b) : Live s b ∧ b ≠ a := by
 obtain ⟨j, d, ⟨e1, al⟩, e2⟩ := l
 have e1 : (s.hp.set i none)[j]? = some (some d) := e1
 have e2 : s.rho[j]? = some b := e2
 by_cases hj : i = j
 ·subst hj
  by_cases hl : i < s.hp.length
  ·rw [List.getElem?_set_self hl] at e1; cases e1
  ·rw [List.getElem?_eq_none Yft] at e1; cases e1
 ·rw [List.getElem?_set_ne hj] at e1
  refine ⟨⟨j, d, ⟨e1, al⟩, e2⟩, fun z => ?_⟩
  subst z
  exact hj ((List.getElem?_inj (List.getElem?_eq_some_iff.mp ha).1 R.nd).mp (ha.trans e2.symm))
theorem aft_frz (R : Rel K ω s) {i : Nat} {a : Addr} {c0 : Cell} (h0 : s.hp[i]? = some (some c0)) (ha : s.rho[i]? = some a) (hv : c0.alive := by exact True.intro) : Aft s (s.frz i a) := by
 refine ⟨⟨[], by simp [S4.frz], by simp⟩, fun _ f => .inl f, fun b u e nl => e, fun b f => ?_, fun b l => .inl (live_frz R ha l).1, fun b e => e⟩
 rcases f with f | f
 ·exact .inl f
 ·exact .inr (.inr (by rw [f]; exact ⟨i, c0, ⟨h0, hv⟩, ha⟩))
theorem rel_frz (R : Rel K ω s) {i : Nat} {a : Addr} {c0 : Cell} (h0 : s.hp[i]? = some (some c0)) (ha : s.rho[i]? = some a) (hv : c0.alive := by exact True.intro) : Rel K ω (s.frz i a) := by
 have A := aft_frz R h0 ha hv
 refine ⟨by simp [S4.frz, R.len], R.nd, R.trk, fun b f => ?_, fun b l f => ?_, fun j d b e1 e2 => ?_⟩
 ·rcases f with f | f
  ·exact R.ftrk b f
  ·rw [f]; exact R.liveH h0 ha
 ·obtain ⟨l1, ne⟩ := live_frz R ha l
  rcases f with f | f
  ·exact R.fz b l1 f
  ·exact ne f
 ·have e1 : (s.hp.set i none)[j]? = some (some d) := e1
  by_cases hj : i = j
  ·subst hj
   rw [List.getElem?_set_self (List.getElem?_eq_some_iff.mp h0).1] at e1; cases e1
  ·rw [List.getElem?_set_ne hj] at e1
   exact (R.cell j d b e1 e2).aft A R
end
/-- a live list of trees becomes a tree -/
def zb4 (w : W) (hp : IH) : Res W := match w with
 | .t x => .ok (.t x) hp
 | .r i => match (getL hp i).bind allT with
  | some ts => .ok Yad (hp.set i none)
  | none => .bad
def mFrz (F : M W) : M W := fun eta hp => (F eta hp).bind fun a h1 => zb4 a h1
section
variable {X : Cx} {Wx : WX} {e : Expr} {es : List Expr} {F : M W} {Fs : M (List W)} {pos : Pos}
def za4 (ws : List W) (hp : IH) : Res W := match allT ws with
 | some ts => if ts.length ≤ 16777216 then .ok Yaw hp else .bad
 | none => .bad
def zap (ws : List W) (hp : IH) : Res W := match allT ws with
 | some ts => if ts.length ≤ 16777216 then .ok Yad hp else .bad
 | none => .bad
def newL (ws : List W) (hp : IH) : Res W := if ws.length ≤ 16777216 then .ok Ycs (hp ++ [some Yb3]) else .bad
section
variable {K : PySem.W.Frag} {ω : World} {s : S4} {ws : List W} {vs : List V} {Q : VK}
theorem go_tup (R : Rel K ω s) (r : RwL K s ws vs) (g : Go K ω Wx (Rw K) s (za4 ws s.hp) Q) : vs.length ≤ sizeLine ∧ ∀ (p : Addr) (o : Obj), s.H p = none → o.dict = none → Q (.ref p) (upd s.H p (.frz o (.tup vs))) := by
 unfold za4 at g
 split at g
 ·rename_i ts ht
  split at g
  ·rename_i hz
   rw [zbu ht] at r
   refine ⟨by rw [← RwL.length r, List.length_map, sizeLine_eq]; exact hz, fun p o hp d => g (.ref p) (s.addF p (.frz o (.tup vs))) rfl (za0 R hp) (za8 R hp) (addF_tup R hp d (RwL.of_trees.mp r))⟩
  ·exact g.elim
 ·exact g.elim
theorem go_lst (R : Rel K ω s) (r : RwL K s ws vs) (g : Go K ω Wx (Rw K) s (zap ws s.hp) Q) : vs.length ≤ sizeLine ∧ ∀ p, s.H p = none → Q (.ref p) (upd s.H p Yfm) := by
 unfold zap at g
 split at g
 ·rename_i ts ht
  split at g
  ·rename_i hz
   rw [zbu ht] at r
   refine ⟨by rw [← RwL.length r, List.length_map, sizeLine_eq]; exact hz, fun p hp => g (.ref p) (s.addF p Yfm) rfl (za0 R hp) (za8 R hp) (zbq R hp (RwL.of_trees.mp r))⟩
  ·exact g.elim
 ·exact g.elim
theorem go_newL (R : Rel K ω s) (r : RwL K s ws vs) (g : Go K ω Wx (Rw K) s (newL ws s.hp) Q) : vs.length ≤ sizeLine ∧ ∀ p, s.H p = none → Q (.ref p) (upd s.H p Yfm) := by
 unfold newL at g
 split at g
 ·rename_i hz
  refine ⟨by rw [← RwL.length r, sizeLine_eq]; exact hz, fun p hp => g (.ref p) (s.addL p Yb3 Yfm) rfl (aft_addL R hp) (rel_addL R hp ⟨vs, rfl, r⟩) (addL_r R)⟩
 ·exact g.elim
end
/-- a tuple laid, its object known to have no dict -/
def tTupS (t : TA) : TE := fun σ H Q => t σ H fun xs H1 => xs.length ≤ sizeLine ∧ ∀ (p : Addr) (o : Obj), H1 p = none → o.dict = none → Q (.ref p) (upd H1 p (.frz o (.tup xs)))
theorem laid_tup {pins : List Ybt} {σ : St} {H : Hp} {s : Shared} {xs : List V} {us : List Value} {t' : Nat} {Q : VK} (I : Inv X pins σ H s) (r : Vals xs us) (z : xs.length ≤ sizeLine)
  (q : ∀ (p : Addr) (o : Obj), H p = none → o.dict = none → Q (.ref p) (upd H p (.frz o (.tup xs)))) : EP X pins σ Q Yc9 { s with heap := s.heap.push { cls := .type "tuple", data := .seq us.toArray }, toks := t' } := by
 refine ⟨.ref s.heap.objs.size, _, I.laid (t' := t') (o := .frz { cls := .type "tuple", data := .seq us.toArray } (.tup xs)) (fun b u e => Heap.get?_push_of_some _ e) Yf4 ?_, rfl, q _ _ I.fresh rfl⟩
 exact ⟨Heap.get?_push_size _ rfl, z, us, r, ⟨_, Heap.get?_push_size _ rfl, rfl, _, rfl⟩⟩
theorem pe_tupS {x1} {t : TA} (h : PA X es t) : PE X (.Tuple es x1 pos) (tTupS t) := by
 refine ⟨fun pn s0 σ H Q J hq => ?_⟩
 refine wpAny_Tuple_spliced (thn (h.run pos pn s0 σ H _ J hq) fun us s1 w => ?_)
 obtain ⟨xs, H1, J1, r, z, q⟩ := w
 exact ⟨by rw [← r.length]; exact z, laid_tup (t' := s1.toks) J1 r z q⟩
theorem zaz {x1} (h : IA X Wx es Fs) : IE X Wx (.Tuple es x1 pos) (mApp za4 Fs) := PE.imp (pe_tupS h) fun σ H Q h =>
 tM.bind1 (R := fun (xs : List V) (H1 : Hp) => xs.length ≤ sizeLine ∧ ∀ (p : Addr) (o : Obj), H1 p = none → o.dict = none → Q (.ref p) (upd H1 p (.frz o (.tup xs)))) (k := fun (a : List W) _ hp => za4 a hp) h fun s eta a b R1 _ f1 g => go_tup R1 f1 g
theorem zaw (h : IA X Wx es Fs) : IE X Wx (.List es pos) (mApp zap Fs) := PE.imp (pe_lst h) fun σ H Q h =>
 tM.bind1 (R := fun (xs : List V) (H1 : Hp) => xs.length ≤ sizeLine ∧ ∀ p, H1 p = none → Q (.ref p) (upd H1 p Ye2)) (k := fun (a : List W) _ hp => zap a hp) h fun s eta a b R1 _ f1 g => go_lst R1 f1 g
theorem ie_lstL (h : IA X Wx es Fs) : IE X Wx (.List es pos) (mApp newL Fs) := PE.imp (pe_lst h) fun σ H Q h =>
 tM.bind1 (R := fun (xs : List V) (H1 : Hp) => xs.length ≤ sizeLine ∧ ∀ p, H1 p = none → Q (.ref p) (upd H1 p Ye2)) (k := fun (a : List W) _ hp => newL a hp) h fun s eta a b R1 _ f1 g => go_newL R1 f1 g
end
def asB (w : W) (hp : IH) : Res Bool := match w with
 | .t (.bl b) => .ok b hp
 | _ => .bad
/-- a value's truth -/
def truW (w : W) (hp : IH) : Res Bool := match w with
 | .t .non => .ok false hp
 | .t (.bl b) => .ok b hp
 | .t (.int i) => .ok (i != 0) hp
 | .t (.str s) => if s.length ≤ 16777216 then .ok ((s.length : Int) != 0) hp else .bad
 | w => match items hp w with
  | some ws => .ok (!ws.isEmpty) hp
  | none => .bad
def zal (f : W → IH → Res Bool) (F : M W) : M Bool := fun eta hp => (F eta hp).bind fun a h1 => f a h1
def mAnd (A B : M Bool) : M Bool := fun eta hp => (A eta hp).bind fun a h1 => if a then B eta h1 else .ok false h1
def mOr (A B : M Bool) : M Bool := fun eta hp => (A eta hp).bind fun a h1 => if a then .ok true h1 else B eta h1
def mNot (A : M Bool) : M Bool := fun eta hp => (A eta hp).bind fun a h1 => .ok (!a) h1
def mIf {A : Type} (T : M Bool) (F G : M A) : M A := fun eta hp => (T eta hp).bind fun b h1 => if b then F eta h1 else G eta h1
section
variable {X : Cx} {Wx : WX} {a b c e : Expr} {rest : List Expr} {Fa Fb Fc F : M W} {A B : M Bool} {pos : Pos}
theorem go_asB {K : PySem.W.Frag} {ω : World} {s : S4} {w : W} {v : V} {Q : Bool → Hp → Prop} (R : Rel K ω s) (r : Rw K s w v) (g : Go K ω Wx Yel s (asB w s.hp) Q) : ∃ k, v = .bl k ∧ Q k s.H := by
 unfold asB at g
 split at g
 ·rename_i k
  simp only [Rw, Rf] at r
  exact ⟨k, r, g k s rfl Ye R rfl⟩
 ·exact g.elim
theorem it_cmp {op : CmpOp} {f : Op2} {r : R2} (ho : OpR X (compareOp op) r) (hf : zcp X.K X.w Wx f r) (ha : IE X Wx a Fa) (hb : IE X Wx b Fb) (hm : behindInMarks op b = false) : IT X Wx (.Compare a [op] [b] pos) (zal asB (mBin f Fa Fb)) :=
 PT.imp (pt_cmpR ho ha hb hm) fun σ H Q h => by
  have h' : tE X.K X.w Wx (mBin f Fa Fb) σ H (fun x H1 => ∃ k, x = .bl k ∧ Q k H1) := tM.bind1 (R := fun (x : V) (H1 : Hp) => ∃ k, x = .bl k ∧ Q k H1) (k := fun (a : W) _ hp => asB a hp) h fun s eta a b R1 _ f1 g => go_asB R1 f1 g
  exact t_bin hf σ H _ h'
theorem items_at {K : PySem.W.Frag} {ω : World} {s : S4} (R : Rel K ω s) {w : W} {v : V} {ws : List W} (h : items s.hp w = some ws) (r : Rw K s w v) : ∃ p xs, v = .ref p ∧ ((SqL K s.H p xs) ∨ SqT K s.H p xs) ∧ RwL K s ws xs := by
 obtain ⟨p, xs, e, q, l⟩ := items_sq R h r
 exact ⟨p, xs, e, q.symm, l⟩
theorem go_tru {K : PySem.W.Frag} {ω : World} {s : S4} {w : W} {v : V} {Q : Bool → Hp → Prop} (R : Rel K ω s) (r : Rw K s w v) (g : Go K ω Wx Yel s (truW w s.hp) Q) : ∃ k, TruV K v s.H k ∧ Q k s.H := by
 have fin : ∀ {k : Bool}, Go K ω Wx Yel s (.ok k s.hp) Q → Q k s.H := fun g => g _ s rfl Ye R rfl
 have seq : (match items s.hp w with | some ws => Res.ok (!ws.isEmpty) s.hp | none => .bad : Res Bool) = truW w s.hp → ∃ k, TruV K v s.H k ∧ Q k s.H := fun e => by
  rw [← e] at g
  cases hi : items s.hp w with
  | none => simp only [hi] at g; exact g.elim
  | some ws =>
   simp only [hi] at g
   obtain ⟨p, xs, ev, q, l⟩ := items_at R hi r
   subst ev
   have em : ws.isEmpty = xs.isEmpty := by
    have := RwL.length l
    cases ws <;> cases xs <;> simp_all
   refine ⟨!ws.isEmpty, ?_, fin g⟩
   rcases q with q | q
   ·exact .inl ⟨xs, q, by rw [em]⟩
   ·exact .inr (.inl ⟨xs, q, by rw [em]⟩)
 cases w with
 | r i => exact seq rfl
 | t x =>
  cases x with
  | non => simp only [Rw, Rf] at r; subst r; exact ⟨false, rfl, fin g⟩
  | bl b => simp only [Rw, Rf] at r; subst r; exact ⟨b, rfl, fin g⟩
  | int i => simp only [Rw, Rf] at r; subst r; exact ⟨_, rfl, fin g⟩
  | str z =>
   simp only [Rw, Rf] at r; subst r
   simp only [truW] at g
   split at g
   ·rename_i hz
    exact ⟨_, ⟨by rw [sizeLine_eq]; exact hz, rfl⟩, fin g⟩
   ·exact g.elim
  | _ => exact seq rfl
theorem zbo (h : IE X Wx e F) (he : ∀ whole, isTrue e X.env whole = (do let v ← whole; standAt e.pos; holding [v] (truthy v)) := by intro _; rfl) : IT X Wx e (zal truW F) := by
 refine PT.imp (pt_truth h he) fun σ H Q h => ?_
 exact tM.bind1 (R := fun (x : V) (H1 : Hp) => ∃ k, TruV X.K x H1 k ∧ Q k H1) (k := fun (a : W) _ hp => truW a hp) h fun s eta a b R1 _ f1 g => go_tru R1 f1 g
def IW (X : Cx) (Wx : WX) (e : Expr) (F : M Bool) : Prop := PW X e (tT X.K X.w Wx F)
theorem IW.it (h : IW X Wx e A) : IT X Wx e A := PW.pt h
theorem iw_and1 (ha : IT X Wx a A) : IW X Wx (.BoolOp .And [a] pos) A := pw_and1 ha
theorem zc1 (ha : IT X Wx a A) : IW X Wx (.BoolOp .Or [a] pos) A := pw_or1 ha
theorem t_cond {R : Bool → Hp → Prop} {C D : Type} {K : PySem.W.Frag} {ω : World} {Gam : S4 → C → D → Prop} {k : Bool → IS → IH → Res C} {σ : St} {H : Hp} {Q : D → Hp → Prop}
  (h : tM K ω Wx Gam (fun eta hp => (A eta hp).bind fun b h1 => k b eta h1) σ H Q) (n : ∀ (s : S4) (eta : IS) (b : Bool), Rel K ω s → Sl K s eta σ → Go K ω Wx Gam s (k b eta s.hp) Q → R b s.H) : tT K ω Wx A σ H R :=
 tM.bind1 (R := R) h fun s eta a b R1 S1 f1 g => by subst f1; exact n s eta a R1 S1 g
theorem iw_and (ha : IT X Wx a A) (hb : IW X Wx (.BoolOp .And (b :: rest) pos) B) : IW X Wx (.BoolOp .And (a :: b :: rest) pos) (mAnd A B) :=
 PW.imp (pw_and ha hb) fun σ H Q h => t_cond (R := fun c H1 => if c = true then tT X.K X.w Wx B σ H1 Q else Q false H1) (k := fun a eta h1 => if a then B eta h1 else .ok false h1) h fun s eta b R1 S1 g => by
  cases b with
  | true => exact ⟨s, eta, rfl, R1, S1, g⟩
  | false => exact g false s rfl Ye R1 rfl
theorem iw_or (ha : IT X Wx a A) (hb : IW X Wx (.BoolOp .Or (b :: rest) pos) B) : IW X Wx (.BoolOp .Or (a :: b :: rest) pos) (mOr A B) :=
 PW.imp (pw_or ha hb) fun σ H Q h => t_cond (R := fun c H1 => if c = true then Q true H1 else tT X.K X.w Wx B σ H1 Q) (k := fun a eta h1 => if a then .ok true h1 else B eta h1) h fun s eta b R1 S1 g => by
  cases b with
  | true => exact g true s rfl Ye R1 rfl
  | false => exact ⟨s, eta, rfl, R1, S1, g⟩
theorem zbk (ha : IT X Wx a A) : IT X Wx (.UnaryOp .Not a pos) (mNot A) :=
 PT.imp (pt_not ha) fun σ H Q h => t_cond (R := fun c H1 => Q (!c) H1) (k := fun a eta h1 => .ok (!a) h1) h fun s eta b R1 S1 g => g (!b) s rfl Ye R1 rfl
theorem ie_if (hc : IT X Wx c A) (ha : IE X Wx a Fa) (hb : IE X Wx b Fb) : IE X Wx (.IfExp c a b pos) (mIf A Fa Fb) :=
 PE.imp (pe_ifExp hc ha hb) fun σ H Q h => t_cond (R := fun c H1 => if c = true then tE X.K X.w Wx Fa σ H1 Q else tE X.K X.w Wx Fb σ H1 Q) (k := fun b eta h1 => if b then Fa eta h1 else Fb eta h1) h fun s eta b R1 S1 g => by
  cases b with
  | true => exact ⟨s, eta, rfl, R1, S1, g⟩
  | false => exact ⟨s, eta, rfl, R1, S1, g⟩
/-- bools as values: and, or, not (all but the last a bool) -/
def mAndV (Fa Fb : M W) : M W := fun eta hp => (Fa eta hp).bind fun a h1 => match a with | .t (.bl true) => Fb eta h1 | .t (.bl false) => .ok (.t Yeg) h1 | _ => .bad
def mOrV (Fa Fb : M W) : M W := fun eta hp => (Fa eta hp).bind fun a h1 => match a with | .t (.bl true) => .ok (.t Ye9) h1 | .t (.bl false) => Fb eta h1 | _ => .bad
def mNotV (Fa : M W) : M W := fun eta hp => (Fa eta hp).bind fun a h1 => match a with | .t (.bl b) => .ok (.t (.bl (!b))) h1 | _ => .bad
theorem ie_one {op} (h : IE X Wx a F) : IE X Wx (.BoolOp op [a] pos) F := pe_one h
theorem ie_and (ha : IE X Wx a Fa) (hb : IE X Wx (.BoolOp .And (b :: rest) pos) Fb) : IE X Wx (.BoolOp .And (a :: b :: rest) pos) (mAndV Fa Fb) :=
 PE.imp (pe_and ha hb) fun σ H Q h => tM.bind1 (R := fun (x : V) (H1 : Hp) => ∃ c, x = .bl c ∧ if c = true then tE X.K X.w Wx Fb σ H1 Q else Q Yeg H1)
  (k := fun (a : W) eta h1 => match a with | .t (.bl true) => Fb eta h1 | .t (.bl false) => .ok (.t Yeg) h1 | _ => .bad) h fun s eta a b R1 S1 f1 g => by
  split at g
  ·simp only [Rw, Rf] at f1; exact ⟨true, f1, by rw [if_pos rfl]; exact ⟨s, eta, rfl, R1, S1, g⟩⟩
  ·simp only [Rw, Rf] at f1; exact ⟨false, f1, by rw [if_neg Bool.false_ne_true]; exact g Yeg s rfl Ye R1 Yd⟩
  ·exact g.elim
theorem ie_not (ha : IE X Wx a Fa) : IE X Wx (.UnaryOp .Not a pos) (mNotV Fa) :=
 PE.imp (pe_not ha) fun σ H Q h => tM.bind1 (R := fun (x : V) (H1 : Hp) => ∃ c, x = .bl c ∧ Q (.bl (!c)) H1)
  (k := fun (a : W) _ h1 => (match a with | .t (.bl b) => .ok (W.t (.bl (!b))) h1 | _ => .bad : Res W)) h fun s eta a b R1 S1 f1 g => by
  split at g
  ·rename_i c
   simp only [Rw, Rf] at f1; exact ⟨c, f1, g (.bl (!c)) s rfl Ye R1 Yd⟩
  ·exact g.elim
/-- a < b <= c -/
def mChain (f f' : Op2) (Fa Fb Fc : M W) : M W := fun eta hp => (Fa eta hp).bind fun a h1 => (Fb eta h1).bind fun b h2 => (f a b h2).bind fun z h3 => match z with
 | .t (.bl true) => (Fc eta h3).bind fun c h4 => f' b c h4
 | .t (.bl false) => .ok (.t Yeg) h3
 | _ => .bad
end
end Mir
namespace Mir
open PySem PySem.Spec L2
open PyProof.Rows hiding St
inductive Kd where | l | t
def Sq (K : PySem.W.Frag) (H : Hp) : Kd → Addr → List V → Prop
 | .l => SqL K H
 | .t => SqT K H
def IterH (h : Heap) : Kd → Addr → Addr → Nat → Prop
 | .l => h.IsListIter
 | .t => h.IsTupleIter
def SeqH (h : Heap) : Kd → Addr → Array Value → Prop
 | .l => h.IsList
 | .t => h.IsTuple
def iterO (kd : Kd) (a : Addr) : Obj := match kd with
 | .l => { cls := .type "list_iterator", data := .fields #[.ref a, .int 0 0] }
 | .t => { cls := .type "tuple_iterator", data := .fields #[.ref a, .int 0 0] }
section
variable {X : Cx} {pins : List Ybt} {σ : L2.St} {H : Hp} {s : Shared}
theorem Inv_sq (I : Inv X pins σ H s) {kd : Kd} {a : Addr} {xs : List V} (h : Sq X.K H kd a xs) : ∃ its : List Value, Vals xs its ∧ SeqH s.heap kd a its.toArray := by
 cases kd with
 | l => obtain ⟨its, r, p, _⟩ := I.list h; exact ⟨its, r, p.isList⟩
 | t => obtain ⟨its, r, p, _⟩ := I.tuple h; exact ⟨its, r, p⟩
end
theorem SeqH.lt {h : Heap} {kd : Kd} {a : Addr} {its : Array Value} (x : SeqH h kd a its) : a < h.objs.size := by
 cases kd with
 | l => obtain ⟨o, e, _⟩ := x; exact Heap.lt_size e
 | t => obtain ⟨o, e, _⟩ := x; exact Heap.lt_size e
theorem IterH.lt {h : Heap} {kd : Kd} {it a : Addr} {i : Nat} (x : IterH h kd it a i) : it < h.objs.size := by
 cases kd with
 | l => obtain ⟨o, e, _⟩ := x; exact Heap.lt_size e
 | t => obtain ⟨o, e, _⟩ := x; exact Heap.lt_size e
theorem IterH.ob {h : Heap} {kd : Kd} {it a : Addr} {i : Nat} (x : IterH h kd it a i) : ∃ o, h.get? it = some o ∧ ∀ v, o.data ≠ .cell v := by
 cases kd with
 | l => obtain ⟨o, e, _, d⟩ := x; exact ⟨o, e, fun v z => by rw [d] at z; cases z⟩
 | t => obtain ⟨o, e, _, d⟩ := x; exact ⟨o, e, fun v z => by rw [d] at z; cases z⟩
theorem IterH.at_ {h h' : Heap} {kd : Kd} {it a : Addr} {i : Nat} (x : IterH h kd it a i) (k : ∀ o, h.get? it = some o → h'.get? it = some o) : IterH h' kd it a i := by
 cases kd with
 | l => exact Heap.IsListIter.at x k
 | t => exact Heap.IsTupleIter.at x k
theorem IterH.new {h : Heap} {kd : Kd} {it a : Addr} (e : h.get? it = some (iterO kd a)) : IterH h kd it a 0 := by
 cases kd with
 | l => exact ⟨_, e, rfl, rfl⟩
 | t => exact ⟨_, e, rfl, rfl⟩
theorem begins_sq (kd : Kd) (a : Addr) (its : Array Value) : Begins (.ref a) (iterO kd a) fun h => SeqH h kd a its := by
 cases kd with
 | l => exact begins_list a its
 | t => exact begins_tuple a its
def ItQ (K : PySem.W.Frag) (kd : Kd) (a : Addr) : It := match kd with | .l => Itl K a | .t => Itt K a
def iSq (K : PySem.W.Frag) (te : TE) : TI := fun σ H R => te σ H fun x H1 => ∃ kd a xs, x = .ref a ∧ Sq K H1 kd a xs ∧ R (ItQ K kd a) H1
theorem pi_sq {X : Cx} {tg e : Expr} {te : TE} (he : PE X e te) : PI X tg e (iSq X.K te) := ⟨fun pins s σ H R I h => by
 refine thn (he.run pins s σ H _ I h) ?_
 rintro v s1 ⟨x, H1, I1, r1, kd, a, xs, ex, hq, q⟩
 subst ex
 obtain rfl : v = Value.ref a := r1
 obtain ⟨its, rv, p⟩ := Inv_sq I1 hq
 have I2 : Inv X pins σ H1 { s1 with heap := s1.heap.push (iterO kd a) } := I1.kept (t' := s1.toks) fun b o e => Heap.get?_push_of_some _ e
 have fp : ∀ b ∈ [s1.heap.objs.size], FpOk X pins H1 b := fun b hb => by
  obtain rfl : b = s1.heap.objs.size := by simpa using hb
  exact I1.fpOk Yf4 (I1.hok.fresh Yf4)
 have hn : IterH (s1.heap.push (iterO kd a)) kd s1.heap.objs.size a 0 := IterH.new (Heap.get?_push_size _ (by cases kd <;> rfl))
 refine (begins_sq kd a its.toArray).iter _ _ _ _ _ _ p ?_
 cases kd with
 | l => exact ⟨s1.heap.objs.size, [s1.heap.objs.size], _, _, H1, rfl, I2, turn_list a _, hn, fp, q⟩
 | t => exact ⟨s1.heap.objs.size, [s1.heap.objs.size], _, _, H1, rfl, I2, turn_tuple a _, hn, fp, q⟩⟩
end Mir
namespace Mir
open PySem PySem.Spec L2
open PyProof.Rows hiding St
inductive Fl where
 | nx (eta : IS) | rt (w : W) | bk (eta : IS) | ct (eta : IS)
inductive FlV where
 | nx (o : St) | rt (v : V) | bk (o : St) | ct (o : St)
def RFl (K : PySem.W.Frag) (s : S4) : Fl → FlV → Prop
 | .nx eta, .nx o => Sl K s eta o
 | .rt w, .rt v => Rw K s w v
 | .bk eta, .bk o => Sl K s eta o
 | .ct eta, .ct o => Sl K s eta o
 | _, _ => False
def endQ (D : Ends) : FlV → Hp → Prop
 | .nx o, H => D.nx o H
 | .rt v, H => D.rt v H
 | .bk o, H => D.bk o H
 | .ct o, H => D.ct o H
abbrev tS (K : PySem.W.Frag) (ω : World) (Wx : WX) (F : M Fl) : TS := fun D σ H => tM K ω Wx (RFl K) F σ H (endQ D)
def ISt (X : Cx) (Wx : WX) (st : Stmt) (F : M Fl) : Prop := PS X st (tS X.K X.w Wx F)
def ISs (X : Cx) (Wx : WX) (st : List Stmt) (F : M Fl) : Prop := PSs X st (tS X.K X.w Wx F)
theorem Res.bind_assoc {A B C : Type} (r : Res A) (k : A → IH → Res B) (k' : B → IH → Res C) : (r.bind k).bind k' = r.bind fun a h => (k a h).bind k' := by cases r <;> rfl
def zbc : M Fl := fun eta hp => .ok Ydi hp
def thenF (B : M Fl) (f : Fl) (hp : IH) : Res Fl := match f with
 | .nx eta => B eta hp
 | f => .ok f hp
def mSeq (A B : M Fl) : M Fl := fun eta hp => (A eta hp).bind (thenF B)
def mRet (F : M W) : M Fl := fun eta hp => (F eta hp).bind fun a h1 => .ok (.rt a) h1
def mRetN : M Fl := fun _ hp => .ok (.rt Ydj) hp
def mDrop (F : M W) : M Fl := fun eta hp => (F eta hp).bind fun _ h1 => .ok Ydi h1
def mBrk : M Fl := fun eta hp => .ok (.bk eta) hp
def mCnt : M Fl := fun eta hp => .ok (.ct eta) hp
section
variable {K : PySem.W.Frag} {ω : World} {Wx : WX} {s : S4} {D : Ends}
theorem Go.nx {eta : IS} {σ : St} (R : Rel K ω s) (S : Sl K s eta σ) (g : Go K ω Wx (RFl K) s (.ok Ydi s.hp) (endQ D)) : D.nx σ s.H := g (.nx σ) s rfl Ye R S
theorem Go.ct {eta : IS} {σ : St} (R : Rel K ω s) (S : Sl K s eta σ) (g : Go K ω Wx (RFl K) s (.ok (.ct eta) s.hp) (endQ D)) : D.ct σ s.H := g (.ct σ) s rfl Ye R S
theorem Go.bk {eta : IS} {σ : St} (R : Rel K ω s) (S : Sl K s eta σ) (g : Go K ω Wx (RFl K) s (.ok (.bk eta) s.hp) (endQ D)) : D.bk σ s.H := g (.bk σ) s rfl Ye R S
theorem Go.rt {w : W} {v : V} (R : Rel K ω s) (S : Rw K s w v) (g : Go K ω Wx (RFl K) s (.ok (.rt w) s.hp) (endQ D)) : D.rt v s.H := g (.rt v) s rfl Ye R S
end
section
variable {X : Cx} {Wx : WX} {st : Stmt} {rest sts sts' : List Stmt} {A B : M Fl} {e : Expr} {F : M W} {T : M Bool} {c : Expr} {pos : Pos}
theorem za1 : ISs X Wx [] zbc := PSs.imp pss_nil fun D σ H h => by
 obtain ⟨s, eta, e1, R1, S1, g⟩ := h
 subst e1
 exact Go.nx R1 S1 g
theorem zaf (h1 : ISt X Wx st A) (h2 : ISs X Wx rest B) : ISs X Wx (st :: rest) (mSeq A B) := PSs.imp (pss_cons h1 h2) fun D σ H h => by
 obtain ⟨s, eta, e1, R1, S1, g⟩ := h
 refine ⟨s, eta, e1, R1, S1, Go.bind g fun f fv s' A' R' f' _ g' => ?_⟩
 cases f <;> cases fv <;> first | exact f'.elim | skip
 ·exact ⟨s', _, rfl, R', f', g'⟩
 ·exact Go.rt (D := D) R' f' g'
 ·exact Go.bk (D := D) R' f' g'
 ·exact Go.ct (D := D) R' f' g'
theorem zai (h1 : ISt X Wx st A) : ISs X Wx [st] A := pss_one h1
theorem zar (he : IE X Wx e F) : ISt X Wx (.Return (some e) pos) (mRet F) := PS.imp (ps_ret he) fun D σ H h =>
 tM.bind1 (R := fun (x : V) (H1 : Hp) => D.rt x H1) (k := fun (a : W) _ hp => .ok (Fl.rt a) hp) h fun s eta a b R1 _ f1 g => Go.rt R1 f1 g
theorem st_expr (he : IE X Wx e F) (hs : swapsWith e none pos.line X.env = pure false := by rfl) : ISt X Wx (.Expr e pos) (mDrop F) := PS.imp (ps_expr he hs) fun D σ H h =>
 tM.bind1 (R := fun (x : V) (H1 : Hp) => D.nx σ H1) (k := fun (a : W) eta hp => .ok (Fl.nx eta) hp) h fun s eta a b R1 S1 f1 g => Go.nx R1 S1 g
theorem zbm (hc : IT X Wx c T) (ha : ISs X Wx sts A) (hb : ISs X Wx sts' B) : ISt X Wx (.If c sts sts' pos) (mIf T A B) := PS.imp (ps_if hc ha hb) fun D σ H h =>
 t_cond (R := fun (b : Bool) (H1 : Hp) => if b = true then tS X.K X.w Wx A D σ H1 else tS X.K X.w Wx B D σ H1) (k := fun b eta h1 => if b then A eta h1 else B eta h1) h fun s eta b R1 S1 g => by
  cases b with
  | true => exact ⟨s, eta, rfl, R1, S1, g⟩
  | false => exact ⟨s, eta, rfl, R1, S1, g⟩
end
structure TgOk (K : PySem.W.Frag) (ω : World) (g : TG) (G : W → IS → Option IS) (vs : List Nat) : Prop where
 run : ∀ (s : S4) (w : W) (v : V) (eta : IS) (σ : St) (eta' : IS), Rel K ω s → Rw K s w v → Sl K s eta σ → G w eta = some eta' →
  ∃ σ', Sl K s eta' σ' ∧ (∀ us : List Nat, (∀ i ∈ vs, i ∈ us) → wipe σ' us = wipe σ us) ∧ ∀ Q : St → Hp → Prop, Q σ' s.H → g v σ s.H Q
structure TgsOk (K : PySem.W.Frag) (ω : World) (g : TGs) (G : List W → IS → Option IS) (vs : List Nat) : Prop where
 run : ∀ (s : S4) (ws : List W) (xs : List V) (eta : IS) (σ : St) (eta' : IS), Rel K ω s → RwL K s ws xs → Sl K s eta σ → G ws eta = some eta' →
  ∃ σ', Sl K s eta' σ' ∧ (∀ us : List Nat, (∀ i ∈ vs, i ∈ us) → wipe σ' us = wipe σ us) ∧ ∀ Q : St → Hp → Prop, Q σ' s.H → g xs σ s.H Q
def gN (i : Nat) : W → IS → Option IS := fun w eta => some Yfg
theorem wipe_get {σ : St} {j : Nat} : ∀ {us : List Nat}, j ∉ us → (wipe σ us)[j]? = σ[j]?
 | [], _ => rfl
 | u :: us, h => by
  simp only [List.mem_cons, not_or] at h
  unfold wipe
  rw [List.getElem?_set_ne (Ne.symm h.1)]
  exact wipe_get h.2
theorem wipe_in {σ : St} {j : Nat} : ∀ {us : List Nat}, j ∈ us → j < σ.length → (wipe σ us)[j]? = some none
 | u :: us, h, hl => by
  unfold wipe
  by_cases e : u = j
  ·subst e
   rw [List.getElem?_set_self (by rw [wipe_length]; exact hl)]
  ·rw [List.getElem?_set_ne e]
   rcases List.mem_cons.mp h with h | h
   ·exact absurd h.symm e
   ·exact wipe_in h hl
theorem wipe_set {σ : St} {i : Nat} {x : Option V} {us : List Nat} (h : i ∈ us) : wipe (σ.set i x) us = wipe σ us := by
 apply List.ext_getElem?
 intro j
 by_cases hj : j ∈ us
 ·by_cases hl : j < σ.length
  ·rw [wipe_in hj Yft, wipe_in hj hl]
  ·rw [List.getElem?_eq_none Yfh, List.getElem?_eq_none Yfh]
 ·rw [wipe_get hj, wipe_get hj, List.getElem?_set_ne (fun e => hj (by rw [← e]; exact h))]
theorem zav {K : PySem.W.Frag} {ω : World} (i : Nat) : TgOk K ω (gName i) (gN i) [i] := ⟨fun s w v eta σ eta' R1 r S1 e => by
 simp only [gN, Option.some.injEq] at e
 subst e
 exact ⟨σ.set i (some v), S1.set i r, fun us h => wipe_set (h i Ycc), fun Q q => q⟩⟩
def gsN : List W → IS → Option IS := fun ws eta => match ws with | [] => some eta | _ :: _ => none
def gsC (G : W → IS → Option IS) (Gs : List W → IS → Option IS) : List W → IS → Option IS := fun ws eta => match ws with
 | [] => none
 | w :: ws => (G w eta).bind fun eta' => Gs ws eta'
def gT (n : Nat) (Gs : List W → IS → Option IS) : W → IS → Option IS := fun w eta => match w with
 | .t (.tup ts) => if ts.length = n then Gs Yv eta else none
 | .t (.pr ts) => if ts.length = n then Gs Yv eta else none
 | _ => none
theorem tgs_nil {K : PySem.W.Frag} {ω : World} : TgsOk K ω gNil gsN [] := ⟨fun s ws xs eta σ eta' R1 r S1 e => by
 cases ws with
 | nil =>
  simp only [gsN, Option.some.injEq] at e
  subst e
  exact ⟨σ, S1, fun _ _ => rfl, fun Q q => ⟨r, q⟩⟩
 | cons _ _ => simp [gsN] at e⟩
theorem tgs_cons {K : PySem.W.Frag} {ω : World} {g : TG} {gs : TGs} {G : W → IS → Option IS} {Gs : List W → IS → Option IS} {vs us : List Nat} (h1 : TgOk K ω g G vs) (h2 : TgsOk K ω gs Gs us) : TgsOk K ω (gCons g gs) (gsC G Gs) (vs ++ us) := ⟨fun s ws xs eta σ eta' R1 r S1 e => by
 cases ws with
 | nil => simp [gsC] at e
 | cons w ws =>
  simp only [gsC, Option.bind_eq_some_iff] at e
  obtain ⟨eta1, e1, e2⟩ := e
  obtain ⟨v, xr, ex, rv, rr⟩ := r
  obtain ⟨σ1, S2, w1, q1⟩ := h1.run s w v eta σ eta1 R1 rv S1 e1
  obtain ⟨σ2, S3, w2, q2⟩ := h2.run s ws xr eta1 σ1 eta' R1 rr S2 e2
  refine ⟨σ2, S3, fun u hu => ?_, fun Q q => ⟨v, xr, ex, q1 _ (q2 Q q)⟩⟩
  rw [w2 u fun i hi => hu i (List.mem_append_right _ hi), w1 u fun i hi => hu i (List.mem_append_left _ hi)]⟩
theorem tg_tup {K : PySem.W.Frag} {ω : World} {n : Nat} {gs : TGs} {Gs : List W → IS → Option IS} {vs : List Nat} (h : TgsOk K ω gs Gs vs) : TgOk K ω (gTup K n gs) (gT n Gs) vs := ⟨fun s w v eta σ eta' R1 r S1 e => by
 unfold gT at e
 split at e
 ·rename_i ts
  split at e
  ·rename_i hn
   obtain ⟨a, xs, ev, t, l⟩ : ∃ a vs, v = .ref a ∧ FTup K s.fz s.H a vs ∧ RfL K s.fz s.H ts vs := by simpa only [Rw, Rf] using r
   obtain ⟨σ', S2, w2, q2⟩ := h.run s Yv xs eta σ eta' R1 (RwL.of_trees.mpr l) S1 e
   exact ⟨σ', S2, w2, fun Q q => ⟨a, xs, ev, t.sq, by rw [← RfL.length l]; exact hn, q2 Q q⟩⟩
  ·cases e
 ·rename_i ts
  split at e
  ·rename_i hn
   obtain ⟨a, xs, ev, t, l⟩ : ∃ a vs, v = .ref a ∧ FPr s.fz s.H a vs ∧ RfL K s.fz s.H ts vs := by simpa only [Rw, Rf] using r
   obtain ⟨σ', S2, w2, q2⟩ := h.run s Yv xs eta σ eta' R1 (RwL.of_trees.mpr l) S1 e
   exact ⟨σ', S2, w2, fun Q q => ⟨a, xs, ev, t.sq, by rw [← RfL.length l]; exact hn, q2 Q q⟩⟩
  ·cases e
 ·cases e⟩
def mAsg (F : M W) (G : W → IS → Option IS) : M Fl := fun eta hp => (F eta hp).bind fun a h1 => match G a eta with | some e => .ok (.nx e) h1 | none => .bad
def mSet (i : Nat) (F : M W) : M Fl := fun eta hp => (F eta hp).bind fun a h1 => .ok (.nx Yfi) h1
section
variable {X : Cx} {Wx : WX} {e tg : Expr} {F : M W} {pos : Pos} {g : TG} {G : W → IS → Option IS} {vs : List Nat}
theorem za7 (i : Nat) {x : Str} {pos' : Pos} (hN : X.N.Nodup) (he : IE X Wx e F) (hi : X.N[i]? = some x := by rfl) (hx : Loc X.env.scope x := by first | exact Or.inl rfl | exact Or.inr rfl) (hs : swapsWith e (some (.Name x pos')) pos.line X.env = pure false := by rfl) (hf : X.fn x = true ∨ X.env.scope.names.lookup x = some .local := by first | exact .inl rfl | exact .inr rfl | assumption) :
  ISt X Wx (.Assign [.Name x pos'] e pos) (mSet i F) := PS.imp (ps_set hN hi hx he hs hf) fun D σ H h =>
 tM.bind1 (R := fun (y : V) (H1 : Hp) => D.nx (σ.set i (some y)) H1) (k := fun (a : W) eta hp => .ok (Fl.nx Yfi) hp) h fun s eta a b R1 S1 f1 g1 => Go.nx R1 (S1.set i f1) g1
end
/-- a, b = x, y: all sides first -/
def mPar (is : List Nat) (F : M (List W)) : M Fl := fun eta hp => (F eta hp).bind fun ws h1 => if ws.length = is.length then .ok (.nx ((is.zip ws).foldl Yf5 eta)) h1 else .bad
section
variable {X : Cx} {Wx : WX} {F : M (List W)} {pos : Pos}
theorem st_par2 {i j : Nat} {x y : Str} {a b : Expr} {px py pt : Pos} {kt k2 pt2} (hc : X.calm = true) (hN : X.N.Nodup) (ha : IA X Wx [a, b] F)
  (hw : swappedStores [.Tuple [.Name x px, .Name y py] kt pt] (.Tuple [a, b] k2 pt2) X.env = pure (some [x, y]) := by rfl) (hi : X.N[i]? = some x := by rfl) (hj : X.N[j]? = some y := by rfl) (hij : i ≠ j := by decide)
  (hx : X.env.scope.names.lookup x = some .local := by rfl) (hy : X.env.scope.names.lookup y = some .local := by rfl)
  (hs : swapsWithSole [.Tuple [.Name x px, .Name y py] kt pt] (.Tuple [a, b] k2 pt2) pos.line X.env = pure false := by rfl) :
  ISt X Wx (.Assign [.Tuple [.Name x px, .Name y py] kt pt] (.Tuple [a, b] k2 pt2) pos) (mPar [i, j] F) := PS.imp (ps_par hc hN hi hj hij hx hy ha hw hs) fun D σ H h =>
 tM.bind1 (R := fun (vs : List V) (H1 : Hp) => ∃ v w, vs = [v, w] ∧ D.nx ((σ.set i (some v)).set j (some w)) H1) (k := fun (ws : List W) eta hp => if ws.length = [i, j].length then .ok (Fl.nx (([i, j].zip ws).foldl Yf5 eta)) hp else .bad) h fun s eta ws vs R1 S1 f1 g1 => by
  match ws, f1, g1 with
  | [w1, w2], ⟨v1, r1, e1, q1, v2, r2, e2, q2, e3⟩, g1 =>
   subst e3 e2 e1
   exact ⟨v1, v2, rfl, Go.nx R1 ((S1.set i q1).set j q2) g1⟩
  | [], _, g1 => exact g1.elim
  | [_], _, g1 => exact g1.elim
  | _ :: _ :: _ :: _, _, g1 =>
   rw [if_neg Ycc] at g1
   exact g1.elim
end
/-- x op= e -/
def mAug (i : Nat) (f : Op2) (F : M W) : M Fl := fun eta hp => match eta[i]? with
 | some (some x) => (F eta hp).bind fun y h1 => (f x y h1).bind fun z h2 => .ok (.nx (eta.set i (some z))) h2
 | _ => .bad
def SrcF (K : PySem.W.Frag) (ω : World) (s : S4) (ws : List W) (J : It) : Prop := ∀ s', Aft s s' → Rel K ω s' → ∀ i : Nat,
 (∀ w, ws[i]? = some w → J.go i s'.H ∧ ∀ x H', J.yld i s'.H x H' → ∃ s2 : S4, s2.H = H' ∧ s2.hp = s'.hp ∧ Aft s' s2 ∧ Rel K ω s2 ∧ Rw K s2 w x) ∧ (i = ws.length → J.stop i s'.H)
def II (X : Cx) (Wx : WX) (tg e : Expr) (F : M (List W)) : Prop := PI X tg e (tM X.K X.w Wx (SrcF X.K X.w) F)
def forL (G : W → IS → Option IS) (B : M Fl) : List W → IS → IH → Res Fl
 | [], eta, hp => .ok Ydi hp
 | w :: ws, eta, hp => match G w eta with
  | none => .bad
  | some eta1 => (B eta1 hp).bind fun f h2 => match f with
   | .nx e => forL G B ws e h2
   | .ct e => forL G B ws e h2
   | .bk e => .ok (.nx e) h2
   | .rt w => .ok (.rt w) h2
def mFor (Fi : M (List W)) (G : W → IS → Option IS) (B : M Fl) : M Fl := fun eta hp => (Fi eta hp).bind fun ws h1 => forL G B ws eta h1
section
variable {X : Cx} {Wx : WX} {tg iter : Expr} {Fi : M (List W)} {pos : Pos} {g : TG} {G : W → IS → Option IS} {vs : List Nat} {body : List Stmt} {B : M Fl}
theorem st_for (hp : PassesOwn Yx X.A X.env X.xe) (hc : X.calm = true) (hi : II X Wx tg iter Fi) (hg : PG X tg g) (ok : TgOk X.K X.w g G vs) (hb : ISs X Wx body B)
  (hs : ∀ x, foldedSetIterable iter X.env x = pure x := by intro _; rfl) : ISt X Wx (.For tg iter body [] pos) (mFor Fi G B) := PS.imp (ps_for hp hc hi hg hb hs) fun D σ H h =>
 tM.bind1 (R := fun (J : It) (H1 : Hp) => ∃ Wv : Nat → Nat → St → Hp → Prop, (∃ m, Wv 0 m σ H1) ∧ ∀ i m σ H, Wv i m σ H →
   (J.stop i H ∧ D.nx σ H) ∨ (J.go i H ∧ ∃ N : St → Hp → Prop, (∀ σ' H', N σ' H' → ∃ m', m' < m ∧ Wv (i + 1) m' σ' H') ∧ ∀ x H', J.yld i H x H' → g x σ H' fun σ2 H2 => tS X.K X.w Wx B { D with nx := N, ct := N, bk := D.nx } σ2 H2))
  (k := fun (ws : List W) eta hp => forL G B ws eta hp) h fun s eta ws J R1 S1 src g1 => by
  refine ⟨fun i m σ H => m = ws.length - i ∧ i ≤ ws.length ∧ ∃ s' eta', s'.H = H ∧ Aft s s' ∧ Rel X.K X.w s' ∧ Sl X.K s' eta' σ ∧ Go X.K X.w Wx (RFl X.K) s' (forL G B (ws.drop i) eta' s'.hp) (endQ D), ⟨ws.length, by simp, Nat.zero_le _, s, eta, rfl, Aft.refl s, R1, S1, by simpa using g1⟩, ?_⟩
  rintro i m σ H ⟨rfl, hi, s', eta', rfl, A1, R2, S2, g2⟩
  obtain ⟨q1, q2⟩ := src s' A1 R2 i
  by_cases hlt : i < ws.length
  ·obtain ⟨go, yl⟩ := q1 ws[i] (List.getElem?_eq_getElem hlt)
   refine .inr ⟨go, fun σ' H' => i + 1 ≤ ws.length ∧ ∃ s2 eta2, s2.H = H' ∧ Aft s s2 ∧ Rel X.K X.w s2 ∧ Sl X.K s2 eta2 σ' ∧ Go X.K X.w Wx (RFl X.K) s2 (forL G B (ws.drop (i + 1)) eta2 s2.hp) (endQ D), fun σ' H' n => ⟨ws.length - (i + 1), by omega, rfl, n⟩, fun x H' y => ?_⟩
   obtain ⟨s3, e3, hp3, A3, R3, rw3⟩ := yl x H' y
   subst e3
   rw [List.drop_eq_getElem_cons hlt] at g2
   simp only [forL] at g2
   cases hG : G ws[i] eta' with
   | none => simp only [hG] at g2; exact g2.elim
   | some eta1 =>
    simp only [hG] at g2
    obtain ⟨σ4, S4', _, q4⟩ := ok.run s3 ws[i] x eta' σ eta1 R3 rw3 (S2.aft A3 R2) hG
    refine q4 _ ⟨s3, eta1, rfl, R3, S4', ?_⟩
    have g3 := Go.aft g2 A3
    rw [← hp3] at g3
    refine Go.bind g3 fun f fv s5 A5 R5 f5 _ g5 => ?_
    cases f <;> cases fv <;> first | exact f5.elim | skip
    ·exact ⟨hlt, s5, _, rfl, (A1.trans A3).trans A5, R5, f5, g5⟩
    ·exact Go.rt (D := D) R5 f5 g5
    ·exact Go.nx (D := D) R5 f5 g5
    ·exact ⟨hlt, s5, _, rfl, (A1.trans A3).trans A5, R5, f5, g5⟩
  ·have e : i = ws.length := by omega
   subst e
   refine .inl ⟨q2 rfl, ?_⟩
   rw [List.drop_length] at g2
   exact Go.nx R2 S2 g2
end
def whileL (T : M Bool) (B : M Fl) : Nat → IS → IH → Res Fl
 | 0, _, _ => .bad
 | n + 1, eta, hp => (T eta hp).bind fun b h1 => if b then (B eta h1).bind fun f h2 => match f with
   | .nx e => whileL T B n e h2
   | .ct e => whileL T B n e h2
   | .bk e => .ok (.nx e) h2
   | .rt w => .ok (.rt w) h2
  else .ok Ydi h1
def mWhile (n : Nat) (T : M Bool) (B : M Fl) : M Fl := fun eta hp => whileL T B n eta hp
section
variable {X : Cx} {Wx : WX} {c : Expr} {T : M Bool} {pos : Pos} {body : List Stmt} {B : M Fl}
theorem st_while (n : Nat) (hp : PassesOwn Yx X.A X.env X.xe) (hc : IT X Wx c T) (hb : ISs X Wx body B) : ISt X Wx (.While c body [] pos) (mWhile n T B) := PS.imp (ps_while hp hc hb) fun D σ H h => by
 obtain ⟨s, eta, e1, R1, S1, g⟩ := h
 refine ⟨fun m σ H => ∃ s' eta', s'.H = H ∧ Rel X.K X.w s' ∧ Sl X.K s' eta' σ ∧ Go X.K X.w Wx (RFl X.K) s' (whileL T B m eta' s'.hp) (endQ D), ⟨n, s, eta, e1, R1, S1, g⟩, ?_⟩
 rintro m σ H ⟨s', eta', rfl, R2, S2, g2⟩
 cases m with
 | zero => exact g2.elim
 | succ m =>
  simp only [whileL] at g2
  refine ⟨s', eta', rfl, R2, S2, Go.bind g2 fun b bv s3 A3 R3 f3 _ g3 => ?_⟩
  subst f3
  cases b with
  | false => exact Go.nx R3 (S2.aft A3 R2) g3
  | true =>
   simp only [if_true] at g3
   refine ⟨fun σ' H' => ∃ s' eta', s'.H = H' ∧ Rel X.K X.w s' ∧ Sl X.K s' eta' σ' ∧ Go X.K X.w Wx (RFl X.K) s' (whileL T B m eta' s'.hp) (endQ D), fun σ' H' n => ⟨m, Nat.lt_succ_self m, n⟩, ?_⟩
   refine ⟨s3, eta', rfl, R3, S2.aft A3 R2, Go.bind g3 fun f fv s5 A5 R5 f5 _ g5 => ?_⟩
   cases f <;> cases fv <;> first | exact f5.elim | skip
   ·exact ⟨s5, _, rfl, R5, f5, g5⟩
   ·exact Go.rt (D := D) R5 f5 g5
   ·exact Go.nx (D := D) R5 f5 g5
   ·exact ⟨s5, _, rfl, R5, f5, g5⟩
end
def W0 : WX := fun _ _ _ _ => False
def noEr {A : Type} (r : Res A) : Res A := match r with
 | .er _ _ _ => .bad
 | r => r
theorem noEr_bind {A B : Type} (r : Res A) (k : A → IH → Res B) : noEr (r.bind k) = (noEr r).bind fun a h => noEr (k a h) := by cases r <;> rfl
theorem Go.noEr {A B : Type} {K : PySem.W.Frag} {ω : World} {Wx Wx' : WX} {Fam : S4 → A → B → Prop} {s : S4} {r : Res A} {Q : B → Hp → Prop} (g : Go K ω Wx Fam s (noEr r) Q) : Go K ω Wx' Fam s r Q := by
 cases r with
 | ok a h => exact g
 | er e eta h => exact g.elim
 | bad => exact g
def turnL (G : W → IS → Option IS) (T : M Bool) (E : M W) (eta : IS) (w : W) (hp : IH) : Res (Option W) := match G w eta with
 | none => .bad
 | some eta1 => (T eta1 hp).bind fun b h1 => if b then (E eta1 h1).bind fun y h2 => .ok (some y) h2 else .ok none h1
def zc6 (G : W → IS → Option IS) (T : M Bool) (E : M W) (eta : IS) : List W → IH → Res (List W)
 | [], hp => .ok [] hp
 | w :: ws, hp => (noEr (turnL G T E eta w hp)).bind fun o h1 => (zc6 G T E eta ws h1).bind fun r h2 => .ok (match o with | some y => y :: r | none => r) h2
def wipeI (eta : IS) (vs : List Nat) : IS := vs.foldr (fun v e => e.set v none) eta
/-- fin: zap (a tree), newL (a live list) -/
def zb5 (fin : OpN) (Fi : M (List W)) (G : W → IS → Option IS) (T : M Bool) (E : M W) (vs : List Nat) : M W := fun eta hp => (Fi eta hp).bind fun ws h1 => if ws.length ≤ 16777216 then (zc6 G T E (wipeI eta vs) ws h1).bind fun r h2 => fin r h2 else .bad
/-- an untracked-by-us object is changed (a comprehension's list while it is made) -/
def S4.setD (s : S4) (D : Addr) (o : HO) : S4 := ⟨s.rho, s.fz, s.hp, upd s.H D o⟩
section
variable {K : PySem.W.Frag} {ω : World}
mutual
theorem Rf.congr {fz fz' : Addr → Prop} {H H' : Hp} (hf : ∀ a, fz a → fz' a) (k : ∀ a, fz a → H' a = H a) : ∀ (x : T) (v : V), Rf K fz H x v → Rf K fz' H' x v
 | .non, _, h => by simpa [Rf] using h
 | .bl _, _, h => by simpa [Rf] using h
 | .int _, _, h => by simpa [Rf] using h
 | .str _, _, h => by simpa [Rf] using h
 | .ty _, _, h => by simpa [Rf] using h
 | .cls _, _, h => by simpa [Rf] using h
 | .exc _ _ _, _, h => by simp [Rf] at h
 | .tup xs, v, h => by
  simp only [Rf] at h ⊢
  obtain ⟨a, vs, e, t, l⟩ := h
  refine ⟨a, vs, e, ?_, RfL.congr hf k xs vs l⟩
  rcases t with ⟨f, o, t, d⟩ | t
  ·exact .inl ⟨hf a f, o, (k a f).trans t, d⟩
  ·exact .inr t
 | .pr xs, v, h => by
  simp only [Rf] at h ⊢
  obtain ⟨a, vs, e, t, l⟩ := h
  exact ⟨a, vs, e, ⟨hf a t.1, (k a t.1).trans t.2⟩, RfL.congr hf k xs vs l⟩
 | .dit ks xs, v, h => by
  simp only [Rf] at h ⊢
  obtain ⟨a, vs, e, t, n, l⟩ := h
  exact ⟨a, vs, e, ⟨hf a t.1, (k a t.1).trans t.2⟩, n, RfL.congr hf k xs vs l⟩
 | .lst xs, v, h => by
  simp only [Rf] at h ⊢
  obtain ⟨a, vs, e, t, l⟩ := h
  exact ⟨a, vs, e, ⟨hf a t.1, (k a t.1).trans t.2⟩, RfL.congr hf k xs vs l⟩
 | .scr xs, v, h => by
  simp only [Rf] at h ⊢
  obtain ⟨a, vs, e, t, l⟩ := h
  exact ⟨a, vs, e, t.imp (fun t => ⟨hf a t.1, let ⟨o, u⟩ := t.2; ⟨o, (k a t.1).trans u⟩⟩) id, RfL.congr hf k xs vs l⟩
 | .dic ks xs, v, h => by
  simp only [Rf] at h ⊢
  obtain ⟨a, vs, e, t, n, l⟩ := h
  exact ⟨a, vs, e, ⟨hf a t.1, let ⟨o, u⟩ := t.2; ⟨o, (k a t.1).trans u⟩⟩, n, RfL.congr hf k xs vs l⟩
 | .ins c ns xs, v, h => by
  simp only [Rf] at h ⊢
  obtain ⟨a, C, vs, e, cn, t, n, l⟩ := h
  exact ⟨a, C, vs, e, cn, ⟨hf a t.1, let ⟨o, u⟩ := t.2; ⟨o, (k a t.1).trans u⟩⟩, n, RfL.congr hf k xs vs l⟩
theorem RfL.congr {fz fz' : Addr → Prop} {H H' : Hp} (hf : ∀ a, fz a → fz' a) (k : ∀ a, fz a → H' a = H a) : ∀ (xs : List T) (vs : List V), RfL K fz H xs vs → RfL K fz' H' xs vs
 | [], _, h => by simpa [RfL] using h
 | x :: xs, vs, h => by
  simp only [RfL] at h ⊢
  obtain ⟨v, r, e, a, b⟩ := h
  exact ⟨v, r, e, Rf.congr hf k x v a, RfL.congr hf k xs r b⟩
end
theorem Rw.congr {s s' : S4} (hr : s'.rho = s.rho) (hf : ∀ a, s.fz a → s'.fz a) (k : ∀ a, s.fz a → s'.H a = s.H a) {w : W} {v : V} (h : Rw K s w v) : Rw K s' w v := by
 cases w with
 | t x => exact Rf.congr hf k x v h
 | r i => obtain ⟨a, e1, e2⟩ := h; exact ⟨a, by rw [hr]; exact e1, e2⟩
theorem RwL.congr {s s' : S4} (hr : s'.rho = s.rho) (hf : ∀ a, s.fz a → s'.fz a) (k : ∀ a, s.fz a → s'.H a = s.H a) : ∀ {ws : List W} {vs : List V}, RwL K s ws vs → RwL K s' ws vs
 | [], _, h => h
 | x :: xs, vs, h => by
  obtain ⟨v, r, e, a, b⟩ := h
  exact ⟨v, r, e, a.congr hr hf k, RwL.congr hr hf k b⟩
theorem RwK.congr {s s' : S4} (hr : s'.rho = s.rho) (hf : ∀ a, s.fz a → s'.fz a) (k : ∀ a, s.fz a → s'.H a = s.H a) : ∀ {ws : List (Key × W)} {vs : List (Key × V)}, RwK K s ws vs → RwK K s' ws vs
 | [], _, h => h
 | x :: xs, vs, h => by
  obtain ⟨v, r, e, a, b⟩ := h
  exact ⟨v, r, e, a.congr hr hf k, RwK.congr hr hf k b⟩
theorem RwF.congr {s s' : S4} (hr : s'.rho = s.rho) (hf : ∀ a, s.fz a → s'.fz a) (k : ∀ a, s.fz a → s'.H a = s.H a) : ∀ {ws : List (Str × W)} {vs : List (Str × V)}, RwF K s ws vs → RwF K s' ws vs
 | [], _, h => h
 | x :: xs, vs, h => by
  obtain ⟨v, r, e, a, b⟩ := h
  exact ⟨v, r, e, a.congr hr hf k, RwF.congr hr hf k b⟩
theorem RwD.congr {s s' : S4} (hr : s'.rho = s.rho) (hf : ∀ a, s.fz a → s'.fz a) (k : ∀ a, s.fz a → s'.H a = s.H a) : ∀ {ws : List (T × W)} {vs : List (NestedKey × Addr × V)}, RwD K s ws vs → RwD K s' ws vs
 | [], _, h => h
 | x :: xs, vs, h => by
  obtain ⟨q, b, v, r, e, h1, h2, h3, h4, h5⟩ := h
  exact ⟨q, b, v, r, e, h1, h2, Rf.congr hf k _ _ h3, h4.congr hr hf k, RwD.congr hr hf k h5⟩
theorem CellOk.congr {s s' : S4} (hr : s'.rho = s.rho) (hf : ∀ a, s.fz a → s'.fz a) (k : ∀ a, s.fz a → s'.H a = s.H a) {a : Addr} {c : Cell} {o : Option HO} (h : CellOk K ω s a c o) : CellOk K ω s' a c o := by
 cases c with
 | lst ws => obtain ⟨vs, e, l⟩ := h; exact ⟨vs, e, l.congr hr hf k⟩
 | dic kvs => obtain ⟨vs, e, l⟩ := h; exact ⟨vs, e, l.congr hr hf k⟩
 | ins c fs => obtain ⟨C, dx, vs, e, cn, l⟩ := h; exact ⟨C, dx, vs, e, cn, l.congr hr hf k⟩
 | dit kvs => obtain ⟨vs, e, l⟩ := h; exact ⟨vs, e, l.congr hr hf k⟩
 | tpl ws => obtain ⟨ob, vs, e, d, l⟩ := h; exact ⟨ob, vs, e, d, l.congr hr hf k⟩
 | dil kvs => obtain ⟨ob, vs, e, l⟩ := h; exact ⟨ob, vs, e, l.congr hr hf k⟩
 | tab q => obtain ⟨lt, ps, e, t, l⟩ := h; exact ⟨lt, ps, e, t, fun pos cv hc => let ⟨c, e1, f, e2⟩ := l pos cv hc; ⟨c, e1, hf c f, (k c f).trans e2⟩⟩
variable {s s' : S4} {D : Addr} {o : HO}
theorem setD_k (nf : ¬ s.fz D) : ∀ a, s.fz a → (s.setD D o).H a = s.H a := fun a f => upd_ne fun z => nf (z ▸ f)
theorem rel_setD (R : Rel K ω s) (nr : D ∉ s.rho) (nf : ¬ s.fz D) : Rel K ω (s.setD D o) := by
 have tr : ∀ a, s.H a ≠ none → (s.setD D o).H a ≠ none := fun a h => by
  show upd s.H D o a ≠ none
  by_cases q : a = D
  ·rw [q, upd_same]; intro z; cases z
  ·rw [upd_ne q]; exact h
 refine ⟨R.len, R.nd, fun a m => tr a (R.trk a m), fun a f => tr a (R.ftrk a f), R.fz, fun i c a e1 e2 => ?_⟩
 have ne : a ≠ D := fun z => nr (z ▸ List.mem_of_getElem? e2)
 show CellOk K ω (s.setD D o) a c (upd s.H D o a)
 rw [upd_ne ne]
 exact CellOk.congr (s := s) (s' := s.setD D o) rfl (fun _ f => f) (setD_k nf) (R.cell i c a e1 e2)
/-- what is known of D stays behind a run -/
theorem Aft.away (A : Aft s s') (h : s.H D = some o) (nr : D ∉ s.rho) (nf : ¬ s.fz D) : s'.H D = some o ∧ D ∉ s'.rho ∧ ¬ s'.fz D := by
 have nl : ¬ Live s D := fun ⟨i, c, _, e⟩ => nr Yfx
 refine ⟨A.keep D o h nl, fun m => ?_, fun f => ?_⟩
 ·obtain ⟨ex, e, n⟩ := A.pre
  rw [e] at m
  rcases List.mem_append.mp m with m | m
  ·exact nr m
  ·rw [n D m] at h; cases h
 ·rcases A.fnew D f with f | f | f
  ·exact nf f
  ·rw [f] at h; cases h
  ·exact nl f
theorem Aft.setD {s0 : S4} (A : Aft s0 s) (h0 : s0.H D = none) {o' : HO} : Aft s0 (s.setD D o') := by
 refine ⟨A.pre, A.fz, fun a u e nl => ?_, A.fnew, A.live, fun a h => ?_⟩
 ·show upd s.H D o' a = some u
  rw [upd_ne (ne_of_none e h0)]; exact A.keep a u e nl
 ·show upd s.H D o' a ≠ none
  by_cases q : a = D
  ·rw [q, upd_same]; intro z; cases z
  ·rw [upd_ne q]; exact A.trk a h
theorem Go.bind0 {Wx : WX} {A B C E : Type} {Fam : S4 → A → B → Prop} {Gam : S4 → C → E → Prop} {s0 s : S4} {r : Res A} {k : A → IH → Res C} {Q : E → Hp → Prop} {R : B → Hp → Prop} (g : Go K ω Wx Gam s0 (r.bind k) Q) (A0 : Aft s0 s)
  (h : ∀ a b s', Aft s s' → Rel K ω s' → Fam s' a b → Go K ω Wx Gam s0 (k a s'.hp) Q → R b s'.H) : Go K ω Wx Fam s r R := by
 cases r with
 | ok x hp =>
  intro b s2 h1 h2 h3 h4
  subst h1
  exact h x b s2 h2 h3 h4 g
 | er e eta hp => exact Go.aft (Fam := Fam) (r := .er e eta hp) (Q := R) (show Go K ω Wx Fam s0 (.er e eta hp) R from g) A0
 | bad => exact g
end
/-- what the end of a comprehension asks: the list at D is handed on -/
def FinOk (K : PySem.W.Frag) (ω : World) (Wx : WX) (fin : OpN) : Prop := ∀ (s0 s : S4) (ws : List W) (vs : List V) (D : Addr) (Q : VK), Aft s0 s → Rel K ω s → s0.H D = none → D ∉ s.rho → ¬ s.fz D → s.H D = some Yfm → RwL K s ws vs → Go K ω Wx (Rw K) s0 (fin ws s.hp) Q →
 Q (.ref D) s.H
theorem zbd {K : PySem.W.Frag} {ω : World} {Wx : WX} : FinOk K ω Wx zap := by
 intro s0 s ws vs D Q A R h0 nr nf hD l g
 unfold zap at g
 split at g
 ·rename_i ts ht
  split at g
  ·rename_i hz
   rw [zbu ht] at l
   have R2 : Rel K ω ⟨s.rho, fun a => s.fz a ∨ a = D, s.hp, s.H⟩ := by
    refine ⟨R.len, R.nd, R.trk, fun a f => ?_, fun a l f => ?_, fun i c a e1 e2 => CellOk.congr (s := s) (s' := ⟨s.rho, fun a => s.fz a ∨ a = D, s.hp, s.H⟩) rfl (fun _ f => Or.inl f) (fun _ _ => rfl) (R.cell i c a e1 e2)⟩
    ·rcases f with f | f
     ·exact R.ftrk a f
     ·rw [f, hD]; intro z; cases z
    ·rcases f with f | f
     ·exact R.fz a l f
     ·obtain ⟨i, c, _, e⟩ := l
      exact nr (f ▸ List.mem_of_getElem? e)
   refine g (.ref D) ⟨s.rho, fun a => s.fz a ∨ a = D, s.hp, s.H⟩ rfl ⟨A.pre, fun a f => .inl (A.fz a f), A.keep, fun a f => ?_, A.live, A.trk⟩ R2 ?_
   ·rcases f with f | f
    ·exact A.fnew a f
    ·exact .inr (.inl (by rw [f]; exact h0))
   ·simp only [Rw, Rf]
    exact ⟨D, vs, rfl, ⟨.inr rfl, hD⟩, RfL.congr (fun _ f => .inl f) (fun _ _ => rfl) _ _ Yef⟩
  ·exact g.elim
 ·exact g.elim
theorem fin_live {K : PySem.W.Frag} {ω : World} {Wx : WX} : FinOk K ω Wx newL := by
 intro s0 s ws vs D Q A R h0 nr nf hD l g
 unfold newL at g
 split at g
 ·rename_i hz
  have lv : ∀ {a : Addr}, Live ⟨s.rho ++ [D], s.fz, s.hp ++ [some Yb3], s.H⟩ a → Live s a ∨ a = D := fun {a} l => by
   have l' : Live (s.addL D Yb3 Yfm) a := l
   exact live_addL R l'
  have cg : ∀ {a : Addr} {c : Cell} {o : Option HO}, CellOk K ω s a c o → CellOk K ω ⟨s.rho ++ [D], s.fz, s.hp ++ [some Yb3], s.H⟩ a c o := fun {a c o} h => by
   have rwl : ∀ {w : W} {v : V}, Rw K s w v → Rw K ⟨s.rho ++ [D], s.fz, s.hp ++ [some Yb3], s.H⟩ w v := fun {w v} h => by
    cases w with
    | t x => exact h
    | r i => obtain ⟨a, e1, e2⟩ := h; exact ⟨a, by show (s.rho ++ [D])[i]? = some a; rw [List.getElem?_append_left (List.getElem?_eq_some_iff.mp e1).1]; exact e1, e2⟩
   have rl : ∀ {ws' : List W} {vs' : List V}, RwL K s ws' vs' → RwL K ⟨s.rho ++ [D], s.fz, s.hp ++ [some Yb3], s.H⟩ ws' vs' := by
    intro ws'
    induction ws' with
    | nil => intro vs' h; exact h
    | cons x xs ih => intro vs' h; obtain ⟨v, r, e, a, b⟩ := h; exact ⟨v, r, e, rwl a, ih b⟩
   have rk : ∀ {ws' : List (Key × W)} {vs' : List (Key × V)}, RwK K s ws' vs' → RwK K ⟨s.rho ++ [D], s.fz, s.hp ++ [some Yb3], s.H⟩ ws' vs' := by
    intro ws'
    induction ws' with
    | nil => intro vs' h; exact h
    | cons x xs ih => intro vs' h; obtain ⟨v, r, e, a, b⟩ := h; exact ⟨v, r, e, rwl a, ih b⟩
   have rf : ∀ {ws' : List (Str × W)} {vs' : List (Str × V)}, RwF K s ws' vs' → RwF K ⟨s.rho ++ [D], s.fz, s.hp ++ [some Yb3], s.H⟩ ws' vs' := by
    intro ws'
    induction ws' with
    | nil => intro vs' h; exact h
    | cons x xs ih => intro vs' h; obtain ⟨v, r, e, a, b⟩ := h; exact ⟨v, r, e, rwl a, ih b⟩
   have rd : ∀ {ws' : List (T × W)} {vs' : List (NestedKey × Addr × V)}, RwD K s ws' vs' → RwD K ⟨s.rho ++ [D], s.fz, s.hp ++ [some Yb3], s.H⟩ ws' vs' := by
    intro ws'
    induction ws' with
    | nil => intro vs' h; exact h
    | cons x xs ih => intro vs' h; obtain ⟨q, b, v, r, e, h1, h2, h3, h4, h5⟩ := h; exact ⟨q, b, v, r, e, h1, h2, h3, rwl h4, ih h5⟩
   cases c with
   | lst ws => obtain ⟨vs, e, l⟩ := h; exact ⟨vs, e, rl l⟩
   | dic kvs => obtain ⟨vs, e, l⟩ := h; exact ⟨vs, e, rk l⟩
   | ins c fs => obtain ⟨C, dx, vs, e, cn, l⟩ := h; exact ⟨C, dx, vs, e, cn, rf l⟩
   | dit kvs => obtain ⟨vs, e, l⟩ := h; exact ⟨vs, e, rd l⟩
   | tpl ws => obtain ⟨ob, vs, e, d, l⟩ := h; exact ⟨ob, vs, e, d, rl l⟩
   | dil kvs => obtain ⟨ob, vs, e, l⟩ := h; exact ⟨ob, vs, e, rd l⟩
   | tab q => exact h
  have ok := cg (a := D) (c := .lst ws) (o := some Yfm) ⟨vs, rfl, l⟩
  refine g (.ref D) ⟨s.rho ++ [D], s.fz, s.hp ++ [some Yb3], s.H⟩ rfl ⟨?_, A.fz, A.keep, A.fnew, fun a l => ?_, A.trk⟩ ⟨by simp [R.len], ?_, fun a m => ?_, R.ftrk, fun a l f => ?_, fun i c a e1 e2 => ?_⟩ ?_
  ·obtain ⟨ex, e, n⟩ := A.pre
   refine ⟨ex ++ [D], by rw [e, List.append_assoc], fun a m => ?_⟩
   rcases List.mem_append.mp m with m | m
   ·exact n a m
   ·simp at m; rw [m]; exact h0
  ·rcases lv l with l | l
   ·exact A.live a l
   ·exact .inr (by rw [l]; exact h0)
  ·refine List.nodup_append.mpr ⟨R.nd, by simp, fun a m b hb => ?_⟩
   simp at hb
   rintro rfl
   exact nr (hb ▸ m)
  ·rcases List.mem_append.mp m with m | m
   ·exact R.trk a m
   ·simp at m; rw [m, hD]; intro z; cases z
  ·rcases lv l with l | l
   ·exact R.fz a l f
   ·exact nf (l ▸ f)
  ·by_cases hi : i < s.hp.length
   ·rw [List.getElem?_append_left hi] at e1
    rw [List.getElem?_append_left (by rw [R.len]; exact hi)] at e2
    exact cg (R.cell i c a e1 e2)
   ·have h0 : i = s.hp.length := by
     have := (List.getElem?_eq_some_iff.mp e1).1
     simp at this
     omega
    subst h0
    simp at e1
    rw [List.getElem?_append_right Ydc, R.len] at e2
    simp at e2
    subst e1 e2
    show CellOk K ω _ _ _ (s.H D)
    rw [hD]
    exact ok
  ·exact ⟨D, by show (s.rho ++ [D])[s.hp.length]? = some D; rw [List.getElem?_append_right Ydc, R.len]; simp, rfl⟩
 ·exact g.elim
section
variable {X : Cx} {Wx : WX} {elt tg iter : Expr} {Fi : M (List W)} {pos : Pos} {g : TG} {G : W → IS → Option IS} {vs : List Nat} {T : M Bool} {E : M W} {fin : OpN} {own : List (Str × Nat)}
theorem t_comp (us : List Nat) (ok : TgOk X.K X.w g G vs) (hv : ∀ i ∈ vs, i ∈ us) (hf : FinOk X.K X.w Wx fin) : ∀ σ H Q, tE X.K X.w Wx (zb5 fin Fi G T E us) σ H Q →
  tLc (tM X.K X.w Wx (SrcF X.K X.w) Fi) g (tT X.K X.w W0 T) (tE X.K X.w W0 E) us σ H Q := fun σ H Q h =>
 tM.bind1 (R := fun (J : It) (H1 : Hp) => ∀ D, H1 D = none → ∃ Wv : Nat → Nat → Hp → Prop, (∃ m, Wv 0 m (upd H1 D (.lst []))) ∧ ∀ i m H, Wv i m H →
   (J.stop i H ∧ Q (.ref D) H) ∨ (J.go i H ∧ ∃ Nx : Hp → Prop, (∀ H', Nx H' → ∃ m', m' < m ∧ Wv (i + 1) m' H') ∧ ∀ x H', J.yld i H x H' → g x (wipe σ us) H' fun σ2 H2 => wipe σ2 us = wipe σ us ∧ tT X.K X.w W0 T σ2 H2 fun b H3 =>
    if b = true then tE X.K X.w W0 E σ2 H3 fun y H4 => ∃ acc, H4 D = some (.lst acc) ∧ acc.length < sizeLine ∧ Nx (upd H4 D (.lst (acc ++ [y]))) else Nx H3))
  (k := fun (ws : List W) eta hp => if ws.length ≤ 16777216 then (zc6 G T E (wipeI eta us) ws hp).bind fun r h2 => fin r h2 else .bad) h fun s0 eta ws J R0 S0 src g0 D hD => by
  split at g0
  ·rename_i hz
   have hz' : ws.length ≤ sizeLine := by rw [sizeLine_eq]; exact hz
   have hw : Sl X.K s0 (wipeI eta us) (wipe σ us) := S0.wipe us
   refine ⟨fun i m H => m = ws.length - i ∧ i ≤ ws.length ∧ ∃ (s : S4) (acc : List W) (xs : List V), s.H = H ∧ Aft s0 s ∧ Rel X.K X.w s ∧ D ∉ s.rho ∧ ¬ s.fz D ∧ s.H D = some Ye2 ∧ RwL X.K s acc xs ∧ acc.length ≤ i ∧
     Go X.K X.w Wx (Rw X.K) s0 ((zc6 G T E (wipeI eta us) (ws.drop i) s.hp).bind fun r h => fin (acc ++ r) h) Q, ⟨ws.length, by simp, Nat.zero_le _, s0.setD D (.lst []), [], [], rfl, (Aft.refl s0).setD hD, rel_setD R0 (R0.fresh hD).1 (R0.fresh hD).2, (R0.fresh hD).1, (R0.fresh hD).2, upd_same, rfl, Nat.le_refl _, g0⟩, ?_⟩
   rintro i m H ⟨rfl, hi, s, acc, xs, rfl, A1, R1, nr, nf, hDx, l1, hl1, g1⟩
   obtain ⟨q1, q2⟩ := src s A1 R1 i
   by_cases hlt : i < ws.length
   ·obtain ⟨go, yl⟩ := q1 ws[i] (List.getElem?_eq_getElem hlt)
    refine .inr ⟨go, fun H' => i + 1 ≤ ws.length ∧ ∃ (s : S4) (acc : List W) (xs : List V), s.H = H' ∧ Aft s0 s ∧ Rel X.K X.w s ∧ D ∉ s.rho ∧ ¬ s.fz D ∧ s.H D = some Ye2 ∧ RwL X.K s acc xs ∧ acc.length ≤ i + 1 ∧
     Go X.K X.w Wx (Rw X.K) s0 ((zc6 G T E (wipeI eta us) (ws.drop (i + 1)) s.hp).bind fun r h => fin (acc ++ r) h) Q, fun H' n => ⟨ws.length - (i + 1), by omega, rfl, n⟩, fun x H' y => ?_⟩
    obtain ⟨s3, e3, hp3, A3, R3, rw3⟩ := yl x H' y
    subst e3
    obtain ⟨hD3, nr3, nf3⟩ := A3.away hDx nr nf
    have l3 := RwL.aft A3 R1 _ _ l1
    have A03 := A1.trans A3
    rw [List.drop_eq_getElem_cons hlt] at g1
    rw [← hp3] at g1
    simp only [zc6, Res.bind_assoc, turnL] at g1
    cases hG : G ws[i] (wipeI eta us) with
    | none => simp only [hG, noEr] at g1; exact g1.elim
    | some eta1 =>
     simp only [hG, noEr_bind, Res.bind_assoc] at g1
     obtain ⟨σ2, S2, w2, q4⟩ := ok.run s3 ws[i] x (wipeI eta us) (wipe σ us) eta1 R3 rw3 ((hw.aft A03 R0)) hG
     have wi : wipe (wipe σ us) us = wipe σ us := by
      apply List.ext_getElem?
      intro j
      by_cases hj : j ∈ us
      ·by_cases hl : j < σ.length
       ·rw [wipe_in hj (by rw [wipe_length]; exact hl), wipe_in hj hl]
       ·rw [List.getElem?_eq_none (by rw [wipe_length, wipe_length]; simpa using hl), List.getElem?_eq_none Yfh]
      ·rw [wipe_get hj]
     refine q4 _ ⟨(w2 us hv).trans wi, s3, eta1, rfl, R3, S2, Go.noEr (Go.bind0 g1 A03 fun b bv s4 A4 R4 f4 g4 => ?_)⟩
     subst f4
     obtain ⟨hD4, nr4, nf4⟩ := A4.away hD3 nr3 nf3
     have l4 := RwL.aft A4 R3 _ _ l3
     have A04 := A03.trans A4
     cases b with
     | false =>
      simp only [Bool.false_eq_true, if_false, noEr, Res.bind] at g4
      rw [if_neg Bool.false_ne_true]
      exact ⟨hlt, s4, acc, xs, rfl, A04, R4, nr4, nf4, hD4, l4, by omega, g4⟩
     | true =>
      simp only [if_true, noEr_bind, Res.bind_assoc] at g4
      rw [if_pos rfl]
      refine ⟨s4, eta1, rfl, R4, S2.aft A4 R3, Go.noEr (Go.bind0 g4 A04 fun yw yv s5 A5 R5 f5 g5 => ?_)⟩
      obtain ⟨hD5, nr5, nf5⟩ := A5.away hD4 nr4 nf4
      have l5 := RwL.aft A5 R4 _ _ l4
      have A05 := A04.trans A5
      refine ⟨xs, hD5, by rw [← RwL.length l5]; omega, hlt, s5.setD D (.lst (xs ++ [yv])), acc ++ [yw], xs ++ [yv], rfl, A05.setD hD, rel_setD R5 nr5 nf5, nr5, nf5, upd_same, ?_, by simp; omega, ?_⟩
      ·exact RwL.append (RwL.congr (s := s5) (s' := s5.setD D _) rfl (fun _ f => f) (setD_k nf5) l5) ⟨yv, [], rfl, Rw.congr (s := s5) (s' := s5.setD D _) rfl (fun _ f => f) (setD_k nf5) f5, rfl⟩
      ·simp only [noEr, Res.bind] at g5
       have e : ∀ (r : Res (List W)), (r.bind fun r h2 => (Res.ok (yw :: r) h2).bind fun r h => fin (acc ++ r) h) = (r.bind fun r h => fin ((acc ++ [yw]) ++ r) h) := fun r => by cases r <;> simp [Res.bind]
       have e2 := e (zc6 G T E (wipeI eta us) (ws.drop (i + 1)) s5.hp)
       exact e2 ▸ g5
   ·have e : i = ws.length := by omega
    subst e
    refine .inl ⟨q2 rfl, ?_⟩
    rw [List.drop_length] at g1
    simp only [zc6, Res.bind, List.append_nil] at g1
    exact hf s0 s acc xs D Q A1 R1 hD nr nf hDx l1 g1
  ·exact g0.elim
end
end Mir
namespace Mir
open PySem PySem.Spec L2
open PyProof.Rows hiding St
structure FnG (P : Program) (w : World) (K : PySem.W.Frag) (mg : Str → Option Value) (base : Heap) (CX : CXT) (k : Nat) (f : Addr) (fd : FuncData) (ps : List Str) (sp : Sp) : Prop where
 len : ∀ vs H Q E, sp vs H Q E → vs.length = ps.length
 run : ∀ (A : Around) (outer : List Env) (s : Shared) (H : Hp) (args : Args) (us : List Value) (vs : List V) (Q : VK) (E : XK), Room k A → A.guards = some [] → Env0 P w K mg base A outer s H → BindsTo s fd args (ps.zip us) → Vals vs us →
  sp vs H Q E → codeAny Ycz A (.call (.ref f) args) (CR CX outer P w H s Q E) s
section
variable {P : Program} {w : World} {K : PySem.W.Frag} {mg : Str → Option Value} {base : Heap} {CX : CXT} {f : Addr} {fd : FuncData} {ps : List Str} {sp : Sp}
theorem FnG.mono {j k : Nat} (F : FnG P w K mg base CX j f fd ps sp) (h : j ≤ k) : FnG P w K mg base CX k f fd ps sp :=
 ⟨F.len, fun A outer s H args us vs Q E hr hg => F.run A outer s H args us vs Q E (hr.mono h) hg⟩
/-- a def by its body -/
theorem Fun.okG {k : Nat} {x qual : Str} {st : Stmt} {N : List Str} {dvs : List V} {kws : List Ycy} (F : FunD K x qual (defArgs st) Ydd Y9 dvs kws f fd) (S : FnScope N ps Y9) (len : ∀ vs H Q E, sp vs H Q E → vs.length = ps.length)
  (hb : ∀ (cdv : Value) (A : Around) (outer : List Env) (s : Shared) (H : Hp) (vs : List V) (Q : VK) (E : XK), Room k Ybz → A.guards = some [] → sp vs H Q E →
   ∃ t, PSs Yda Ydd t ∧ t { nx := fun _ H' => Q .non H', rt := Q } (L2.start N vs) H) : FnG P w K mg base CX (k + 1) f fd ps sp := by
 obtain ⟨oc, od, dV, kV, doc, pm, an, cdv, ct, osl, rfl, lk, hcd, _, _⟩ := F.ex
 refine ⟨len, fun A outer s H args us vs Q E hr hgd e0 hbd r hsp => ?_⟩
 have hl := len _ _ _ _ hsp
 have keep : ∀ b o, base.get? b = some o → s.heap.get? b = some o := fun b o e => (e0.bs b o e).1
 have KX : K.In s.heap := e0.mod.kin.keeps keep
 have bound : ∀ y ∈ ps.zip us, (defScope st).names.lookup y.1 = some .local ∨ ((defScope st).names.lookup y.1 = some .cell ∧ ((cellsFrom Ya1 (defScope st).names []).lookup y.1).isSome = true) := by
  rintro ⟨n, v⟩ hy
  refine (S.par n (List.of_mem_zip hy).1).imp id fun q => ⟨q, ?_⟩
  exact PySem.W.cellsFrom_some _ _ _ (.inl q)
 refine codeAny_call_function hr.depth (KX _ _ lk) rfl S.co S.gen rfl (PySem.W.codeRec_of KX hcd) (hbd _ _ _ _ ?_)
 refine wpAny_newFunctionEnv_cells S.kind bound ?_
 rintro env rfl s1 x
 refine ⟨(e0.mod.nolimit.keeps keep).keeps x.toInCall.keep, codeAny_func ?_⟩
 obtain ⟨t, ht, hq⟩ := hb cdv A outer s H vs Q E (hr.deeper _) hgd hsp
 have I := inv_start (CX := CX) (N := N) (E := E) S hr.hd e0 hl r x
 refine wpAny_mono (ht.run [] s1 (L2.start N vs) H _ I hq) ?_ fun e s' hs => hs
 have fin : ∀ {s' : Shared} {σ' : L2.St} {H' : Hp} {v : V} {u : Value}, Inv Yda [] σ' H' s' → RelV v u → Q v H' → CE outer P w H s Q u s' :=
  fun {s' σ' H' v u} J rv q => ⟨v, H', J.os, J.bare, J.base, J.hok, rv, q⟩
 intro fl s' hs
 cases fl with
 | ret u => obtain ⟨v, σ', H', J, rv, q⟩ := hs; exact fin J rv q
 | next => obtain ⟨σ', H', J, q⟩ := hs; exact fin (v := V.non) (u := Value.none) J rfl q
 | brk => obtain ⟨_, _, _, q⟩ := hs; exact q.elim
 | cont => obtain ⟨_, _, _, q⟩ := hs; exact q.elim
end
section
variable {X : Cx} {CX : CXT} {k : Nat} {f C : Addr} {fd : FuncData} {ps : List Str} {sp : Sp} {dvs : List V} {ds : List Value} {E : XK} {x m : Str} {p pos apos : Pos} {e o : Expr} {es : List Expr} {ta : TE} {t : TA}
theorem runG {pins : List Ybt} {σ : L2.St} {H : Hp} {s : Shared} {Q : VK} {us : List Value} {vs : List V} (F : FnG X.prog X.w X.K X.mg X.base CX k f fd ps sp) (hr : Room k X.A) (hgd : X.A.guards = some []) (hb : Binds X.K fd ps ds) (hd : Vals dvs ds) (hx : Passes CX X E)
  (I : Inv X pins σ H s) (r : Vals vs us) (h : sp (vs ++ dvs) H Q E) : wpAny Yx X.A (call (.ref f) us) (EP X pins σ Q) X.xe s := by
 have r2 := r.append hd
 have hl : (us ++ ds).length = ps.length := r2.length.symm.trans (F.len _ _ _ _ h)
 refine wpAny_call (codeAny_mono (F.run X.A X.stack s H ⟨us, []⟩ (us ++ ds) (vs ++ dvs) Q E hr hgd I.env0 (hb s us I.kIn hl) r2 h) ?_)
 rintro (e | fl) s' hq
 ·exact hx pins σ H s e s' I hq
 ·cases fl <;> first | exact I.after hq | exact (show False from hq).elim
theorem pe_callG (F : FnG X.prog X.w X.K X.mg X.base CX k f fd ps sp) (hr : Room k X.A) (hgd : X.A.guards = some []) (hg : Gl X x) (hm : X.mg x = some (.ref f)) (hk : PySem.W.keepIn X.K (.ref f) = true) (hb : Binds X.K fd ps ds) (hd : Vals dvs ds) (hx : Passes CX X E)
  (ha : PA X Yae t) (hdb : (x == ("__debug__" : Str)) = false := by decide) (he : starEach Yae X.env = (false, eval e X.env) :: starEach es X.env := by rfl) (hpl : (backTo pos Ybe).any (·.1) = false := by rfl) :
  PE X Ybp (tCall sp dvs E t) := ⟨fun pins s σ H Q I h => by
 refine wpAny_Call_Name_kw (ld_glob I hg hm ?_ hdb)
 refine PySem.W.callWith_K (h₀ := X.base) I.ok.mod.kin hk (thn (ha.run pos pins s σ H _ I h) ?_) he hpl
 rintro us s1 ⟨vs, H1, I1, r, q⟩
 exact ⟨I1.kIn, runG F hr hgd hb hd hx I1 r q⟩⟩
end
end Mir
namespace Mir
open PySem PySem.Spec L2
open PyProof.Rows hiding St
section
variable {K : PySem.W.Frag} {ω : World} {s : S4}
/-- a frozen sequence, as it lies -/
def FSq (K : PySem.W.Frag) (ω : World) (s : S4) (kd : Kd) (a : Addr) (ts : List T) : Prop := ∃ vs, Sq K s.H kd a vs ∧ RfL K s.fz s.H ts vs ∧ ∀ s', Aft s s' → Rel K ω s' → Sq K s'.H kd a vs
theorem fsq_of (R : Rel K ω s) {x : T} {v : V} (r : Rf K s.fz s.H x v) {ts : List T} (h : x = .tup ts ∨ x = .lst ts ∨ x = .scr ts) : ∃ kd a, v = .ref a ∧ FSq K ω s kd a ts := by
 rcases h with h | h | h <;> subst h
 ·obtain ⟨a, vs, e, t, l⟩ : ∃ a vs, v = .ref a ∧ FTup K s.fz s.H a vs ∧ RfL K s.fz s.H ts vs := by simpa only [Rf] using r
  exact ⟨.t, a, e, vs, t.sq, l, fun s' A _ => (t.aft A R).sq⟩
 ·obtain ⟨a, vs, e, t, l⟩ : ∃ a vs, v = .ref a ∧ FLst s.fz s.H a vs ∧ RfL K s.fz s.H ts vs := by simpa only [Rf] using r
  exact ⟨.l, a, e, vs, t.sq, l, fun s' A _ => (t.aft A R).sq⟩
 ·obtain ⟨a, vs, e, t, l⟩ : ∃ a vs, v = .ref a ∧ FScr K s.fz s.H a vs ∧ RfL K s.fz s.H ts vs := by simpa only [Rf] using r
  exact ⟨.l, a, e, vs, t.sq, l, fun s' A _ => (t.aft A R).sq⟩
/-- what a value walks, frozen -/
def seqT : W → Option (List T)
 | .t (.tup ts) => some ts
 | .t (.lst ts) => some ts
 | .t (.scr ts) => some ts
 | _ => none
theorem seqT_of {w : W} {ts : List T} (h : seqT w = some ts) : ∃ x, w = .t x ∧ (x = .tup ts ∨ x = .lst ts ∨ x = .scr ts) := by
 unfold seqT at h
 split at h <;> simp only [Option.some.injEq, reduceCtorEq] at h <;> subst h
 ·exact ⟨_, rfl, .inl rfl⟩
 ·exact ⟨_, rfl, .inr (.inl rfl)⟩
 ·exact ⟨_, rfl, .inr (.inr rfl)⟩
theorem fsq (R : Rel K ω s) {w : W} {v : V} {ts : List T} (h : seqT w = some ts) (r : Rw K s w v) : ∃ kd a, v = .ref a ∧ FSq K ω s kd a ts := by
 obtain ⟨x, rfl, hx⟩ := seqT_of h
 exact fsq_of R r hx
/-- plainly -/
theorem src_sq (R : Rel K ω s) {kd : Kd} {a : Addr} {ts : List T} (h : FSq K ω s kd a ts) : SrcF K ω s Yv (ItQ K kd a) := by
 obtain ⟨vs, _, l, st⟩ := h
 intro s' A' R' i
 have q := st s' A' R'
 have l' := RfL.aft A' R _ _ l
 have hl := RfL.length l
 refine ⟨fun w hw => ?_, fun e => ?_⟩
 ·obtain ⟨t, ht, rfl⟩ : ∃ t, ts[i]? = some t ∧ W.t t = w := by simpa using hw
  obtain ⟨v, hv, rv⟩ := RfL.get l' ht
  cases kd with
  | l => exact ⟨⟨vs, v, q, hv⟩, fun x H' y => ⟨s', y.1.symm, rfl, Aft.refl _, R', by
    have := y.2 vs q
    rw [hv] at this
    cases this
    exact rv⟩⟩
  | t => exact ⟨⟨vs, v, q, hv⟩, fun x H' y => ⟨s', y.1.symm, rfl, Aft.refl _, R', by
    have := y.2 vs q
    rw [hv] at this
    cases this
    exact rv⟩⟩
 ·cases kd with
  | l => exact ⟨vs, q, by rw [e, List.length_map, hl]; exact Nat.le_refl _⟩
  | t => exact ⟨vs, q, by rw [e, List.length_map, hl]; exact Nat.le_refl _⟩
theorem src_rng (lo : Int) (n : Nat) : SrcF K ω s ((List.range n).map fun i => W.t (.int (lo + (i : Nat)))) (Itr lo n) := by
 intro s' A' R' i
 refine ⟨fun w hw => ?_, fun e => ?_⟩
 ·have hi : i < n := by
   have := (List.getElem?_eq_some_iff.mp hw).1
   simpa using this
  refine ⟨hi, fun x H' y => ⟨s', y.1.symm, rfl, Aft.refl _, R', ?_⟩⟩
  have e : W.t (.int (lo + (i : Nat))) = w := by
   rw [List.getElem?_map, List.getElem?_range hi] at hw
   simpa using hw
  subst e
  simp only [Rw, Rf]
  exact y.2
 ·show n ≤ i
  rw [e]
  simp
/-- enumerate -/
def enumT : Nat → List T → List W
 | _, [] => []
 | i, t :: ts => .t (.pr [.int (i : Nat), t]) :: enumT (i + 1) ts
/-- zip -/
def zipT : List T → List T → List W
 | t :: ts, u :: us => .t (.pr [t, u]) :: zipT ts us
 | _, _ => []
/-- a text, sign by sign -/
def signs (x : Str) : List W := x.cps.toList.map fun c => .t (.str ⟨#[c]⟩)
theorem src_str (x : Str) : SrcF K ω s (signs x) (Its x) := by
 intro s' A' R' i
 refine ⟨fun w hw => ?_, fun e => ?_⟩
 ·unfold signs at hw
  rw [List.getElem?_map, Option.map_eq_some_iff] at hw
  obtain ⟨c, hc, rfl⟩ := hw
  have hc' : x.cps[i]? = some c := by simpa using hc
  refine ⟨(Array.getElem?_eq_some_iff.mp hc').1, fun v H' y => ⟨s', y.1.symm, rfl, Aft.refl _, R', ?_⟩⟩
  obtain ⟨_, c', h1, h2⟩ := y
  rw [hc'] at h1
  cases h1
  simp only [Rw, Rf]
  exact h2
 ·show x.cps.size ≤ i
  rw [e]
  simp [signs]
end
def rng1 (ws : List W) (hp : IH) : Res (List W) := match ws with
 | [.t (.int j)] => if -(2 ^ 62) ≤ j ∧ j < 2 ^ 62 then .ok ((List.range j.toNat).map fun i => W.t (.int (0 + (i : Nat)))) hp else .bad
 | _ => .bad
def rng2 (ws : List W) (hp : IH) : Res (List W) := match ws with
 | [.t (.int i), .t (.int j)] => if -(2 ^ 62) ≤ i ∧ i < 2 ^ 62 ∧ -(2 ^ 62) ≤ j ∧ j < 2 ^ 62 then .ok Yfq hp else .bad
 | _ => .bad
def enum1 (ws : List W) (hp : IH) : Res (List W) := match ws with
 | [a] => (match seqT a with | some ts => .ok (enumT 0 ts) hp | none => .bad)
 | _ => .bad
def zip2 (ws : List W) (hp : IH) : Res (List W) := match ws with
 | [a, b] => (match seqT a, seqT b with | some ts, some us => .ok (zipT ts us) hp | _, _ => .bad)
 | _ => .bad
def sqI (a : W) (hp : IH) : Res (List W) := match seqT a with | some ts => .ok Yv hp | none => .bad
def strI (a : W) (hp : IH) : Res (List W) := match a with | .t (.str x) => .ok (signs x) hp | _ => .bad
def mSq (F : M W) : M (List W) := fun eta hp => (F eta hp).bind sqI
def mStrI (F : M W) : M (List W) := fun eta hp => (F eta hp).bind strI
def mSrc (f : List W → IH → Res (List W)) (Fs : M (List W)) : M (List W) := fun eta hp => (Fs eta hp).bind f
section
variable {X : Cx} {Wx : WX} {tg a b e : Expr} {F : M W} {Fs : M (List W)} {p pos tpos : Pos} {elts : List Expr} {kk : Nat}
theorem Go.src {s : S4} {ws : List W} {J : It} {Q : It → Hp → Prop} (R : Rel X.K X.w s) (g : Go X.K X.w Wx (SrcF X.K X.w) s (.ok ws s.hp) Q) (h : SrcF X.K X.w s ws J) : Q J s.H := g J s rfl Ye R h
/-- a list or a tuple -/
theorem zct (he : IE X Wx e F) : II X Wx tg e (mSq F) := PI.imp (pi_sq he) fun σ H Q h =>
 tM.bind1 (R := fun (x : V) (H1 : Hp) => ∃ kd a xs, x = .ref a ∧ Sq X.K H1 kd a xs ∧ Q (ItQ X.K kd a) H1) (k := fun (a : W) _ h1 => sqI a h1) h fun s eta w v R1 S1 f1 g => by
  unfold sqI at g
  cases hq : seqT w with
  | none => simp only [hq] at g; exact g.elim
  | some ts =>
   simp only [hq] at g
   obtain ⟨kd, a, ev, fs⟩ := fsq R1 hq f1
   exact ⟨kd, a, _, ev, fs.choose_spec.1, Go.src R1 g (src_sq R1 fs)⟩
theorem ii_str (he : IE X Wx e F) : II X Wx tg e (mStrI F) := PI.imp (pi_str he) fun σ H Q h =>
 tM.bind1 (R := fun (x : V) (H1 : Hp) => ∃ z, x = .str z ∧ Q (Its z) H1) (k := fun (a : W) _ h1 => strI a h1) h fun s eta w v R1 S1 f1 g => by
  unfold strI at g
  split at g
  ·rename_i x
   simp only [Rw, Rf] at f1
   exact ⟨x, f1, Go.src R1 g (src_str x)⟩
  ·exact g.elim
theorem rwl1 {K : PySem.W.Frag} {s : S4} {a : W} {vs : List V} (h : RwL K s [a] vs) : ∃ v, vs = [v] ∧ Rw K s a v := by
 obtain ⟨v, r, e, q, n⟩ := h
 rw [show r = [] from n] at e
 exact ⟨v, e, q⟩
theorem ii_rng1 (hg : Gl X "range") (hm : X.mg "range" = none) (ha : IA X Wx [a] Fs) (hs : starEach [a] X.env = [(false, eval a X.env)] := by rfl) : II X Wx tg (.Call (.Name "range" p) [a] [] pos) (mSrc rng1 Fs) := PI.imp (pi_range1 hg hm ha hs) fun σ H Q h =>
 tM.bind1 (R := fun (vs : List V) (H1 : Hp) => ∃ j : Int, vs = [.int j] ∧ -(2 ^ 62) ≤ j ∧ j < 2 ^ 62 ∧ Q (Itr 0 j.toNat) H1) (k := fun (ws : List W) _ h1 => rng1 ws h1) h fun s eta ws vs R1 S1 f1 g => by
  unfold rng1 at g
  split at g
  ·rename_i j
   split at g
   ·rename_i hj
    obtain ⟨v, ev, rv⟩ := rwl1 f1
    simp only [Rw, Rf] at rv
    subst rv
    exact ⟨j, ev, hj.1, hj.2, Go.src R1 g (src_rng 0 _)⟩
   ·exact g.elim
  ·exact g.elim
end
section
variable {X : Cx} {Wx : WX} {elt tg iter : Expr} {ifs : List Expr} {scope : Scope} {own : List (Str × Nat)} {Fi : M (List W)} {pos : Pos} {g : TG} {G : W → IS → Option IS} {vs : List Nat} {tt : TT} {T : M Bool} {E : M W} {fin : OpN}
def mYes : M Bool := fun _ hp => .ok true hp
/-- a clause's tests -/
def ITs (X : Cx) (ifs : List Expr) (T : M Bool) : Prop := PTs X ifs (tT X.K X.w W0 T)
theorem PTs.imp {t t' : TT} (h : PTs X ifs t) (i : ∀ σ H Q, t' σ H Q → t σ H Q) : PTs X ifs t' := ⟨fun pins s σ H Q I hw => h.run pins s σ H Q I Ye3⟩
theorem zbi : ITs X [] mYes := PTs.imp pts_nil fun σ H Q h => by
 obtain ⟨s, eta, e1, R1, S1, g⟩ := h
 subst e1
 exact g true s rfl Ye R1 rfl
theorem its_one {c : Expr} (h : IT X W0 c T) : ITs X [c] T := pts_one h
theorem zbn (hc : X.calm = true) (hN : X.N.Nodup) (hi : II X Wx tg iter Fi) (ok : BlkOk X.N X.env.scope scope own)
  (hg : ∀ (s : Shared) (H : Hp) (C : Addr) (cl : List (Str × Addr)) (fp : List Addr), PG Yao tg g) (tok : TgOk X.K X.w g G vs)
  (ht : ∀ (s : Shared) (H : Hp) (C : Addr) (cl : List (Str × Addr)) (fp : List Addr), ITs Yao ifs T)
  (he : ∀ (s : Shared) (H : Hp) (C : Addr) (cl : List (Str × Addr)) (fp : List Addr), IE Yao W0 elt E) (hf : FinOk X.K X.w Wx fin) (hv : ∀ i ∈ vs, i ∈ own.map (·.2) := by decide) (hs : ∀ x, foldedSetIterable iter X.env x = pure x := by intro _; rfl) :
  IE X Wx Ydp (zb5 fin Fi G T E (own.map (·.2))) := PE.imp (pe_lc (tt := tT X.K X.w W0 T) (te := tE X.K X.w W0 E) hc hN hi ok hg ht he hs) (t_comp _ tok hv hf)
theorem st_comp {i : Nat} {y : Str} {py spos : Pos} (hc : X.calm = true) (hN : X.N.Nodup) (hy : X.N[i]? = some y) (hyl : X.env.scope.names.lookup y = some .local)
  (hsw : swapsWith Ydp (some (.Name y py)) spos.line X.env = pure true) (hi : II X Wx tg iter Fi) (ok : BlkOk X.N X.env.scope scope own)
  (hg : ∀ (s : Shared) (H : Hp) (C : Addr) (cl : List (Str × Addr)) (fp : List Addr), PG Yao tg g) (tok : TgOk X.K X.w g G vs)
  (ht : ∀ (s : Shared) (H : Hp) (C : Addr) (cl : List (Str × Addr)) (fp : List Addr), ITs Yao ifs T)
  (he : ∀ (s : Shared) (H : Hp) (C : Addr) (cl : List (Str × Addr)) (fp : List Addr), IE Yao W0 elt E) (hf : FinOk X.K X.w Wx fin) (hv : ∀ i ∈ vs, i ∈ own.map (·.2) := by decide) (hs : ∀ x, foldedSetIterable iter X.env x = pure x := by intro _; rfl) :
  ISt X Wx (.Assign [.Name y py] Ydp spos) (mSet i (zb5 fin Fi G T E (own.map (·.2)))) := PS.imp (ps_setLc (tt := tT X.K X.w W0 T) (te := tE X.K X.w W0 E) hc hN hy hyl hsw hi ok hg ht he hs) fun D σ H h => by
 have h' : tE X.K X.w Wx (zb5 fin Fi G T E (own.map (·.2))) σ H (fun x H1 => D.nx (σ.set i (some x)) H1) :=
  tM.bind1 (R := fun (y : V) (H1 : Hp) => D.nx (σ.set i (some y)) H1) (k := fun (a : W) eta hp => .ok (Fl.nx Yfi) hp) h fun s eta a b R1 S1 f1 g1 => Go.nx R1 (S1.set i f1) g1
 exact t_comp _ tok hv hf σ H _ h'
end
/-- a def's function: its body at its parameters; a live result may not be younger than the call -/
def fnM (n nn : Nat) (B : M Fl) : OpN := fun ws hp => if ws.length = n then (match B Yd6 hp with
  | .ok (.rt w) h => .ok w h
  | .ok (.nx _) h => .ok Ydj h
  | .er e _ h => .er e [] h
  | _ => .bad) else .bad
/-- .. of trees alone: its own cells are dropped -/
def fnP (n nn : Nat) (B : M Fl) : OpN := fun ws hp => if ws.length = n ∧ (allT ws).isSome = true then (match B Yd6 [] with
  | .ok (.rt (.t x)) _ => .ok (.t x) hp
  | .ok (.nx _) _ => .ok Ydj hp
  | _ => .bad) else .bad
/-- the promise made of a function -/
def spM (K : PySem.W.Frag) (ω : World) (f : OpN) (n : Nat) : Sp := fun vs H Q _ => ∃ (s : S4) (ws : List W), s.H = H ∧ Rel K ω s ∧ RwL K s ws vs ∧ ws.length = n ∧ Go K ω W0 (Rw K) s (noEr (f ws s.hp)) Q
section
variable {K : PySem.W.Frag} {ω : World}
theorem spM_len {f : OpN} {n : Nat} {vs : List V} {H : Hp} {Q : VK} {E : XK} (h : spM K ω f n vs H Q E) : vs.length = n := by
 obtain ⟨s, ws, _, _, l, e, _⟩ := h
 rw [← RwL.length l, e]
theorem sl_start {s : S4} {N : List Str} {ws : List W} {vs : List V} (l : RwL K s ws vs) : Sl K s (ws.map some ++ List.replicate (N.length - ws.length) none) (L2.start N vs) := by
 have hl := RwL.length l
 refine ⟨by simp [L2.start, hl], fun i w e => ?_⟩
 by_cases hi : i < ws.length
 ·rw [List.getElem?_append_left (by simpa using hi), List.getElem?_map] at e
  cases q : ws[i]? with
  | none => rw [q] at e; cases e
  | some w' =>
   rw [q] at e
   cases e
   obtain ⟨v, h1, h2⟩ := RwL.get l q
   refine ⟨v, ?_, h2⟩
   unfold L2.start
   rw [List.getElem?_append_left (by rw [List.length_map, ← hl]; exact hi), List.getElem?_map, h1]
   rfl
 ·rw [List.getElem?_append_right (by simpa using hi), List.getElem?_replicate] at e
  split at e <;> cases e
/-- a run over the caller's heap without its cells -/
def S4.bare (s : S4) : S4 := ⟨[], s.fz, [], s.H⟩
theorem rel_bare {s : S4} (R : Rel K ω s) : Rel K ω s.bare := ⟨rfl, List.nodup_nil, fun a m => absurd m (by simp [S4.bare]), R.ftrk, fun a l => by obtain ⟨i, c, e, _⟩ := l; simp [S4.bare] at e, fun i c a e => by simp [S4.bare] at e⟩
theorem Rf.bare {s : S4} {x : T} {v : V} (h : Rw K s (.t x) v) : Rw K s.bare (.t x) v := h
theorem aft_bare {s s' : S4} (R : Rel K ω s) (A : Aft s.bare s') : Aft s ⟨s.rho, s'.fz, s.hp, s'.H⟩ ∧ (Rel K ω s' → Rel K ω ⟨s.rho, s'.fz, s.hp, s'.H⟩) := by
 have nl : ∀ a, ¬ Live s.bare a := fun a l => by obtain ⟨i, c, e, _⟩ := l; simp [S4.bare] at e
 have A1 : Aft s ⟨s.rho, s'.fz, s.hp, s'.H⟩ := by
  refine ⟨⟨[], by simp, by simp⟩, A.fz, fun a o e _ => A.keep a o e (nl a), fun a f => ?_, fun a l => .inl l, A.trk⟩
  rcases A.fnew a f with f | f | f
  ·exact .inl f
  ·exact .inr (.inl f)
  ·exact (nl a f).elim
 refine ⟨A1, fun R' => ⟨R.len, R.nd, fun a m => A.trk a (R.trk a m), R'.ftrk, fun a l f => ?_, fun i c a e1 e2 => ?_⟩⟩
 ·rcases A.fnew a f with f | f | f
  ·exact R.fz a l f
  ·obtain ⟨i, c, e1, e2⟩ := l
   exact R.liveH e1.1 e2 f
  ·exact nl a f
 ·have q := R.cell i c a e1 e2
  have ha : s.H a ≠ none := R.liveH e1 e2
  cases hq : s.H a with
  | none => exact absurd hq ha
  | some o =>
   show CellOk K ω _ a c (s'.H a)
   rw [A.keep a o hq (nl a), ← hq]
   exact q.aft A1 R
variable {P : Program} {w : World} {mg : Str → Option Value} {base : Heap}
theorem okM {x qual : Str} {st : Stmt} {f : Addr} {fd : FuncData} {N ps : List Str} {k : Nat} {B : M Fl} {dfs : List V} {kws : List Ycy} (F : FunD K x qual (defArgs st) Ydd Y9 dfs kws f fd) (S : FnScope N ps Y9)
  (hb : ∀ (cdv : Value) (A : Around) (outer : List Env) (s : Shared) (H : Hp) (E : XK), Room k Ybz → A.guards = some [] → ISs (cxOf Yf P w K mg base N qual Y9 f cdv A outer s H E).nox W0 Ydd B) :
  FnG P w K mg base Yf (k + 1) f fd ps (spM K w (fnM ps.length N.length B) ps.length) := by
 refine Fun.okG F S (fun vs H Q E h => spM_len h) fun cdv A outer s H vs Q E hr hgd h => ⟨_, PSs.nox (hb cdv A outer s H E hr hgd), ?_⟩
 obtain ⟨s0, ws, e1, R1, l, el, g⟩ := h
 refine ⟨s0, _, e1, R1, sl_start l, ?_⟩
 unfold fnM at g
 rw [if_pos el] at g
 rw [el]
 cases hB : B (ws.map some ++ List.replicate (N.length - ps.length) none) s0.hp with
 | ok fl hp =>
  rw [hB] at g
  cases fl with
  | rt wr => exact fun b s' h1 h2 h3 h4 => by cases b <;> first | exact h4.elim | exact g _ s' h1 h2 h3 h4
  | nx e => exact fun b s' h1 h2 h3 h4 => by cases b <;> first | exact h4.elim | exact g .non s' h1 h2 h3 (by simp [Rw, Rf])
  | bk e => exact g.elim
  | ct e => exact g.elim
 | er e eta hp => rw [hB] at g; exact g.elim
 | bad => rw [hB] at g; exact g.elim
theorem okP {x qual : Str} {st : Stmt} {f : Addr} {fd : FuncData} {N ps : List Str} {k : Nat} {B : M Fl} {dfs : List V} {kws : List Ycy} (F : FunD K x qual (defArgs st) Ydd Y9 dfs kws f fd) (S : FnScope N ps Y9)
  (hb : ∀ (cdv : Value) (A : Around) (outer : List Env) (s : Shared) (H : Hp) (E : XK), Room k Ybz → A.guards = some [] → ISs (cxOf Yf P w K mg base N qual Y9 f cdv A outer s H E).nox W0 Ydd B) :
  FnG P w K mg base Yf (k + 1) f fd ps (spM K w (fnP ps.length N.length B) ps.length) := by
 refine Fun.okG F S (fun vs H Q E h => spM_len h) fun cdv A outer s H vs Q E hr hgd h => ⟨_, PSs.nox (hb cdv A outer s H E hr hgd), ?_⟩
 obtain ⟨s0, ws, e1, R1, l, el, g⟩ := h
 unfold fnP at g
 cases ht : allT ws with
 | none => simp only [ht, Option.isSome_none, Bool.false_eq_true, and_false, if_false] at g; exact g.elim
 | some ts =>
  rw [if_pos ⟨el, by rw [ht]; rfl⟩] at g
  have lb : RwL K s0.bare ws vs := by
   rw [zbu ht] at l ⊢
   exact (RwL.of_trees (s := s0.bare)).mpr ((RwL.of_trees (s := s0)).mp l)
  refine ⟨s0.bare, _, e1, rel_bare R1, sl_start lb, ?_⟩
  rw [el]
  show Go K w W0 (RFl K) s0.bare (B _ []) _
  cases hB : B (ws.map some ++ List.replicate (N.length - ps.length) none) [] with
  | ok fl hp =>
   rw [hB] at g
   cases fl with
   | rt wr =>
    cases wr with
    | t y =>
     intro b s' h1 h2 h3 h4
     cases b <;> first | exact h4.elim | exact g _ ⟨s0.rho, s'.fz, s0.hp, s'.H⟩ rfl (aft_bare R1 h2).1 ((aft_bare R1 h2).2 h3) h4
    | r i => exact g.elim
   | nx e =>
    intro b s' h1 h2 h3 h4
    cases b <;> first | exact h4.elim | exact g .non ⟨s0.rho, s'.fz, s0.hp, s'.H⟩ rfl (aft_bare R1 h2).1 ((aft_bare R1 h2).2 h3) (by simp [Rw, Rf])
   | bk e => exact g.elim
   | ct e => exact g.elim
  | er e eta hp => rw [hB] at g; exact g.elim
  | bad => rw [hB] at g; exact g.elim
end
theorem zbt {n nn : Nat} {B : M Fl} : ∀ ws hp, ws.length ≠ n → fnM n nn B ws hp = .bad := fun ws hp h => by unfold fnM; rw [if_neg h]
theorem zau {n nn : Nat} {B : M Fl} : ∀ ws hp, ws.length ≠ n → fnP n nn B ws hp = .bad := fun ws hp h => by unfold fnP; rw [if_neg fun z => h z.1]
/-- f(e, ..), then the defaults -/
def zas (f : OpN) (ds : List T) (Fs : M (List W)) : M W := fun eta hp => (Fs eta hp).bind fun ws h1 => noEr (f (ws ++ ds.map W.t) h1)
section
variable {X : Cx} {Wx : WX} {k : Nat} {f : Addr} {fd : FuncData} {ps : List Str} {m : OpN} {n : Nat} {x : Str} {p pos : Pos} {e : Expr} {es : List Expr} {Fs : M (List W)} {dvs : List V} {ds : List Value} {dts : List T}
theorem zam (Fk : FnG X.prog X.w X.K X.mg X.base Ycd k f fd ps Yd7) (hr : Room k X.A) (hgd : X.A.guards = some []) (hg : Gl X x) (hm : X.mg x = some (.ref f)) (hk : PySem.W.keepIn X.K (.ref f) = true) (hb : Binds X.K fd ps ds) (hd : Vals dvs ds) (hdt : ∀ s, RwL X.K s (dts.map W.t) dvs) (hl : ∀ ws hp, ws.length ≠ n → m ws hp = .bad) (ha : IA X Wx Yae Fs)
  (hdb : (x == ("__debug__" : Str)) = false := by decide) (he : starEach Yae X.env = (false, eval e X.env) :: starEach es X.env := by rfl) (hpl : (backTo pos Ybe).any (·.1) = false := by rfl) : IE X Wx Ybp (zas m dts Fs) :=
 PE.imp (pe_callG Fk hr hgd hg hm hk hb hd passL ha hdb he hpl) fun σ H Q h =>
  tM.bind1 (R := fun (vs : List V) (H1 : Hp) => spM X.K X.w m n (vs ++ dvs) H1 Q E0) (k := fun (ws : List W) _ h1 => noEr (m (ws ++ dts.map W.t) h1)) h fun s eta ws vs R1 S1 f1 g => by
   refine ⟨s, ws ++ dts.map W.t, rfl, R1, RwL.append f1 (hdt s), ?_, ?_⟩
   ·by_cases e : (ws ++ dts.map W.t).length = n
    ·exact e
    ·rw [hl _ _ e] at g; exact g.elim
   ·cases hq : m (ws ++ dts.map W.t) s.hp with
    | ok a h => rw [hq] at g; exact g
    | er e eta h => rw [hq] at g; exact g.elim
    | bad => rw [hq] at g; exact g.elim
end
end Mir
namespace Mir
open PySem PySem.Spec L2
open PyProof.Rows hiding St
def opI (C : Int → Int → Bool) (g : Int → Int → Int) : Op2 := fun a b hp => match a, b with
 | .t (.int i), .t (.int j) => if C i j = true then .ok (.t (.int (g i j))) hp else .bad
 | _, _ => .bad
def opC (g : Int → Int → Bool) : Op2 := fun a b hp => match a, b with
 | .t (.int i), .t (.int j) => .ok (.t (.bl (g i j))) hp
 | _, _ => .bad
def cYes : Int → Int → Bool := fun _ _ => true
def cMul : Int → Int → Bool := fun i j => decide (i.natAbs.log2 + j.natAbs.log2 < 1000000)
def cDiv : Int → Int → Bool := fun _ j => decide (0 < j ∧ j.natAbs.log2 < 9000)
def cMod : Int → Int → Bool := fun _ j => decide (0 < j)
def cPow : Int → Int → Bool := fun i j => decide (0 ≤ j ∧ j ≤ 1000000 ∧ i.natAbs < 2 ^ 64)
section
variable {K : PySem.W.Frag} {ω : World} {Wx : WX}
theorem ok_opI {C : Int → Int → Bool} {g : Int → Int → Int} {P : Int → Int → Prop} (h : ∀ i j, C i j = true → P i j) : zcp K ω Wx (opI C g) (rI P fun i j => .int (g i j)) := by
 intro s a b x y Q R ra rb go
 unfold opI at go
 split at go
 ·rename_i i j
  split at go
  ·rename_i hc
   simp only [Rw, Rf] at ra rb
   exact ⟨i, j, ra, rb, h i j hc, go _ s rfl Ye R Yd⟩
  ·exact go.elim
 ·exact go.elim
theorem ok_opI0 {g : Int → Int → Int} : zcp K ω Wx (opI cYes g) (rI0 fun i j => .int (g i j)) := by
 intro s a b x y Q R ra rb go
 unfold opI at go
 split at go
 ·rename_i i j
  rw [if_pos (show cYes i j = true from rfl)] at go
  simp only [Rw, Rf] at ra rb
  exact ⟨i, j, ra, rb, go _ s rfl Ye R Yd⟩
 ·exact go.elim
theorem ok_opC {g : Int → Int → Bool} : zcp K ω Wx (opC g) (rI0 fun i j => .bl (g i j)) := by
 intro s a b x y Q R ra rb go
 unfold opC at go
 split at go
 ·rename_i i j
  simp only [Rw, Rf] at ra rb
  exact ⟨i, j, ra, rb, go _ s rfl Ye R Yd⟩
 ·exact go.elim
end
abbrev iSub : Op2 := opI cYes fun i j => i - j
abbrev iDiv : Op2 := opI cDiv fun i j => i / j
abbrev iMod : Op2 := opI cMod fun i j => i % j
abbrev iPow : Op2 := opI cPow fun i j => i ^ j.toNat
abbrev iLe : Op2 := opC fun i j => decide (i ≤ j)
abbrev iGt : Op2 := opC fun i j => decide (j < i)
abbrev iGe : Op2 := opC fun i j => decide (j ≤ i)
section
variable {X : Cx} {Wx : WX} {a b c e : Expr} {Fa Fb Fc F : M W} {pos : Pos}
theorem ie_sub (ha : IE X Wx a Fa) (hb : IE X Wx b Fb) : IE X Wx (.BinOp a .Sub b pos) (mBin iSub Fa Fb) := ie_bin op_sub ok_opI0 ha hb
theorem ie_div (ha : IE X Wx a Fa) (hb : IE X Wx b Fb) : IE X Wx (.BinOp a .FloorDiv b pos) (mBin iDiv Fa Fb) := ie_bin op_fdivW (ok_opI fun i j h => by simpa [cDiv, CDivW] using h) ha hb
theorem ie_mod (ha : IE X Wx a Fa) (hb : IE X Wx b Fb) : IE X Wx (.BinOp a .Mod b pos) (mBin iMod Fa Fb) := ie_bin op_mod (ok_opI fun i j h => by simpa [cMod] using h) ha hb
theorem ie_pow (ha : IE X Wx a Fa) (hb : IE X Wx b Fb) : IE X Wx (.BinOp a .Pow b pos) (mBin iPow Fa Fb) := ie_bin op_pow (ok_opI fun i j h => by simpa [cPow, CPow] using h) ha hb
theorem ie_gt (ha : IE X Wx a Fa) (hb : IE X Wx b Fb) : IE X Wx (.Compare a [.Gt] [b] pos) (mBin iGt Fa Fb) := ie_cmp op_gt ok_opC ha hb (nomark _)
theorem ie_ge (ha : IE X Wx a Fa) (hb : IE X Wx b Fb) : IE X Wx (.Compare a [.GtE] [b] pos) (mBin iGe Fa Fb) := ie_cmp op_ge ok_opC ha hb (nomark _)
theorem it_ge (ha : IE X Wx a Fa) (hb : IE X Wx b Fb) : IT X Wx (.Compare a [.GtE] [b] pos) (zal asB (mBin iGe Fa Fb)) := it_cmp op_ge ok_opC ha hb (nomark _)
def iNeg : Op1 := fun a hp => match a with | .t (.int i) => .ok (.t (.int (-i))) hp | _ => .bad
theorem ie_neg (ha : IE X Wx a Fa) : IE X Wx (.UnaryOp .USub a pos) (mUn iNeg Fa) := ie_un un_neg (fun s a x Q R ra go => by
 unfold iNeg at go
 split at go
 ·simp only [Rw, Rf] at ra
  exact ⟨_, ra, go _ s rfl Ye R Yd⟩
 ·exact go.elim) ha
end
def eqW (neg : Bool) : Op2 := fun a b hp => match asT hp a, asT hp b with
 | some x, some y => if fit x 60 = true ∧ fit y 60 = true then .ok (.t (.bl (if neg then !eqT x y else eqT x y))) hp else .bad
 | _, _ => .bad
def isN (neg : Bool) : Op2 := fun a b hp => match b with
 | .t .non => (match a with
  | .t .non => .ok (.t (.bl (!neg))) hp
  | _ => .ok (.t (.bl neg)) hp)
 | _ => .bad
def isB (neg : Bool) : Op2 := fun a b hp => match a, b with
 | .t (.bl i), .t (.bl j) => .ok Ygi hp
 | _, _ => .bad
def inW (neg : Bool) : Op2 := fun a b hp => match asT hp a, (items hp b).bind allT with
 | some x, some ys => if fit x 60 = true ∧ fitL ys 60 = true then .ok (.t (.bl (if neg then !(ys.any fun y => eqT y x) else ys.any fun y => eqT y x))) hp else .bad
 | _, _ => .bad
section
variable {K : PySem.W.Frag} {ω : World} {Wx : WX}
theorem ok_eq : zcp K ω Wx Ycm (rEqP K) := by
 intro s a b x y Q R ra rb go
 unfold eqW at go
 cases h1 : asT s.hp a with
 | none => simp only [h1] at go; exact go.elim
 | some u =>
  cases h2 : asT s.hp b with
  | none => simp only [h1, h2] at go; exact go.elim
  | some v =>
   simp only [h1, h2] at go
   split at go
   ·rename_i hf
    have p1 := zcy u 60 hf.1
    have p2 := zcy v 60 hf.2
    refine ⟨dat u, dat v, asT_dp R h1 ra hf.1, asT_dp R h2 rb hf.2, p1.1, p2.1, p1.2, ?_⟩
    rw [eqT_dat u v 60 60 hf.1 hf.2]
    exact go _ s rfl Ye R Yd
   ·exact go.elim
theorem ok_ne : zcp K ω Wx Ybv (rNeP K) := by
 intro s a b x y Q R ra rb go
 unfold eqW at go
 cases h1 : asT s.hp a with
 | none => simp only [h1] at go; exact go.elim
 | some u =>
  cases h2 : asT s.hp b with
  | none => simp only [h1, h2] at go; exact go.elim
  | some v =>
   simp only [h1, h2] at go
   split at go
   ·rename_i hf
    have p1 := zcy u 60 hf.1
    have p2 := zcy v 60 hf.2
    refine ⟨dat u, dat v, asT_dp R h1 ra hf.1, asT_dp R h2 rb hf.2, p1.1, p2.1, p1.2, ?_⟩
    rw [eqT_dat u v 60 60 hf.1 hf.2]
    exact go _ s rfl Ye R Yd
   ·exact go.elim
theorem rf_non {s : S4} {w : W} {v : V} (r : Rw K s w v) : (v = .non ↔ w = .t .non) := by
 cases w with
 | r i => obtain ⟨a, _, e⟩ := r; subst e; simp
 | t x =>
  cases x <;> simp only [Rw, Rf] at r <;> first
   | (subst r; simp)
   | (obtain ⟨a, _, e, _⟩ := r; subst e; simp)
   | (obtain ⟨a, _, _, e, _⟩ := r; subst e; simp)
   | (obtain ⟨a, e, _⟩ := r; subst e; simp)
   | exact r.elim
theorem ok_isN : zcp K ω Wx (isN false) (fun x y H Q => y = .non ∧ Q (.bl (decide (x = .non))) H) := by
 intro s a b x y Q R ra rb go
 unfold isN at go
 split at go
 ·refine ⟨by simpa only [Rw, Rf] using rb, ?_⟩
  split at go
  ·have e : x = .non := by simpa only [Rw, Rf] using ra
   rw [decide_eq_true e]
   exact go _ s rfl Ye R Yd
  ·rename_i hn
   have e : ¬ x = .non := fun e => hn ((rf_non ra).mp e)
   rw [decide_eq_false e]
   exact go _ s rfl Ye R Yd
 ·exact go.elim
theorem ok_notN : zcp K ω Wx (isN true) (fun x y H Q => y = .non ∧ Q (.bl (!decide (x = .non))) H) := by
 intro s a b x y Q R ra rb go
 unfold isN at go
 split at go
 ·refine ⟨by simpa only [Rw, Rf] using rb, ?_⟩
  split at go
  ·have e : x = .non := by simpa only [Rw, Rf] using ra
   rw [decide_eq_true e]
   exact go _ s rfl Ye R Yd
  ·rename_i hn
   have e : ¬ x = .non := fun e => hn ((rf_non ra).mp e)
   rw [decide_eq_false e]
   exact go _ s rfl Ye R Yd
 ·exact go.elim
theorem items_dp {s : S4} (R : Rel K ω s) {w : W} {v : V} {ys : List T} {n : Nat} (h : (items s.hp w).bind allT = some ys) (r : Rw K s w v) (f : fitL ys n = true) : Dp K s.H v (.list (datL ys)) ∨ Dp K s.H v (.tuple (datL ys)) := by
 rw [Option.bind_eq_some_iff] at h
 obtain ⟨ws, h1, h2⟩ := h
 obtain ⟨p, xs, e, q, l⟩ := items_sq R h1 r
 subst e
 rw [zbu h2] at l
 have d := RfL.dp ys xs n f Yef
 rcases q with q | q
 ·exact .inr (.tup q d)
 ·exact .inl (.lst q d)
theorem any_dat {x : T} {n m : Nat} (fx : fit x n = true) : ∀ (ys : List T), fitL ys m = true → (datL ys).any (fun z => PyData.eqv z (dat x)) = ys.any fun y => eqT y x
 | [], _ => rfl
 | y :: ys, f => by
  simp only [fitL, Bool.and_eq_true] at f
  simp only [datL, List.any_cons, eqT_dat y x m n f.1 fx, any_dat fx ys f.2]
theorem ok_in {neg : Bool} : zcp K ω Wx (inW neg) (rInP K neg) := by
 intro s a b x y Q R ra rb go
 unfold inW at go
 cases h1 : asT s.hp a with
 | none => simp only [h1] at go; exact go.elim
 | some u =>
  cases h2 : (items s.hp b).bind allT with
  | none => simp only [h1, h2] at go; exact go.elim
  | some ys =>
   simp only [h1, h2] at go
   split at go
   ·rename_i hf
    have p1 := zcy u 60 hf.1
    have p2 := fit_plainL ys 60 hf.2
    refine ⟨dat u, datL ys, asT_dp R h1 ra hf.1, items_dp R h2 rb hf.2, p1.1, p2.1, p1.2, ?_⟩
    rw [any_dat hf.1 ys hf.2]
    exact go _ s rfl Ye R Yd
   ·exact go.elim
end
section
variable {X : Cx} {Wx : WX} {a b c e : Expr} {Fa Fb Fc F : M W} {pos : Pos}
theorem ie_eq (hu : X.A.units + 64 < cLine) (ha : IE X Wx a Fa) (hb : IE X Wx b Fb) : IE X Wx (.Compare a [.Eq] [b] pos) (mBin Ycm Fa Fb) := ie_cmp (op_eqP hu) ok_eq ha hb (nomark _)
theorem it_eq (hu : X.A.units + 64 < cLine) (ha : IE X Wx a Fa) (hb : IE X Wx b Fb) : IT X Wx (.Compare a [.Eq] [b] pos) (zal asB (mBin Ycm Fa Fb)) := it_cmp (op_eqP hu) ok_eq ha hb (nomark _)
theorem it_ne (hu : X.A.units + 64 < cLine) (ha : IE X Wx a Fa) (hb : IE X Wx b Fb) : IT X Wx (.Compare a [.NotEq] [b] pos) (zal asB (mBin Ybv Fa Fb)) := it_cmp (op_neP hu) ok_ne ha hb (nomark _)
theorem it_isN (ha : IE X Wx a Fa) (hb : IE X Wx b Fb) : IT X Wx (.Compare a [.Is] [b] pos) (zal asB (mBin (isN false) Fa Fb)) := it_cmp op_isN ok_isN ha hb (nomark _)
theorem it_notN (ha : IE X Wx a Fa) (hb : IE X Wx b Fb) : IT X Wx (.Compare a [.IsNot] [b] pos) (zal asB (mBin (isN true) Fa Fb)) := it_cmp op_notN ok_notN ha hb (nomark _)
theorem it_in (hu : X.A.units + 64 < cLine) (ha : IE X Wx a Fa) (hb : IE X Wx b Fb) (hm : behindInMarks .In b = false := by rfl) : IT X Wx (.Compare a [.In] [b] pos) (zal asB (mBin (inW false) Fa Fb)) := it_cmp (op_inP hu) ok_in ha hb hm
theorem it_nin (hu : X.A.units + 64 < cLine) (ha : IE X Wx a Fa) (hb : IE X Wx b Fb) (hm : behindInMarks .NotIn b = false := by rfl) : IT X Wx (.Compare a [.NotIn] [b] pos) (zal asB (mBin (inW true) Fa Fb)) := it_cmp (op_ninP hu) ok_in ha hb hm
end
def ixW : Op2 := fun a b hp => match b with
 | .t (.int i) => (match a with
  | .t (.str z) => (match atI z.cps.toList i with | some c => if z.length ≤ 16777216 then .ok (.t (.str ⟨#[c]⟩)) hp else .bad | none => .bad)
  | a => (match (items hp a).bind fun ws => atI ws i with | some w => .ok w hp | none => .bad))
 | _ => .bad
section
variable {K : PySem.W.Frag} {ω : World} {Wx : WX}
theorem atI_rw {s : S4} {ws : List W} {vs : List V} {i : Int} {w : W} (l : RwL K s ws vs) (h : atI ws i = some w) : ∃ v, atI vs i = some v ∧ Rw K s w v := by
 unfold atI at h ⊢
 rw [Option.bind_eq_some_iff] at h
 obtain ⟨j, h1, h2⟩ := h
 obtain ⟨v, q1, q2⟩ := RwL.get l h2
 exact ⟨v, by rw [← RwL.length l, h1]; exact q1, q2⟩
theorem ok_ix : zcp K ω Wx ixW (rIx K) := by
 intro s a b x y Q R ra rb go
 unfold ixW at go
 split at go
 ·rename_i i
  have ey : y = .int i := by simpa only [Rw, Rf] using rb
  split at go
  ·rename_i z
   have ex : x = .str z := by simpa only [Rw, Rf] using ra
   split at go
   ·rename_i c hc
    split at go
    ·rename_i hz
     exact .inr (.inr ⟨z, i, c, ex, ey, by rw [sizeLine_eq]; exact hz, hc, go _ s rfl Ye R Yd⟩)
    ·exact go.elim
   ·exact go.elim
  ·split at go
   ·rename_i w hw
    rw [Option.bind_eq_some_iff] at hw
    obtain ⟨ws, h1, h2⟩ := hw
    obtain ⟨p, xs, e, q, l⟩ := items_sq R h1 ra
    obtain ⟨v, h3, h4⟩ := atI_rw l h2
    rcases q with q | q
    ·exact .inr (.inl ⟨p, xs, i, v, e, ey, q, h3, go _ s rfl Ye R h4⟩)
    ·exact .inl ⟨p, xs, i, v, e, ey, q, h3, go _ s rfl Ye R h4⟩
   ·exact go.elim
 ·exact go.elim
end
section
variable {X : Cx} {Wx : WX} {a b c e : Expr} {Fa Fb Fc F : M W} {pos : Pos}
theorem zaj (ha : IE X Wx a Fa) (hb : IE X Wx b Fb) (hs : PlainIx b := by intro _ _; rfl) : IE X Wx (.Subscript a b pos) (mBin ixW Fa Fb) := ie_ix ix_seq ok_ix ha hb hs
end
abbrev MO := M (Option Int)
def zco : MO := fun _ hp => .ok none hp
def mPart (F : M W) : MO := fun eta hp => (F eta hp).bind fun a h1 => match a with | .t (.int i) => .ok (some i) h1 | _ => .bad
def IO (X : Cx) (Wx : WX) (e : Option Expr) (F : MO) : Prop := PO X e (tM X.K X.w Wx Yfu F)
def cutL {A : Type} (xs : List A) (lo hi : Option Int) : List A := (xs.drop (HT.sIx xs.length 0 lo)).take (HT.sIx xs.length xs.length hi - HT.sIx xs.length 0 lo)
/-- a slice: of a frozen list a frozen one, of a live list a frozen one -/
def slW (a : W) (lo hi : Option Int) (hp : IH) : Res W := match a with
 | .t (.str z) => if z.length ≤ 16777216 then .ok (.t (.str (cutS z lo hi))) hp else .bad
 | .t (.tup ts) => .ok (.t (.tup Ye4)) hp
 | .t (.lst ts) => .ok (.t (.lst Ye4)) hp
 | .t (.scr ts) => .ok (.t (.lst Ye4)) hp
 | .r i => (match (getL hp i).bind allT with | some ts => .ok (.t (.lst Ye4)) hp | none => .bad)
 | _ => .bad
def mSl (Fa : M W) (Fl Fh : MO) : M W := fun eta hp => (Fa eta hp).bind fun a h1 => (Fl eta h1).bind fun l h2 => (Fh eta h2).bind fun h h3 => slW a l h h3
section
variable {X : Cx} {Wx : WX} {a b c e : Expr} {lo hi : Option Expr} {Fa Fb Fc F : M W} {Fl Fh : MO} {pos p2 : Pos}
theorem PO.imp {e : Option Expr} {t t' : TO} (h : PO X e t) (i : ∀ σ H Q, t' σ H Q → t σ H Q) : PO X e t' := ⟨fun pins s σ H Q I hw => h.run pins s σ H Q I Ye3⟩
theorem io_none : IO X Wx none zco := PO.imp po_none fun σ H Q h => by
 obtain ⟨s, eta, e1, R1, S1, g⟩ := h
 subst e1
 exact g none s rfl Ye R1 rfl
theorem zc3 (h : IE X Wx e F) : IO X Wx (some e) (mPart F) := PO.imp (po_some h) fun σ H Q h =>
 tM.bind1 (R := fun (x : V) (H1 : Hp) => ∃ i, x = .int i ∧ Q (some i) H1) (k := fun (a : W) _ h1 => (match a with | .t (.int i) => .ok (some i) h1 | _ => .bad : Res (Option Int))) h fun s eta a b R1 _ f1 g => by
  split at g
  ·rename_i i
   simp only [Rw, Rf] at f1
   exact ⟨i, f1, g (some i) s rfl Ye R1 rfl⟩
  ·exact g.elim
theorem cut_rf {K : PySem.W.Frag} {s : S4} : ∀ {ts : List T} {vs : List V} (n m : Nat), RfL K s.fz s.H ts vs → RfL K s.fz s.H ((ts.drop n).take m) ((vs.drop n).take m) := by
 intro ts vs n
 induction n generalizing ts vs with
 | zero =>
  intro m
  induction m generalizing ts vs with
  | zero => intro _; simp [RfL]
  | succ m ih =>
   intro h
   cases ts with
   | nil => simp only [RfL] at h; subst h; simp [RfL]
   | cons t ts =>
    simp only [RfL] at h
    obtain ⟨v, r, e, a, b⟩ := h
    subst e
    simp only [List.drop_zero, List.take_succ_cons, RfL]
    exact ⟨v, _, rfl, a, by simpa using ih b⟩
 | succ n ih =>
  intro m h
  cases ts with
  | nil => simp only [RfL] at h; subst h; simp [RfL]
  | cons t ts =>
   simp only [RfL] at h
   obtain ⟨v, r, e, a, b⟩ := h
   subst e
   simpa using ih m b
theorem cutL_rf {K : PySem.W.Frag} {s : S4} {ts : List T} {vs : List V} (lo hi : Option Int) (h : RfL K s.fz s.H ts vs) : RfL K s.fz s.H Ye4 (cutV vs lo hi) := by
 unfold cutL cutV
 rw [RfL.length h]
 exact cut_rf _ _ h
theorem cutL_whole {A : Type} {ts : List A} {lo hi : Option Int} (h : HT.sIx ts.length 0 lo = 0 ∧ HT.sIx ts.length ts.length hi = ts.length) : cutL ts lo hi = ts := by
 unfold cutL
 rw [h.1, h.2]
 simp
theorem SlR.or3 {r1 r2 r3 : V → Option Int → Option Int → Hp → VK → Prop} (h1 : SlR X r1) (h2 : SlR X r2) (h3 : SlR X r3) : SlR X (fun x lo hi H Q => r1 x lo hi H Q ∨ (r2 x lo hi H Q ∨ r3 x lo hi H Q)) := h1.or (h2.or h3)
/-- t[lo:hi]: the whole of it is t itself; the object of a new one is known -/
def rSlB (K : PySem.W.Frag) : V → Option Int → Option Int → Hp → VK → Prop := fun x l u H Q => ∃ a xs, x = .ref a ∧ SqT K H a xs ∧
 (HT.sIx xs.length 0 l = 0 ∧ HT.sIx xs.length xs.length u = xs.length → Q (.ref a) H) ∧
 (¬ (HT.sIx xs.length 0 l = 0 ∧ HT.sIx xs.length xs.length u = xs.length) → ∀ (p : Addr) (o : Obj), H p = none → o.dict = none → Q (.ref p) (upd H p (.frz o (.tup (cutV xs l u)))))
theorem sl_tupB : SlR X (rSlB X.K) := by
 intro pn s0 σ H x v vl vu l u sl Q J rx hs pl pu h
 obtain ⟨a, xs, ex, hx, q1, q2⟩ := h
 subst ex
 cases rx
 obtain ⟨its, r, ht, hz⟩ := J.tuple hx
 have hlen : its.toArray.size = xs.length := by rw [List.size_toArray]; exact r.length.symm
 by_cases hw : HT.sIx xs.length 0 l = 0 ∧ HT.sIx xs.length xs.length u = xs.length
 ·exact ⟨"tuple", _, PyProof.Rows.slot_tuple_getitem.lookup, ht.typeIs, getItem_tuple_whole ht hs pl pu (by rw [hlen]; exact hw) ⟨.ref a, H, J, rfl, q1 hw⟩⟩
 ·refine ⟨"tuple", _, PyProof.Rows.slot_tuple_getitem.lookup, ht.typeIs, HT.getItem_tuple_cut ht hs pl pu (by rw [hlen]; exact hw) ?_ (by rw [hlen]; exact hz)⟩
  rw [hlen]
  exact laid_tup (t' := s0.toks) J ((r.drop (HT.sIx xs.length 0 l)).take (HT.sIx xs.length xs.length u - HT.sIx xs.length 0 l)) (Nat.le_trans (cutV_length xs l u) hz) (q2 hw)
theorem zc5 (ha : IE X Wx a Fa) (hl : IO X Wx lo Fl) (hh : IO X Wx hi Fh) : IE X Wx (.Subscript a (.Slice lo hi none p2) pos) (mSl Fa Fl Fh) :=
 PE.imp (pe_slice (SlR.or3 sl_list sl_tupB sl_str) ha hl hh) fun σ H Q h =>
  tM.bind1 (R := fun (x : V) (H1 : Hp) => tM X.K X.w Wx Yfu Fl σ H1 fun l H2 => tM X.K X.w Wx Yfu Fh σ H2 fun u H3 => rSlL X.K x l u H3 Q ∨ (rSlB X.K x l u H3 Q ∨ rSlS x l u H3 Q))
   (k := fun (w : W) eta h1 => (Fl eta h1).bind fun l h2 => (Fh eta h2).bind fun h h3 => slW w l h h3) h fun s eta w v R1 S1 f1 g => by
   refine ⟨s, eta, rfl, R1, S1, Go.bind g fun l l' s2 A2 R2 e2 _ g2 => ?_⟩
   subst e2
   refine ⟨s2, eta, rfl, R2, S1.aft A2 R1, Go.bind g2 fun u u' s3 A3 R3 e3 _ g3 => ?_⟩
   subst e3
   have f3 := (f1.aft A2 R1).aft A3 R2
   unfold slW at g3
   split at g3
   ·rename_i z
    split at g3
    ·rename_i hz
     simp only [Rw, Rf] at f3
     exact .inr (.inr ⟨z, f3, by rw [sizeLine_eq]; exact hz, g3 _ s3 rfl (Aft.refl s3) R3 Yd⟩)
    ·exact g3.elim
   ·rename_i ts
    obtain ⟨p, xs, e, t, q⟩ : ∃ a vs, v = .ref a ∧ FTup X.K s3.fz s3.H a vs ∧ RfL X.K s3.fz s3.H ts vs := by simpa only [Rw, Rf] using f3
    have hl := RfL.length q
    refine .inr (.inl ⟨p, xs, e, t.sq, fun hw => ?_, fun hw p' o np d => ?_⟩)
    ·refine g3 (.ref p) s3 rfl (Aft.refl s3) R3 ?_
     rw [← hl] at hw
     rw [cutL_whole hw]
     simp only [Rw, Rf]
     exact ⟨p, xs, rfl, t, q⟩
    ·exact g3 (.ref p') (s3.addF p' (.frz o (.tup (cutV xs l u)))) rfl (za0 R3 np) (za8 R3 np) (addF_tup R3 np d (cutL_rf l u q))
   ·rename_i ts
    obtain ⟨p, xs, e, t, q⟩ : ∃ a vs, v = .ref a ∧ FLst s3.fz s3.H a vs ∧ RfL X.K s3.fz s3.H ts vs := by simpa only [Rw, Rf] using f3
    exact .inl ⟨p, xs, e, t.sq, fun p' np => g3 (.ref p') Yf6 rfl (za0 R3 np) (za8 R3 np) (zbq R3 np (cutL_rf l u q))⟩
   ·rename_i ts
    obtain ⟨p, xs, e, t, q⟩ : ∃ a vs, v = .ref a ∧ FScr X.K s3.fz s3.H a vs ∧ RfL X.K s3.fz s3.H ts vs := by simpa only [Rw, Rf] using f3
    exact .inl ⟨p, xs, e, t.sq, fun p' np => g3 (.ref p') Yf6 rfl (za0 R3 np) (za8 R3 np) (zbq R3 np (cutL_rf l u q))⟩
   ·rename_i i
    split at g3
    ·rename_i ts hq
     rw [Option.bind_eq_some_iff] at hq
     obtain ⟨ws, h1, h2⟩ := hq
     obtain ⟨p, xs, e', _, e2, l', _⟩ := R3.lst h1 f3
     rw [zbu h2] at l'
     exact .inl ⟨p, xs, e', .inl (.inl e2), fun p' np => g3 (.ref p') Yf6 rfl (za0 R3 np) (za8 R3 np) (zbq R3 np (cutL_rf l u (RwL.of_trees.mp l')))⟩
    ·exact g3.elim
   ·exact g3.elim
end
end Mir
namespace Mir
open PySem PySem.Spec L2
open PyProof.Rows hiding St
def litems (hp : IH) : W → Option (List W)
 | .t (.lst xs) => some (xs.map W.t)
 | .t (.scr xs) => some (xs.map W.t)
 | .t _ => none
 | .r i => getL hp i
def asI : W → Option Int | .t (.int i) => some i | _ => none
def asBl : W → Option Bool | .t (.bl b) => some b | _ => none
def asS : W → Option Str | .t (.str b) => some b | _ => none
def allW {A : Type} (f : W → Option A) : List W → Option (List A)
 | [] => some []
 | w :: ws => (f w).bind fun a => (allW f ws).map fun r => a :: r
section
variable {K : PySem.W.Frag} {ω : World} {s : S4}
theorem litems_sq (R : Rel K ω s) {w : W} {v : V} {ws : List W} (h : litems s.hp w = some ws) (r : Rw K s w v) : ∃ p xs, v = .ref p ∧ SqL K s.H p xs ∧ RwL K s ws xs := by
 unfold litems at h
 split at h
 ·simp only [Option.some.injEq] at h
  subst h
  obtain ⟨p, xs, e, t, q⟩ : ∃ a vs, v = .ref a ∧ FLst s.fz s.H a vs ∧ RfL K s.fz s.H _ vs := by simpa only [Rw, Rf] using r
  exact ⟨p, xs, e, t.sq, RwL.of_trees.mpr q⟩
 ·simp only [Option.some.injEq] at h
  subst h
  obtain ⟨p, xs, e, t, q⟩ : ∃ a vs, v = .ref a ∧ FScr K s.fz s.H a vs ∧ RfL K s.fz s.H _ vs := by simpa only [Rw, Rf] using r
  exact ⟨p, xs, e, t.sq, RwL.of_trees.mpr q⟩
 ·cases h
 ·obtain ⟨a, vs, e, _, e2, l, _⟩ := R.lst h r
  exact ⟨a, vs, e, .inl (.inl e2), l⟩
theorem allB_eq : ∀ {ws : List W} {ns : List Bool} {vs : List V}, allW asBl ws = some ns → RwL K s ws vs → vs = ns.map V.bl
 | [], ns, vs, h, r => by
  simp only [allW, Option.some.injEq] at h
  subst h
  exact r
 | w :: ws, ns, vs, h, r => by
  simp only [allW, Option.bind_eq_some_iff, Option.map_eq_some_iff] at h
  obtain ⟨a, h1, m, h2, h3⟩ := h
  subst h3
  obtain ⟨v, t, e, rv, rt⟩ := r
  subst e
  rw [allB_eq h2 rt]
  unfold asBl at h1
  split at h1
  ·simp only [Option.some.injEq] at h1
   subst h1
   simp only [Rw, Rf] at rv
   rw [rv]; rfl
  ·cases h1
theorem RwL.one {w : W} {vs : List V} (r : RwL K s [w] vs) : ∃ v, vs = [v] ∧ Rw K s w v := by
 obtain ⟨v, t, e, a, b⟩ := r
 rw [show t = [] from b] at e
 exact ⟨v, e, a⟩
theorem RwL.two {w u : W} {vs : List V} (r : RwL K s [w, u] vs) : ∃ v x, vs = [v, x] ∧ Rw K s w v ∧ Rw K s u x := by
 obtain ⟨v, t, e, a, b⟩ := r
 obtain ⟨x, e2, b2⟩ := RwL.one b
 exact ⟨v, x, by rw [e, e2], a, b2⟩
/-- ints, texts, as trees -/
theorem ints_rf {fz : Addr → Prop} {H : Hp} : ∀ ns : List Int, RfL K fz H (ns.map T.int) Yct
 | [] => by simp [RfL]
 | n :: ns => by simp only [List.map_cons, RfL]; exact ⟨_, _, rfl, by simp [Rf], ints_rf ns⟩
theorem strs_rf {fz : Addr → Prop} {H : Hp} : ∀ ns : List Str, RfL K fz H (ns.map T.str) (ns.map V.str)
 | [] => by simp [RfL]
 | n :: ns => by simp only [List.map_cons, RfL]; exact ⟨_, _, rfl, by simp [Rf], strs_rf ns⟩
end
def oLen : OpN := fun ws hp => match ws with
 | [.t (.str z)] => if z.length ≤ 16777216 then .ok (.t (.int z.length)) hp else .bad
 | [w] => (match items hp w with | some xs => .ok (.t (.int xs.length)) hp | none => .bad)
 | _ => .bad
def oInt : OpN := fun ws hp => match ws with
 | [.t (.int i)] => .ok Yas hp
 | [.t (.bl b)] => .ok (.t (.int (if b then 1 else 0))) hp
 | _ => .bad
def oAbs : OpN := fun ws hp => match ws with
 | [.t (.int i)] => .ok (.t Ygf) hp
 | _ => .bad
def oMax2 : OpN := fun ws hp => match ws with
 | [.t (.int i), .t (.int j)] => .ok (.t (.int (if j > i then j else i))) hp
 | _ => .bad
def oMin2 : OpN := fun ws hp => match ws with
 | [.t (.int i), .t (.int j)] => .ok (.t (.int (if j < i then j else i))) hp
 | _ => .bad
def oOnL {A : Type} (f : W → Option A) (g : List A → IH → Res W) : OpN := fun ws hp => match ws with
 | [w] => (match (litems hp w).bind (allW f) with | some ns => g ns hp | none => .bad)
 | _ => .bad
abbrev oAll : OpN := oOnL asBl fun bs hp => .ok (.t (.bl (bs.all id))) hp
def oListF : OpN := fun ws hp => match ws with
 | [w] => (match (items hp w).bind allT with | some ts => .ok Yad hp | none => .bad)
 | _ => .bad
def oListL : OpN := fun ws hp => match ws with
 | [w] => (match items hp w with | some xs => .ok Ycs (hp ++ [some Ye2]) | none => .bad)
 | _ => .bad
def oTup : OpN := fun ws hp => match ws with
 | [.t (.tup ts)] => .ok Yaw hp
 | [w] => (match (litems hp w).bind allT with | some ts => .ok Yaw hp | none => .bad)
 | _ => .bad
section
variable {K : PySem.W.Frag} {ω : World} {Wx : WX}
theorem zcd : OpNOk K ω Wx oLen (fun xs H Q => ∃ x n, xs = [x] ∧ LenV K x H n ∧ Q (.int n) H) := by
 intro s ws xs Q R r go
 unfold oLen at go
 split at go
 ·obtain ⟨v, e, rv⟩ := RwL.one r
  subst e
  simp only [Rw, Rf] at rv
  subst rv
  split at go
  ·rename_i hz
   exact ⟨_, _, rfl, ⟨by rw [sizeLine_eq]; exact hz, rfl⟩, go _ s rfl Ye R Yd⟩
  ·exact go.elim
 ·obtain ⟨v, e, rv⟩ := RwL.one r
  subst e
  split at go
  ·rename_i ys hi
   obtain ⟨p, zs, e, q, l⟩ := items_sq R hi rv
   subst e
   refine ⟨_, zs.length, rfl, ?_, by rw [← RwL.length l]; exact go _ s rfl Ye R Yd⟩
   rcases q with q | q
   ·exact .inr ⟨zs, q, rfl⟩
   ·exact .inl ⟨zs, q, rfl⟩
  ·exact go.elim
 ·exact go.elim
theorem ok_int : OpNOk K ω Wx oInt (fun xs H Q => (∃ i, xs = [.int i] ∧ Q (.int i) H) ∨ ∃ k, xs = [.bl k] ∧ Q (.int (if k then 1 else 0)) H) := by
 intro s ws xs Q R r go
 unfold oInt at go
 split at go
 ·obtain ⟨v, e, rv⟩ := RwL.one r
  simp only [Rw, Rf] at rv
  subst e rv
  exact .inl ⟨_, rfl, go _ s rfl Ye R Yd⟩
 ·obtain ⟨v, e, rv⟩ := RwL.one r
  simp only [Rw, Rf] at rv
  subst e rv
  exact .inr ⟨_, rfl, go _ s rfl Ye R Yd⟩
 ·exact go.elim
theorem ok_abs : OpNOk K ω Wx oAbs (fun xs H Q => ∃ i, xs = [.int i] ∧ Q Ygf H) := by
 intro s ws xs Q R r go
 unfold oAbs at go
 split at go
 ·obtain ⟨v, e, rv⟩ := RwL.one r
  simp only [Rw, Rf] at rv
  subst e rv
  exact ⟨_, rfl, go _ s rfl Ye R Yd⟩
 ·exact go.elim
theorem ok_max2 : OpNOk K ω Wx oMax2 (fun xs H Q => ∃ i j, xs = [.int i, .int j] ∧ Q (.int (if j > i then j else i)) H) := by
 intro s ws xs Q R r go
 unfold oMax2 at go
 split at go
 ·obtain ⟨v, u, e, rv, ru⟩ := RwL.two r
  simp only [Rw, Rf] at rv ru
  subst e rv ru
  exact ⟨_, _, rfl, go _ s rfl Ye R Yd⟩
 ·exact go.elim
theorem ok_min2 : OpNOk K ω Wx oMin2 (fun xs H Q => ∃ i j, xs = [.int i, .int j] ∧ Q (.int (if j < i then j else i)) H) := by
 intro s ws xs Q R r go
 unfold oMin2 at go
 split at go
 ·obtain ⟨v, u, e, rv, ru⟩ := RwL.two r
  simp only [Rw, Rf] at rv ru
  subst e rv ru
  exact ⟨_, _, rfl, go _ s rfl Ye R Yd⟩
 ·exact go.elim
theorem onL {A : Type} {f : W → Option A} {g : List A → IH → Res W} {s : S4} {ws : List W} {xs : List V} {Q : VK} (R : Rel K ω s) (r : RwL K s ws xs) (go : Go K ω Wx (Rw K) s (oOnL f g ws s.hp) Q) :
  ∃ p zs ys ns, xs = [V.ref p] ∧ SqL K s.H p zs ∧ RwL K s ys zs ∧ allW f ys = some ns ∧ Go K ω Wx (Rw K) s (g ns s.hp) Q := by
 unfold oOnL at go
 split at go
 ·obtain ⟨v, e, rv⟩ := RwL.one r
  split at go
  ·rename_i ns hn
   rw [Option.bind_eq_some_iff] at hn
   obtain ⟨ys, h1, h2⟩ := hn
   obtain ⟨p, zs, ev, q, l⟩ := litems_sq R h1 rv
   subst e ev
   exact ⟨p, zs, ys, ns, rfl, q, l, h2, go⟩
  ·exact go.elim
 ·exact go.elim
theorem ok_all : OpNOk K ω Wx oAll (rAll K) := by
 intro s ws xs Q R r go
 obtain ⟨p, zs, ys, ns, e, q, l, h, go⟩ := onL R r go
 rw [allB_eq h l] at q
 exact ⟨p, ns, e, q, go _ s rfl Ye R Yd⟩
end
/-- tuple(x), the object of a new one known -/
def rTupS (K : PySem.W.Frag) : List V → Hp → VK → Prop := fun xs H Q => ∃ p ys, xs = [.ref p] ∧ ((SqL K H p ys ∧ ∀ (q : Addr) (o : Obj), H q = none → o.dict = none → Q (.ref q) (upd H q (.frz o (.tup ys)))) ∨ (SqT K H p ys ∧ Q (.ref p) H))
theorem zbh {X : Cx} : CallR X Yce (rTupS X.K) := by
 intro pn s0 σ H xs us Q J r h
 obtain ⟨p, ys, rfl, h⟩ := h
 obtain ⟨u, rfl, rx⟩ := vals1 r
 cases rx
 rcases h with ⟨hq, q⟩ | ⟨hq, q⟩
 ·obtain ⟨its, rv, pl, hz⟩ := J.list hq
  refine call_tuple_list pl.isList (fun h' kp => ?_) (by rw [List.size_toArray, ← rv.length]; exact hz)
  exact laid_tup (s := { s0 with heap := h' }) (t' := s0.toks) (J.kept (t' := s0.toks) kp) rv hz q
 ·obtain ⟨its, rv, pl, hz⟩ := J.tuple hq
  exact call_tuple_same pl ⟨.ref p, H, J, rfl, q⟩
section
variable {K : PySem.W.Frag} {ω : World} {Wx : WX}
theorem ok_tup : OpNOk K ω Wx oTup (rTupS K) := by
 intro s ws xs Q R r go
 unfold oTup at go
 split at go
 ·obtain ⟨v, e, rv⟩ := RwL.one r
  subst e
  have rv' := rv
  obtain ⟨a, vs, ev, t, l⟩ : ∃ a vs, v = .ref a ∧ FTup K s.fz s.H a vs ∧ RfL K s.fz s.H _ vs := by simpa only [Rw, Rf] using rv
  subst ev
  exact ⟨a, vs, rfl, .inr ⟨t.sq, go _ s rfl Ye R rv'⟩⟩
 ·obtain ⟨v, e, rv⟩ := RwL.one r
  split at go
  ·rename_i ts ht
   rw [Option.bind_eq_some_iff] at ht
   obtain ⟨ys, h1, h2⟩ := ht
   obtain ⟨p, zs, ev, q, l⟩ := litems_sq R h1 rv
   subst e ev
   rw [zbu h2] at l
   exact ⟨p, zs, rfl, .inl ⟨q, fun p' o np d => go (.ref p') (s.addF p' (.frz o (.tup zs))) rfl (za0 R np) (za8 R np) (addF_tup R np d Yef)⟩⟩
  ·exact go.elim
 ·exact go.elim
end
section
variable {X : Cx} {Wx : WX} {e : Expr} {es : List Expr} {Fs : M (List W)} {pos p : Pos} {x : Str} {id Ty : String} {f : OpN} {r : List V → Hp → VK → Prop}
theorem t_app (hf : OpNOk X.K X.w Wx f r) : ∀ σ H Q, tE X.K X.w Wx (mApp f Fs) σ H Q → tCB r (tA X.K X.w Wx Fs) σ H Q := fun σ H Q h =>
 tM.bind1 (R := fun (xs : List V) (H1 : Hp) => r xs H1 Q) (k := fun (a : List W) _ hp => f a hp) h fun s eta a b R1 _ f1 g => hf s a b Q R1 f1 g
theorem zbg (hc : CallR X (.builtin id) r) (hf : OpNOk X.K X.w Wx f r) (ha : IA X Wx Yae Fs) (hm : X.mg x = none) (hg : Gl X x := by rfl) (hv : bootBuiltins x = some (.builtin id) := by with_unfolding_all rfl) (hn : x ≠ "__name__" := by decide) (hdb : (x == ("__debug__" : Str)) = false := by decide)
  (he : starEach Yae X.env = (false, eval e X.env) :: starEach es X.env := by rfl) (hpl : (backTo pos Ybe).any (·.1) = false := by rfl) : IE X Wx Ybp (mApp f Fs) :=
 PE.imp (pe_callB hc hg hm hv ha hn hdb he hpl) (t_app hf)
theorem zcz (hc : CallR X (.type Ty) r) (hf : OpNOk X.K X.w Wx f r) (ha : IA X Wx Yae Fs) (hm : X.mg x = none) (hg : Gl X x := by rfl) (hv : bootBuiltins x = some (.type Ty) := by with_unfolding_all rfl) (hn : x ≠ "__name__" := by decide) (hdb : (x == ("__debug__" : Str)) = false := by decide)
  (he : starEach Yae X.env = (false, eval e X.env) :: starEach es X.env := by rfl) (hpl : (backTo pos Ybe).any (·.1) = false := by rfl) : IE X Wx Ybp (mApp f Fs) :=
 PE.imp (pe_callTy hc hg hm hv ha hn hdb he hpl) (t_app hf)
end
end Mir
namespace Mir
open PySem PySem.Spec L2
open PyProof.Rows hiding St
abbrev OpM := W → List W → IH → Res W
def OpMOk (K : PySem.W.Frag) (ω : World) (Wx : WX) (f : OpM) (r : V → List V → Hp → VK → Prop) : Prop :=
 ∀ (s : S4) (w : W) (ws : List W) (x : V) (xs : List V) (Q : VK), Rel K ω s → Rw K s w x → RwL K s ws xs → Go K ω Wx (Rw K) s (f w ws s.hp) Q → r x xs s.H Q
def mMeth0 (ty : W → IH → Bool) (f : OpM) (Fo : M W) : M W := fun eta hp => (Fo eta hp).bind fun w h1 => if ty w h1 = true then f w [] h1 else .bad
def mMeth (ty : W → IH → Bool) (f : OpM) (Fo : M W) (Fa : M (List W)) : M W := fun eta hp => (Fo eta hp).bind fun w h1 => if ty w h1 = true then (Fa eta h1).bind fun ws h2 => f w ws h2 else .bad
def isL (w : W) (hp : IH) : Bool := (litems hp w).isSome
def isTp (w : W) (hp : IH) : Bool := match w with | .t (.tup _) => true | _ => false
section
variable {X : Cx} {Wx : WX} {o e : Expr} {es : List Expr} {Fo : M W} {Fs : M (List W)} {name : Str} {apos cpos : Pos} {id : String} {f : OpM} {r : V → List V → Hp → VK → Prop}
theorem isL_ty {K : PySem.W.Frag} {ω : World} {s : S4} {w : W} {v : V} (R : Rel K ω s) (r : Rw K s w v) (h : isL w s.hp = true) : tyV K "list" v s.H := by
 unfold isL at h
 obtain ⟨ws, hw⟩ := Option.isSome_iff_exists.mp h
 obtain ⟨p, xs, e, q, _⟩ := litems_sq R hw r
 subst e
 exact .inl ⟨rfl, xs, q⟩
theorem ie_lm0 (slot : Slot "list" name id) (hty : typeOf (.builtin id) = pure (.type "method_descriptor")) (hm : MtR X id r) (hf : OpMOk X.K X.w Wx f r) (ho : IE X Wx o Fo)
  (hbase : attributeBase o name X.env Yep = eval o X.env := by rfl) (hline : (apos.endLine == cpos.line) = true := by rfl) : IE X Wx (.Call (.Attribute o name apos) [] [] cpos) (mMeth0 isL f Fo) :=
 PE.imp (pe_bm0 F.plainAttrs_list slot hty hm ho hbase hline) fun σ H Q h =>
  tM.bind1 (R := fun (x : V) (H1 : Hp) => tyV X.K "list" x H1 ∧ r x [] H1 Q) (k := fun (w : W) _ h1 => if isL w h1 = true then f w [] h1 else .bad) h fun s eta a b R1 _ f1 g => by
   split at g
   ·rename_i ht
    exact ⟨isL_ty R1 f1 ht, hf s a [] b [] Q R1 f1 rfl g⟩
   ·exact g.elim
theorem ie_lm (slot : Slot "list" name id) (hty : typeOf (.builtin id) = pure (.type "method_descriptor")) (hm : MtR X id r) (hf : OpMOk X.K X.w Wx f r) (ho : IE X Wx o Fo) (ha : IA X Wx Yae Fs)
  (hbase : attributeBase o name X.env Yep = eval o X.env := by rfl)
  (hfew : ((backTo cpos (starEach Yae X.env)).all (fun x => !x.1) && (backToKw cpos Ygj).all (fun x => x.1.isSome) && decide ((e :: es).length + ([] : List Keyword).length + (if ([] : List Keyword).isEmpty then 0 else 1) < 30)) = true := by rfl)
  (hline : (apos.endLine == cpos.line) = true := by rfl) (hs : starEach Yae X.env = (false, eval e X.env) :: starEach es X.env := by rfl) (hp : (backTo cpos Ybe).any (·.1) = false := by rfl) :
  IE X Wx (.Call (.Attribute o name apos) Yae [] cpos) (mMeth isL f Fo Fs) :=
 PE.imp (pe_bm F.plainAttrs_list slot hty hm ho ha hbase hfew hline hs hp) fun σ H Q h =>
  tM.bind1 (R := fun (x : V) (H1 : Hp) => tyV X.K "list" x H1 ∧ tA X.K X.w Wx Fs σ H1 fun xs H2 => r x xs H2 Q) (k := fun (w : W) eta h1 => if isL w h1 = true then (Fs eta h1).bind fun ws h2 => f w ws h2 else .bad) h fun s eta a b R1 S1 f1 g => by
   split at g
   ·rename_i ht
    exact ⟨isL_ty R1 f1 ht, s, eta, rfl, R1, S1, Go.bind g fun ws xs s' A' R' r' _ g' => hf s' a ws b xs Q R' (f1.aft A' R1) r' g'⟩
   ·exact g.elim
end
def oAppend : OpM := fun w ws hp => match w, ws with
 | .r i, [x] => (match getL hp i with | some xs => if xs.length < 16777216 then .ok Ydj (hp.set i (some (.lst (xs ++ [x])))) else .bad | none => .bad)
 | _, _ => .bad
/-- what is a list of its own in the heap -/
def hitems (hp : IH) : W → Option (List W)
 | .t (.lst xs) => some (xs.map W.t)
 | .t _ => none
 | .r i => getL hp i
def oPop : OpM := fun w ws hp => match w, ws with
 | .r i, [] => (match getL hp i with | some xs => (match xs[xs.length - 1]? with | some y => .ok y (hp.set i (some (.lst xs.dropLast))) | none => .bad) | none => .bad)
 | _, _ => .bad
section
variable {K : PySem.W.Frag} {ω : World} {Wx : WX}
theorem RwL.dropLast {s : S4} : ∀ {ws : List W} {vs : List V}, RwL K s ws vs → RwL K s ws.dropLast vs.dropLast
 | [], _, h => by rw [show _ = [] from h]; rfl
 | [x], _, h => by
  obtain ⟨v, r, e, a, b⟩ := h
  rw [show r = [] from b] at e
  subst e
  rfl
 | x :: y :: ws, _, h => by
  obtain ⟨v, r, e, a, b⟩ := h
  subst e
  have b' := b
  obtain ⟨v2, r2, e2, a2, b2⟩ := b'
  subst e2
  exact ⟨v, _, rfl, a, RwL.dropLast b⟩
theorem RwL.setL {s : S4} : ∀ {ws : List W} {vs : List V} (j : Nat) {w : W} {v : V}, RwL K s ws vs → Rw K s w v → RwL K s (ws.set j w) (vs.set j v)
 | [], _, _, _, _, h, _ => by rw [show _ = [] from h]; rfl
 | x :: ws, _, 0, w, v, h, r => by
  obtain ⟨u, t, e, a, b⟩ := h
  subst e
  exact ⟨v, t, rfl, r, b⟩
 | x :: ws, _, j + 1, w, v, h, r => by
  obtain ⟨u, t, e, a, b⟩ := h
  subst e
  exact ⟨u, _, rfl, a, RwL.setL j b r⟩
/-- the items are set anew -/
theorem go_set {s : S4} {i : Nat} {a : Addr} {xs ys : List W} {us : List V} {w : W} {v : V} {Q : VK} (R : Rel K ω s) (h0 : getL s.hp i = some xs) (ha : s.rho[i]? = some a) (l : RwL K s ys us) (rv : Rw K s w v)
  (g : Go K ω Wx (Rw K) s (.ok w (s.hp.set i (some (.lst ys)))) Q) : Q v (upd s.H a (.lst us)) := by
 have A := aft_setL R (zbv h0) ha (c := .lst ys) (o := .lst us)
 exact g v (s.setL i a (.lst ys) (.lst us)) rfl A (rel_setL R (zbv h0) ha ⟨us, rfl, l⟩) (rv.aft A R)
theorem ok_append : OpMOk K ω Wx oAppend rAppend := by
 intro s w ws x xs Q R rx rxs go
 unfold oAppend at go
 split at go
 ·rename_i i y
  obtain ⟨u, e, ru⟩ := RwL.one rxs
  subst e
  split at go
  ·rename_i zs hz
   split at go
   ·rename_i hn
    obtain ⟨a, vs, ex, e1, e2, l, _⟩ := R.lst hz rx
    exact ⟨a, vs, u, ex, rfl, e2, by rw [← RwL.length l, sizeLine_eq]; exact hn, go_set R hz e1 (RwL.append l (show RwL K s [_] [u] from ⟨u, [], rfl, ru, rfl⟩)) Yd go⟩
   ·exact go.elim
  ·exact go.elim
 ·exact go.elim
theorem hitems_eq {s : S4} (R : Rel K ω s) {w : W} {v : V} {ws : List W} (h : hitems s.hp w = some ws) (r : Rw K s w v) : ∃ p xs, v = .ref p ∧ s.H p = some Ye2 ∧ RwL K s ws xs := by
 unfold hitems at h
 split at h
 ·simp only [Option.some.injEq] at h
  subst h
  obtain ⟨p, xs, e, t, q⟩ : ∃ a vs, v = .ref a ∧ FLst s.fz s.H a vs ∧ RfL K s.fz s.H _ vs := by simpa only [Rw, Rf] using r
  exact ⟨p, xs, e, t.2, RwL.of_trees.mpr q⟩
 ·cases h
 ·obtain ⟨a, vs, e, _, e2, l, _⟩ := R.lst h r
  exact ⟨a, vs, e, e2, l⟩
theorem ok_pop : OpMOk K ω Wx oPop rPop := by
 intro s w ws x xs Q R rx rxs go
 unfold oPop at go
 split at go
 ·rename_i i
  have e : xs = [] := rxs
  subst e
  split at go
  ·rename_i zs hz
   split at go
   ·rename_i y hy
    obtain ⟨a, vs, ex, e1, e2, l, _⟩ := R.lst hz rx
    obtain ⟨u, hu, ru⟩ := RwL.get l hy
    exact ⟨a, vs, u, ex, rfl, e2, by rw [← RwL.length l]; exact hu, go_set R hz e1 (RwL.dropLast l) ru go⟩
   ·exact go.elim
  ·exact go.elim
 ·exact go.elim
end
section
variable {X : Cx} {Wx : WX} {o e : Expr} {Fo : M W} {Fs : M (List W)} {apos cpos : Pos}
theorem ie_append (ho : IE X Wx o Fo) (ha : IA X Wx [e] Fs) (hb : attributeBase o "append" X.env Yep = eval o X.env := by rfl)
  (hfew : ((backTo cpos (starEach [e] X.env)).all (fun x => !x.1) && (backToKw cpos Ygj).all (fun x => x.1.isSome) && decide ([e].length + ([] : List Keyword).length + (if ([] : List Keyword).isEmpty then 0 else 1) < 30)) = true := by rfl)
  (hline : (apos.endLine == cpos.line) = true := by rfl) (hs : starEach [e] X.env = (false, eval e X.env) :: starEach [] X.env := by rfl) : IE X Wx (.Call (.Attribute o "append" apos) [e] [] cpos) (mMeth isL oAppend Fo Fs) :=
 ie_lm F.slot_list_append F.type_list_append mt_append ok_append ho ha hb hfew hline hs rfl
theorem ie_pop (ho : IE X Wx o Fo) (hb : attributeBase o "pop" X.env Yep = eval o X.env := by rfl) (hline : (apos.endLine == cpos.line) = true := by rfl) :
  IE X Wx (.Call (.Attribute o "pop" apos) [] [] cpos) (mMeth0 isL oPop Fo) := ie_lm0 F.slot_list_pop F.type_list_pop mt_pop ok_pop ho hb hline
end
end Mir
namespace Mir
open PySem PySem.Spec L2
open PyProof.Rows hiding St
def asK : W → Option Key | .t (.int i) => some (.inl i) | .t (.str x) => some (.inr x) | _ => none
def getD (hp : IH) (i : Nat) : Option (List Yd5) := match hp[i]? with
 | some (some (.dic kvs)) => some kvs
 | _ => none
def valW (kvs : List Yd5) (k : Key) : Option W := (kvs.find? fun kv => decide (kv.1 = k)).map (·.2)
def putW (kvs : List Yd5) (k : Key) (w : W) : List Yd5 :=
 if (kvs.any fun kv => decide (kv.1 = k)) = true then kvs.map (fun kv => if kv.1 = k then (kv.1, w) else kv) else kvs ++ [(k, w)]
def mergeW (kvs more : List Yd5) : List Yd5 := more.foldl (fun acc kv => putW acc kv.1 kv.2) kvs
section
variable {K : PySem.W.Frag} {ω : World} {s : S4}
theorem getD_eq {hp : IH} {i : Nat} {ws : List Yd5} (h : getD hp i = some ws) : hp[i]? = some (some (.dic ws)) := by
 unfold getD at h
 split at h
 ·rename_i kvs e
  simp only [Option.some.injEq] at h
  rw [e, h]
 ·cases h
theorem Rel.dic (R : Rel K ω s) {i : Nat} {v : V} {ws : List Yd5} (g : getD s.hp i = some ws) (r : Rw K s (.r i) v) : ∃ a vs, v = .ref a ∧ s.rho[i]? = some a ∧ s.H a = some (.dK vs) ∧ RwK K s ws vs ∧ ¬ s.fz a := by
 obtain ⟨a, e1, e2⟩ := r
 obtain ⟨vs, h1, h2⟩ := R.cell i _ a (getD_eq g) e1
 exact ⟨a, vs, e2, e1, h1, h2, R.fz a ⟨i, _, ⟨getD_eq g, True.intro⟩, e1⟩⟩
theorem RwK.val (k : Key) : ∀ {ws : List (Key × W)} {vs : List (Key × V)} {w : W}, RwK K s ws vs → valW ws k = some w → ∃ v, valV vs k = some v ∧ Rw K s w v
 | [], _, _, _, h => by simp [valW] at h
 | x :: ws, _, w, r, h => by
  obtain ⟨v, t, e, a, b⟩ := r
  subst e
  by_cases q : x.1 = k
  ·refine ⟨v, valV_pos (p := (x.1, v)) q, ?_⟩
   have : x.2 = w := by simpa [valW, List.find?_cons, q] using h
   rw [← this]; exact a
  ·have h' : valW ws k = some w := by simpa [valW, List.find?_cons, q] using h
   obtain ⟨u, h1, h2⟩ := RwK.val k b h'
   exact ⟨u, by rw [valV_neg (p := (x.1, v)) q]; exact h1, h2⟩
theorem RwK.none (k : Key) : ∀ {ws : List (Key × W)} {vs : List (Key × V)}, RwK K s ws vs → valW ws k = none → valV vs k = none
 | [], _, r, _ => by rw [show _ = [] from r]; rfl
 | x :: ws, _, r, h => by
  obtain ⟨v, t, e, a, b⟩ := r
  subst e
  by_cases q : x.1 = k
  ·simp [valW, List.find?_cons, q] at h
  ·have h' : valW ws k = Option.none := by simpa [valW, List.find?_cons, q] using h
   rw [valV_neg (p := (x.1, v)) q]
   exact RwK.none k b h'
theorem RwK.any (k : Key) : ∀ {ws : List (Key × W)} {vs : List (Key × V)}, RwK K s ws vs → (vs.any fun kv => decide (kv.1 = k)) = ws.any fun kv => decide (kv.1 = k)
 | [], _, r => by rw [show _ = [] from r]; rfl
 | x :: ws, _, r => by
  obtain ⟨v, t, e, a, b⟩ := r
  subst e
  rw [List.any_cons, List.any_cons, RwK.any k b]
theorem RwK.repl (k : Key) {w : W} {v : V} (rv : Rw K s w v) : ∀ {ws : List (Key × W)} {vs : List (Key × V)}, RwK K s ws vs → RwK K s (ws.map fun kv => if kv.1 = k then (kv.1, w) else kv) (vs.map fun kv => if kv.1 = k then (kv.1, v) else kv)
 | [], _, r => by rw [show _ = [] from r]; rfl
 | x :: ws, _, r => by
  obtain ⟨u, t, e, a, b⟩ := r
  subst e
  rw [List.map_cons, List.map_cons]
  by_cases q : x.1 = k
  ·rw [if_pos q, if_pos q]
   exact ⟨v, _, rfl, rv, RwK.repl k rv b⟩
  ·rw [if_neg q, if_neg q]
   exact ⟨u, _, rfl, a, RwK.repl k rv b⟩
theorem RwK.snoc {k : Key} {w : W} {v : V} (rv : Rw K s w v) : ∀ {ws : List (Key × W)} {vs : List (Key × V)}, RwK K s ws vs → RwK K s (ws ++ [(k, w)]) (vs ++ [(k, v)])
 | [], _, r => by rw [show _ = [] from r]; exact ⟨v, [], rfl, rv, rfl⟩
 | x :: ws, _, r => by
  obtain ⟨u, t, e, a, b⟩ := r
  subst e
  exact ⟨u, _, rfl, a, RwK.snoc rv b⟩
theorem RwK.put (k : Key) {w : W} {v : V} (rv : Rw K s w v) {ws : List Yd5} {vs : List (Key × V)} (r : RwK K s ws vs) : RwK K s (putW ws k w) (putK vs k v) := by
 unfold putW putK
 rw [r.any k]
 split
 ·exact r.repl k rv
 ·exact r.snoc rv
theorem RwK.merge : ∀ {more : List (Key × W)} {mv : List (Key × V)} {ws : List (Key × W)} {vs : List (Key × V)}, RwK K s more mv → RwK K s ws vs → RwK K s (mergeW ws more) (mergeK vs mv)
 | [], _, ws, vs, h, r => by rw [show _ = [] from h]; exact r
 | x :: more, _, ws, vs, h, r => by
  obtain ⟨u, t, e, a, b⟩ := h
  subst e
  exact RwK.merge (ws := putW ws x.1 x.2) (vs := putK vs x.1 u) b (r.put x.1 a)
theorem RwK.length : ∀ {ws : List (Key × W)} {vs : List (Key × V)}, RwK K s ws vs → ws.length = vs.length
 | [], _, r => by rw [show _ = [] from r]; rfl
 | x :: ws, _, r => by
  obtain ⟨u, t, e, a, b⟩ := r
  subst e
  rw [List.length_cons, List.length_cons, RwK.length b]
end
/-- d[k] -/
def dGet : Op2 := fun a b hp => match a, asK b with
 | .r i, some k => (match (getD hp i).bind fun kvs => valW kvs k with | some w => .ok w hp | none => .bad)
 | _, _ => .bad
/-- d[k] = v: the value, the dict, the key -/
def mDPut (Fd Fk Fv : M W) : M Fl := fun eta hp => (Fv eta hp).bind fun v h1 => (Fd eta h1).bind fun d h2 => (Fk eta h2).bind fun k h3 => match d, asK k with
 | .r i, some k => (match getD h3 i with | some kvs => if kvs.length < 16777216 then .ok Ydi (h3.set i (some (.dic (putW kvs k v)))) else .bad | none => .bad)
 | _, _ => .bad
def mVals : List (Key × M W) → M (List Yd5)
 | [] => fun _ hp => .ok [] hp
 | (k, F) :: r => fun eta hp => (F eta hp).bind fun w h1 => (mVals r eta h1).bind fun ws h2 => .ok ((k, w) :: ws) h2
def mDisp (ps : List (Key × M W)) : M W := fun eta hp => (mVals ps eta (hp ++ [some (.dic [])])).bind fun kvs h1 => match getD h1 hp.length with
 | some [] => if kvs.length ≤ 15 then .ok Ycs (h1.set hp.length (some (.dic (mergeW [] kvs)))) else .bad
 | _ => .bad
end Mir
namespace Mir
open PySem PySem.Spec L2
open PyProof.Rows hiding St
/-- t + u of tuples, the object of a new one known -/
def rCatB (K : PySem.W.Frag) : R2 := fun x y H Q => ∃ a b xs ys, x = .ref a ∧ y = .ref b ∧ SqT K H a xs ∧ SqT K H b ys ∧ xs.length + ys.length ≤ sizeLine ∧
 (xs = [] → Q (.ref b) H) ∧ (xs ≠ [] → ys = [] → Q (.ref a) H) ∧ (xs ≠ [] → ys ≠ [] → ∀ (p : Addr) (o : Obj), H p = none → o.dict = none → Q (.ref p) (upd H p (.frz o (.tup (xs ++ ys)))))
theorem op_catB {X : Cx} : OpR X (binaryOp .Add) (rCatB X.K) := by
 intro pn s0 σ H x y v u Q J rx ry h
 obtain ⟨a, b, xs, ys, ex, ey, ha, hb, hz, q0, q1, q2⟩ := h
 subst ex ey
 by_cases hx : xs = []
 ·exact op_catA pn s0 σ H _ _ v u Q J rx ry ⟨a, b, xs, ys, rfl, rfl, ha, hb, hz, q0, fun c => absurd hx c, fun c => absurd hx c⟩
 ·cases rx
  cases ry
  obtain ⟨its, r1, p1, _⟩ := J.tuple ha
  obtain ⟨its2, r2, p2, _⟩ := J.tuple hb
  refine HT.cat_tup p1 p2 (fun z => hx (r1.nil_iff.mp z)) (fun z => ⟨.ref a, H, J, rfl, q1 hx (r2.nil_iff.mp z)⟩) (fun z => ?_) (by rw [← r1.length, ← r2.length]; exact hz)
  exact laid_tup (t' := s0.toks) J (r1.append r2) (by rw [List.length_append]; exact hz) (q2 hx fun c => z (r2.nil_iff.mpr c))
def wAdd : Op2 := fun a b hp => match a, b with
 | .t (.int i), .t (.int j) => .ok (.t (.int (i + j))) hp
 | .t (.str x), .t (.str y) => if x.length + y.length ≤ 16777216 then .ok (.t (.str (x ++ y))) hp else .bad
 | .t (.tup xs), .t (.tup ys) => if xs.length + ys.length ≤ 16777216 then .ok (.t (.tup (xs ++ ys))) hp else .bad
 | a, b => (match (hitems hp a).bind allT, (hitems hp b).bind allT with
  | some xs, some ys => if xs.length + ys.length ≤ 16777216 then .ok (.t (.lst (xs ++ ys))) hp else .bad
  | _, _ => .bad)
abbrev rAdd (K : PySem.W.Frag) : R2 := fun x y H Q => rI0 (fun i j => .int (i + j)) x y H Q ∨ (fun x y H Q => ∃ i j, x = .str i ∧ y = .str j ∧ i.length + j.length ≤ sizeLine ∧ Q (.str (i ++ j)) H : R2) x y H Q ∨ rCatB K x y H Q ∨ rCat x y H Q
theorem op_addA {X : Cx} : OpR X (binaryOp .Add) (rAdd X.K) := OpR.or op_add (OpR.or op_add_str (OpR.or op_catB op_cat))
section
variable {K : PySem.W.Frag} {ω : World} {Wx : WX}
theorem RfL.append {fz : Addr → Prop} {H : Hp} : ∀ {ws ws' : List T} {vs vs' : List V}, RfL K fz H ws vs → RfL K fz H ws' vs' → RfL K fz H (ws ++ ws') (vs ++ vs')
 | [], _, _, _, h, h' => by simp only [RfL] at h; subst h; exact h'
 | x :: xs, _, vs, _, h, h' => by
  simp only [RfL] at h
  obtain ⟨v, r, e, a, b⟩ := h
  subst e
  simp only [List.cons_append, RfL]
  exact ⟨v, _, rfl, a, RfL.append b h'⟩
theorem RfL.nil_of {fz : Addr → Prop} {H : Hp} {ts : List T} (h : RfL K fz H ts []) : ts = [] := by
 cases ts with
 | nil => rfl
 | cons t ts =>
  simp only [RfL] at h
  obtain ⟨v, r, e, _⟩ := h
  cases e
theorem ok_add : zcp K ω Wx wAdd (rAdd K) := by
 intro s a b x y Q R ra rb go
 unfold wAdd at go
 split at go
 ·simp only [Rw, Rf] at ra rb
  exact .inl ⟨_, _, ra, rb, go _ s rfl Ye R Yd⟩
 ·split at go
  ·rename_i hz
   simp only [Rw, Rf] at ra rb
   exact .inr (.inl ⟨_, _, ra, rb, by rw [sizeLine_eq]; exact hz, go _ s rfl Ye R Yd⟩)
  ·exact go.elim
 ·split at go
  ·rename_i xs ys hz
   obtain ⟨p, us, e1, t1, q1⟩ : ∃ a vs, x = .ref a ∧ FTup K s.fz s.H a vs ∧ RfL K s.fz s.H xs vs := by simpa only [Rw, Rf] using ra
   obtain ⟨p2, us2, e2, t2, q2⟩ : ∃ a vs, y = .ref a ∧ FTup K s.fz s.H a vs ∧ RfL K s.fz s.H ys vs := by simpa only [Rw, Rf] using rb
   refine .inr (.inr (.inl ⟨p, p2, us, us2, e1, e2, t1.sq, t2.sq, by rw [← RfL.length q1, ← RfL.length q2, sizeLine_eq]; exact hz, fun c => ?_, fun _ c => ?_, fun _ _ q o np d => ?_⟩))
   ·subst c
    rw [RfL.nil_of q1] at go
    rw [← e2]
    exact go _ s rfl Ye R rb
   ·subst c
    rw [RfL.nil_of q2, List.append_nil] at go
    rw [← e1]
    exact go _ s rfl Ye R ra
   ·exact go (.ref q) (s.addF q (.frz o (.tup (us ++ us2)))) rfl (za0 R np) (za8 R np) (addF_tup R np d (RfL.append q1 q2))
  ·exact go.elim
 ·split at go
  ·rename_i xs ys hx hy
   split at go
   ·rename_i hz
    rw [Option.bind_eq_some_iff] at hx hy
    obtain ⟨ws, h1, h2⟩ := hx
    obtain ⟨ws2, h3, h4⟩ := hy
    obtain ⟨p, us, e1, t1, q1⟩ := hitems_eq R h1 ra
    obtain ⟨p2, us2, e2, t2, q2⟩ := hitems_eq R h3 rb
    rw [zbu h2] at q1
    rw [zbu h4] at q2
    have l1 := RwL.of_trees.mp q1
    have l2 := RwL.of_trees.mp q2
    exact .inr (.inr (.inr ⟨p, p2, us, us2, e1, e2, t1, t2, by rw [← RfL.length l1, ← RfL.length l2, sizeLine_eq]; exact hz, fun q np =>
     go (.ref q) (s.addF q (.lst (us ++ us2))) rfl (za0 R np) (za8 R np) (zbq R np (RfL.append l1 l2))⟩))
   ·exact go.elim
  ·exact go.elim
end
def repT (n : Nat) (ts : List T) : List T := (List.replicate n ts).flatten
def wMul : Op2 := fun a b hp => match a, b with
 | .t (.int i), .t (.int j) => if cMul i j = true then .ok (.t (.int (i * j))) hp else .bad
 | a, .t (.int k) => (match (hitems hp a).bind allT with
  | some ts => if -(2 ^ 63) ≤ k ∧ k < 2 ^ 63 ∧ ts.length * k.toNat ≤ 16777216 then .ok (.t (.lst (repT k.toNat ts))) hp else .bad
  | none => .bad)
 | _, _ => .bad
abbrev rMulA : R2 := fun x y H Q => rI CMulW (fun i j => .int (i * j)) x y H Q ∨ rRep x y H Q
theorem op_mulA {X : Cx} : OpR X (binaryOp .Mult) rMulA := OpR.or op_mulW op_rep
theorem rep_rf {K : PySem.W.Frag} {fz : Addr → Prop} {H : Hp} {ts : List T} {vs : List V} (h : RfL K fz H ts vs) : ∀ n : Nat, RfL K fz H (repT n ts) (List.replicate n vs).flatten
 | 0 => by simp [repT, RfL]
 | n + 1 => by
  have := RfL.append h (rep_rf h n)
  simpa [repT, List.replicate_succ] using this
theorem ok_mul {K : PySem.W.Frag} {ω : World} {Wx : WX} : zcp K ω Wx wMul rMulA := by
 intro s a b x y Q R ra rb go
 unfold wMul at go
 split at go
 ·split at go
  ·rename_i hc
   simp only [Rw, Rf] at ra rb
   exact .inl ⟨_, _, ra, rb, by simpa [cMul, CMulW] using hc, go _ s rfl Ye R Yd⟩
  ·exact go.elim
 ·rename_i k _
  split at go
  ·rename_i ts hx
   split at go
   ·rename_i hz
    rw [Option.bind_eq_some_iff] at hx
    obtain ⟨ws, h1, h2⟩ := hx
    obtain ⟨p, us, e1, t1, q1⟩ := hitems_eq R h1 ra
    rw [zbu h2] at q1
    have l1 := RwL.of_trees.mp q1
    have ey : y = .int k := by simpa only [Rw, Rf] using rb
    exact .inr ⟨p, k, us, e1, ey, t1, hz.1, hz.2.1, by rw [← RfL.length l1, sizeLine_eq]; exact hz.2.2, fun q np =>
     go (.ref q) (s.addF q (.lst (List.replicate k.toNat us).flatten)) rfl (za0 R np) (za8 R np) (zbq R np (rep_rf l1 k.toNat))⟩
   ·exact go.elim
  ·exact go.elim
 ·exact go.elim
def wLt : Op2 := fun a b hp => match a, b with
 | .t (.int i), .t (.int j) => .ok (.t (.bl (decide (i < j)))) hp
 | .t (.str x), .t (.str y) => .ok (.t (.bl (ltCps x.cps.toList y.cps.toList))) hp
 | _, _ => .bad
abbrev rLtA : R2 := fun x y H Q => rI0 (fun i j => .bl (decide (i < j))) x y H Q ∨ (fun x y H Q => ∃ i j, x = .str i ∧ y = .str j ∧ Q (.bl (decide (i.cps.toList < j.cps.toList))) H : R2) x y H Q
theorem op_ltA {X : Cx} : OpR X (compareOp .Lt) rLtA := OpR.or op_lt op_lt_str
theorem ok_lt {K : PySem.W.Frag} {ω : World} {Wx : WX} : zcp K ω Wx wLt rLtA := by
 intro s a b x y Q R ra rb go
 unfold wLt at go
 split at go
 ·simp only [Rw, Rf] at ra rb
  exact .inl ⟨_, _, ra, rb, go _ s rfl Ye R Yd⟩
 ·simp only [Rw, Rf] at ra rb
  exact .inr ⟨_, _, ra, rb, go _ s rfl Ye R (by simp only [Rw, Rf, ltCps_eq])⟩
 ·exact go.elim
section
variable {X : Cx} {Wx : WX} {a b c e : Expr} {Fa Fb Fc F : M W} {pos : Pos}
theorem zcf (ha : IE X Wx a Fa) (hb : IE X Wx b Fb) : IE X Wx (.BinOp a .Add b pos) (mBin wAdd Fa Fb) := ie_bin op_addA ok_add ha hb
theorem ie_mulA (ha : IE X Wx a Fa) (hb : IE X Wx b Fb) : IE X Wx (.BinOp a .Mult b pos) (mBin wMul Fa Fb) := ie_bin op_mulA ok_mul ha hb
theorem it_ltA (ha : IE X Wx a Fa) (hb : IE X Wx b Fb) : IT X Wx (.Compare a [.Lt] [b] pos) (zal asB (mBin wLt Fa Fb)) := it_cmp op_ltA ok_lt ha hb (nomark _)
theorem t_chain {f f' : Op2} {r r' : R2} (hf : zcp X.K X.w Wx f r) (hf' : zcp X.K X.w Wx f' r') : ∀ σ H Q, tE X.K X.w Wx (mChain f f' Fa Fb Fc) σ H Q → tChain r r' (tE X.K X.w Wx Fa) (tE X.K X.w Wx Fb) (tE X.K X.w Wx Fc) σ H Q := by
 intro σ H Q h
 refine tM.bind2 (Fam' := Rw X.K) (R := fun (x y : V) (H2 : Hp) => r x y H2 fun z H3 => ∃ k, z = .bl k ∧ (if k = true then tE X.K X.w Wx Fc σ H3 (fun w' H4 => r' y w' H4 Q) else Q Yeg H3))
  (k := fun a b eta h2 => (f a b h2).bind fun z h3 => match z with
   | .t (.bl true) => (Fc eta h3).bind fun c h4 => f' b c h4
   | .t (.bl false) => .ok (.t Yeg) h3
   | _ => .bad) Rw.keep h fun s eta a b a' b' R1 S1 f1 f2 g => ?_
 refine hf s a a' b b' _ R1 f1 f2 (Go.bind g fun z z' s2 A2 R2 r2 _ g2 => ?_)
 split at g2
 ·simp only [Rw, Rf] at r2
  subst r2
  refine ⟨true, rfl, ?_⟩
  rw [if_pos rfl]
  exact ⟨s2, eta, rfl, R2, S1.aft A2 R1, Go.bind g2 fun w w' s3 A3 R3 r3 _ g3 => hf' s3 a' w b' w' Q R3 ((f2.aft A2 R1).aft A3 R2) r3 g3⟩
 ·simp only [Rw, Rf] at r2
  subst r2
  refine ⟨false, rfl, ?_⟩
  rw [if_neg Ybo]
  exact g2 _ s2 rfl (Aft.refl s2) R2 Yd
 ·exact g2.elim
theorem it_chain {op op' : CmpOp} {f f' : Op2} {r r' : R2} (ho : OpR X (compareOp op) r) (hf : zcp X.K X.w Wx f r) (ho' : OpR X (compareOp op') r') (hf' : zcp X.K X.w Wx f' r') (ha : IE X Wx a Fa) (hb : IE X Wx b Fb) (hc : IE X Wx c Fc)
  (hm : lastMarks [op, op'] [b, c] = false := by with_unfolding_all rfl) : IT X Wx (.Compare a [op, op'] [b, c] pos) (zal asB (mChain f f' Fa Fb Fc)) := PT.imp (pt_chain ho ho' ha hb hc hm) fun σ H Q h => by
 have h' : tE X.K X.w Wx (mChain f f' Fa Fb Fc) σ H (fun x H1 => ∃ k, x = .bl k ∧ Q k H1) := tM.bind1 (R := fun (x : V) (H1 : Hp) => ∃ k, x = .bl k ∧ Q k H1) (k := fun (a : W) _ hp => asB a hp) h fun s eta a b R1 _ f1 g => go_asB R1 f1 g
 exact t_chain hf hf' σ H _ h'
end
end Mir
namespace Mir
open PySem PySem.Spec L2
open PyProof.Rows hiding St
def mParG (n : Nat) (Fs : M (List W)) (Gs : List W → IS → Option IS) : M Fl := fun eta hp => (Fs eta hp).bind fun ws h1 => if ws.length = n ∧ n ≤ 16777216 then (match Gs ws eta with | some e => .ok (.nx e) h1 | none => .bad) else .bad
section
variable {X : Cx} {Wx : WX} {e : Expr} {es tgs : List Expr} {Fs : M (List W)} {F : M W} {pos p1 p2 : Pos} {gs : TGs} {Gs : List W → IS → Option IS} {vs : List Nat} {n k1 k2 : Nat}
theorem st_parG (hc : X.calm = true) (ha : IA X Wx es Fs) (hg : PGs X tgs gs) (ok : TgsOk X.K X.w gs Gs vs) (hn : (assignEach tgs X.env).length = n := by rfl) (hst : (assignEach tgs X.env).findIdx? (·.1) = none := by rfl)
  (hs : swapsWithSole [.Tuple tgs k1 p1] (.Tuple es k2 p2) pos.line X.env = pure false := by rfl) (hw : swappedStores [.Tuple tgs k1 p1] (.Tuple es k2 p2) X.env = pure none := by rfl)
  (h1 : (assignEach [.Tuple tgs k1 p1] X.env).map (·.2) = [assign (.Tuple tgs k1 p1) X.env] := by rfl) : ISt X Wx (.Assign [.Tuple tgs k1 p1] (.Tuple es k2 p2) pos) (mParG n Fs Gs) :=
 PS.imp (ps_asg (pe_tup ha) (pg_tup hc hg hn hst) hs hw h1) fun D σ H h =>
  tM.bind1 (R := fun (xs : List V) (H1 : Hp) => xs.length ≤ sizeLine ∧ ∀ p, H1 p = none → gTup X.K n gs (.ref p) σ (upd H1 p (.tup xs)) D.nx)
   (k := fun (ws : List W) eta h1 => if ws.length = n ∧ n ≤ 16777216 then (match Gs ws eta with | some e => .ok (Fl.nx e) h1 | none => .bad) else .bad) h fun s eta ws xs R1 S1 f1 g1 => by
    split at g1
    ·rename_i hl
     cases hG : Gs ws eta with
     | none => simp only [hG] at g1; exact g1.elim
     | some e1 =>
      simp only [hG] at g1
      have lx := RwL.length f1
      refine ⟨by rw [← lx, hl.1, sizeLine_eq]; exact hl.2, fun p np => ?_⟩
      have A := za0 (o := .tup xs) R1 np
      have R2 := za8 (o := .tup xs) R1 np
      obtain ⟨σ', S2, _, q⟩ := ok.run (s.addF p (.tup xs)) ws xs eta σ e1 R2 (RwL.aft A R1 _ _ f1) (S1.aft A R1) hG
      exact ⟨p, xs, rfl, .inl (.inl upd_same), by rw [← lx]; exact hl.1, q _ (Go.nx R2 S2 (Go.aft g1 A))⟩
    ·exact g1.elim
def gA (n : Nat) (Gs : List W → IS → Option IS) : W → IS → Option IS := fun w eta => match w with
 | .t (.tup ts) => if ts.length = n then Gs Yv eta else none
 | .t (.pr ts) => if ts.length = n then Gs Yv eta else none
 | .t (.lst ts) => if ts.length = n then Gs Yv eta else none
 | _ => none
theorem PG.or {t t' : TG} (h : PG X e t) (h' : PG X e t') : PG X e (fun v σ H Q => t v σ H Q ∨ t' v σ H Q) := ⟨fun pins s σ H v u Q I r hw => by
 rcases hw with q | q
 ·exact h.run pins s σ H v u Q I r q
 ·exact h'.run pins s σ H v u Q I r q⟩
end
def mIput (Fd Fk Fv : M W) : M Fl := fun eta hp => (Fv eta hp).bind fun v h1 => (Fd eta h1).bind fun d h2 => (Fk eta h2).bind fun k h3 => match d, k with
 | .r i, .t (.int k) => (match getL h3 i with | some xs => (match ixN xs.length k with | some j => .ok Ydi (h3.set i (some (.lst (xs.set j v)))) | none => .bad) | none => .bad)
 | _, _ => .bad
section
variable {X : Cx} {Wx : WX} {o i value : Expr} {Fo Fi Fv : M W} {pos pos' : Pos}
theorem st_iput (ho : IE X Wx o Fo) (hi : IE X Wx i Fi) (hv : IE X Wx value Fv)
  (ha : ∀ v, assign (.Subscript o i pos') X.env v = (do
   let ov ← holding [v] Yep
   let iv ← holding [v, ov] (eval i X.env)
   standAt pos'
   holding [v, ov, iv] (setItem ov iv v)
   release [v, ov, iv] []) := by intro _; rfl) (hs : swapsWithSole [.Subscript o i pos'] value pos.line X.env = pure false := by rfl) (hw : swappedStores [.Subscript o i pos'] value X.env = pure none := by rfl)
  (h1 : (assignEach [.Subscript o i pos'] X.env).map (·.2) = [assign (.Subscript o i pos') X.env] := by rfl) : ISt X Wx (.Assign [.Subscript o i pos'] value pos) (mIput Fo Fi Fv) :=
 PS.imp (ps_asg hv (pg_sub ho hi set_list ha) hs hw h1) fun D σ H h =>
  tM.bind1 (R := fun v H1 => tE X.K X.w Wx Fo σ H1 fun x H2 => tE X.K X.w Wx Fi σ H2 fun y H3 => rSetL x y v H3 fun H4 => D.nx σ H4)
   (k := fun v eta h1 => (Fo eta h1).bind fun d h2 => (Fi eta h2).bind fun k h3 => (match d, k with
    | .r i, .t (.int k) => (match getL h3 i with | some xs => (match ixN xs.length k with | some j => .ok (Fl.nx eta) (h3.set i (some (.lst (xs.set j v)))) | none => .bad) | none => .bad)
    | _, _ => .bad : Res Fl)) h fun s eta a b R1 S1 f1 g1 => by
   refine ⟨s, eta, rfl, R1, S1, Go.bind g1 fun d d' s2 A2 R2 r2 _ g2 => ?_⟩
   refine ⟨s2, eta, rfl, R2, S1.aft A2 R1, Go.bind g2 fun k k' s3 A3 R3 r3 _ g3 => ?_⟩
   have S3 := (S1.aft A2 R1).aft A3 R2
   have rd := r2.aft A3 R2
   have rv := (f1.aft A2 R1).aft A3 R2
   split at g3
   ·rename_i i k _ _
    split at g3
    ·rename_i xs hx
     split at g3
     ·rename_i j hj
      obtain ⟨p, vs, e, e1, e2, l, _⟩ := R3.lst hx rd
      have ek : k' = .int k := by simpa only [Rw, Rf] using r3
      have A := aft_setL R3 (zbv hx) e1 (c := .lst (xs.set j a)) (o := .lst (vs.set j b))
      exact ⟨p, vs, k, j, e, ek, e2, by rw [← RwL.length l]; exact hj, Go.nx (s := s3.setL i p (.lst (xs.set j a)) (.lst (vs.set j b))) (rel_setL R3 (zbv hx) e1 ⟨_, rfl, RwL.setL j l rv⟩) (S3.aft A R3) (Go.aft g3 A)⟩
     ·exact g3.elim
    ·exact g3.elim
   ·exact g3.elim
end
def mFz (i : Nat) (B : M Fl) : M Fl := fun eta hp => match eta[i]? with
 | some (some w) => (zb4 w hp).bind fun w' h1 => B (eta.set i (some w')) h1
 | _ => .bad
section
variable {X : Cx} {Wx : WX} {rest : List Stmt} {B : M Fl}
theorem sl_same {K : PySem.W.Frag} {s : S4} {eta : IS} {σ : St} (S1 : Sl K s eta σ) (i : Nat) {w : W} {v : V} (h : σ[i]? = some (some v)) (r : Rw K s w v) : Sl K s Yfg σ := by
 have q := S1.set i r
 have e : σ.set i (some v) = σ := by
  apply List.ext_getElem?
  intro j
  by_cases hj : i = j
  ·subst hj
   rw [List.getElem?_set_self (by exact (List.getElem?_eq_some_iff.mp h).1), h]
  ·rw [List.getElem?_set_ne hj]
 rw [e] at q
 exact q
theorem is_fz (i : Nat) (h : ISs X Wx rest B) : ISs X Wx rest (mFz i B) := PSs.imp h fun D σ H q => by
 obtain ⟨s, eta, e1, R1, S1, g⟩ := q
 unfold mFz at g
 split at g
 ·rename_i w hw
  obtain ⟨v, h1, h2⟩ := S1.2 i w hw
  cases w with
  | t x => exact ⟨s, _, e1, R1, sl_same S1 i h1 h2, g⟩
  | r j =>
   simp only [zb4] at g
   cases hl : (getL s.hp j).bind allT with
   | none => simp only [hl] at g; exact g.elim
   | some ts =>
    simp only [hl] at g
    rw [Option.bind_eq_some_iff] at hl
    obtain ⟨ws, q1, q2⟩ := hl
    obtain ⟨a, vs, e, ea, e2, l, _⟩ := R1.lst q1 h2
    subst e
    have A := aft_frz R1 (zbv q1) ea
    rw [zbu q2] at l
    refine ⟨s.frz j a, _, e1, rel_frz R1 (zbv q1) ea, sl_same (S1.aft A R1) i h1 ?_, Go.aft g A⟩
    simp only [Rw, Rf]
    exact ⟨a, vs, rfl, ⟨.inr rfl, e2⟩, RfL.aft A R1 _ _ Yef⟩
 ·exact g.elim
end
end Mir
namespace Mir
open PySem PySem.Spec L2
open PyProof.Rows hiding St
/-- xs[::-1], a list that lives on -/
def oRevL : Op1 := fun a hp => match litems hp a with
 | some ws => .ok Ycs (hp ++ [some (.lst ws.reverse)])
 | none => .bad
theorem RwL.rev {K : PySem.W.Frag} {s : S4} : ∀ {ts : List W} {vs : List V}, RwL K s ts vs → RwL K s ts.reverse vs.reverse
 | [], _, h => by rw [show _ = [] from h]; rfl
 | x :: xs, vs, h => by
  obtain ⟨v, r, e, a, b⟩ := h
  subst e
  rw [List.reverse_cons, List.reverse_cons]
  exact RwL.append (RwL.rev b) (show RwL K s [x] [v] from ⟨v, [], rfl, a, rfl⟩)
section
variable {X : Cx} {Wx : WX} {e st a : Expr} {F : M W} {pos p3 p p1 pos1 : Pos} {live : Bool}
theorem t_revLv : ∀ σ H Q, tE X.K X.w Wx (mUn oRevL F) σ H Q → tRevL X.K (tE X.K X.w Wx F) σ H Q := fun σ H Q h =>
 tM.bind1 (R := fun (x : V) (H1 : Hp) => ∃ a xs, x = .ref a ∧ SqL X.K H1 a xs ∧ ∀ p, H1 p = none → Q (.ref p) (upd H1 p (.lst xs.reverse))) (k := fun (a : W) _ hp => oRevL a hp) h fun s eta a b R1 _ f1 g => by
  unfold oRevL at g
  split at g
  ·rename_i ws h1
   obtain ⟨p, us, e1, t1, q1⟩ := litems_sq R1 h1 f1
   exact ⟨p, us, e1, t1, fun q np => g (.ref q) (s.addL q (.lst ws.reverse) (.lst us.reverse)) rfl (aft_addL R1 np) (rel_addL R1 np ⟨_, rfl, RwL.rev q1⟩) (addL_r R1)⟩
  ·exact g.elim
theorem ie_revL {k : Nat} {p1 p2 : Pos} (he : IE X Wx e F) : IE X Wx (.Subscript e (.Slice none none (some (.UnaryOp .USub (.Constant (.int 1) k p1) p2)) p3) pos) (mUn oRevL F) := PE.imp (pe_revL he) t_revLv
end
end Mir
namespace Mir
open PySem PySem.Spec L2
open PyProof.Rows hiding St
end Mir
namespace Mir
open PySem PySem.Spec L2
open PyProof.Rows hiding St
theorem Sl.congr {K : PySem.W.Frag} {s s' : S4} {eta : IS} {σ : St} (hr : s'.rho = s.rho) (hf : ∀ a, s.fz a → s'.fz a) (k : ∀ a, s.fz a → s'.H a = s.H a) (h : Sl K s eta σ) : Sl K s' eta σ :=
 ⟨h.1, fun i w e => let ⟨v, a, b⟩ := h.2 i w e; ⟨v, a, b.congr hr hf k⟩⟩
end Mir
namespace Mir
open PySem PySem.Spec L2
open PyProof.Rows hiding St
end Mir
namespace Mir
open PySem PySem.Spec L2
open PyProof.Rows hiding St
end Mir
namespace Mir
open PySem PySem.Spec L2
open Sem (wp)
end Mir
namespace Mir
open PySem PySem.Spec L2
open PyProof.Rows hiding St
section
variable {K : PySem.W.Frag} {ω : World} {s : S4}
theorem RwK.split : ∀ {ws : List (Key × W)} {vs : List (Key × V)} {ts : List T}, RwK K s ws vs → allT (ws.map (·.2)) = some ts → RfL K s.fz s.H ts (vs.map (·.2)) ∧ vs = (ws.map (·.1)).zip (vs.map (·.2)) := by
 intro ws
 induction ws with
 | nil =>
  intro vs ts h e
  rw [show vs = [] from h]
  have e' : ts = [] := by simpa [allT] using e.symm
  subst e'
  exact ⟨by simp [RfL], rfl⟩
 | cons x xs ih =>
  intro vs ts h e
  obtain ⟨v, r, e1, a, b⟩ := h
  subst e1
  have q := zbu e
  cases ts with
  | nil => cases q
  | cons t ts =>
   simp only [List.map_cons, List.cons.injEq] at q
   obtain ⟨q1, q2⟩ := q
   have e2 : allT (xs.map (·.2)) = some ts := by
    rw [q2]
    clear e ih q2 b
    induction ts with
    | nil => rfl
    | cons u us ih => simp [allT, ih]
   obtain ⟨i1, i2⟩ := ih b e2
   rw [q1] at a
   refine ⟨?_, ?_⟩
   ·simp only [List.map_cons, RfL]
    exact ⟨v, _, rfl, a, i1⟩
   ·simp only [List.map_cons, List.zip_cons_cons]
    rw [← i2]
end
def freezeD (w : W) (hp : IH) : Res W := match w with
 | .r i => (match getD hp i with
  | some kvs => (match allT (kvs.map (·.2)) with | some ts => .ok (.t (.dic (kvs.map (·.1)) ts)) (hp.set i none) | none => .bad)
  | none => .bad)
 | _ => .bad
def mFrzD (F : M W) : M W := fun eta hp => (F eta hp).bind fun a h1 => freezeD a h1
section
variable {X : Cx} {Wx : WX} {e m k v : Expr} {F Fd Fk Fv : M W} {pos : Pos}
theorem RwK.isSome {K : PySem.W.Frag} {s : S4} (k : Key) {ws : List Yd5} {vs : List (Key × V)} (r : RwK K s ws vs) : (valV vs k).isSome = (valW ws k).isSome := by
 cases h : valW ws k with
 | none => rw [r.none k h]; rfl
 | some w => obtain ⟨v, h1, _⟩ := r.val k h; rw [h1]; rfl
end
end Mir
namespace Mir
open PySem PySem.Spec L2
open PyProof.Rows hiding St
end Mir
namespace MirS
open PySem PyProof.Rows Srt SrtO
section
variable {prog : Program} {w : World} {A : Around} {E : Value → Shared → Prop} {s : Shared}
theorem collect_sq {Q : List Value → Shared → Prop} (l : Addr) {T : String} {o : Obj} {xs : Array Value} {n : Nat} (hT : T = "list" ∨ T = "tuple") (ho : s.heap.get? l = some o) (hc : o.cls = .type T) (hd : o.data = .seq xs n)
  (hq : ∀ h1, s.heap.objs.size ≤ h1.objs.size → (∀ b u, s.heap.get? b = some u → h1.get? b = some u) → Q xs.toList { s with heap := h1 }) (hz : xs.size ≤ sizeLine) : wpAny Ydx A (collect (.ref l)) Q E s := by
 let G : Heap := s.heap.push { cls := .type "list", data := .seq ([] : List Value).toArray }
 let G2 : Heap := G.update s.heap.objs.size (Obj.mapSeq (· ++ xs))
 have a0 : G.get? s.heap.objs.size = some { cls := .type "list", data := .seq #[] 0 } := Heap.get?_push_size _ rfl
 have a1 := Heap.get?_update_self (Obj.mapSeq (· ++ xs)) a0 rfl
 have read : wpAny Ydx A (match Value.ref s.heap.objs.size with
   | Value.ref a => do
    match (← load a).data with
     | Data.seq xs _ => pure xs.toList
     | _ => unsupported "internal:collect"
   | _ => unsupported "internal:collect") Q E { s with heap := G2 } := by
  show wpAny _ A (load s.heap.objs.size >>= _) _ _ _
  refine wpAny_bind (wpAny_load a1 (wpAny_pure ?_))
  show Q ((#[] : Array Value) ++ xs).toList _
  rw [show ((#[] : Array Value) ++ xs).toList = xs.toList by simp]
  refine hq _ (by rw [Heap.size_update, size_push']; exact Nat.le_succ _) fun b u q => ?_
  rw [Heap.get?_update_other _ _ (Nat.ne_of_gt (Heap.lt_size q))]
  exact Heap.get?_push_of_some _ q
 unfold collect
 refine wpAny_bind (wpAny_runValue (codeAny_builtin F.entry_proto_collect ?_))
 rw [Around.under_plainId F.plain_proto_collect _]
 refine wpAny_bind (m := newList []) (wpAny_newObj_type ?_)
 refine wpAny_pure ⟨plainId_quiet F.plain_list_iadd _, codeAny_builtin F.entry_list_iadd ?_⟩
 rw [Around.under_plainId F.plain_list_iadd _]
 show wpAny _ A.in1 (Builtin.List.listExtendWith Yc9 (.ref l) Yc9) _ _ { s with heap := G }
 have ex := wpAny_extend_seq (prog := prog) (w := w) (hsz := hz) (A := A) (R := fun r s' => r = .ok (.ret Yc9) ∧ s' = { s with heap := G2 }) (s := { s with heap := G }) _ l _ 0 hT a0 (Heap.get?_push_of_some _ ho) hc hd ⟨rfl, rfl⟩
 refine wpAny_mono ex (fun r s' q => ?_) fun e s' q => absurd q.1 Ycc
 cases r with
 | done f =>
  obtain ⟨e, rfl⟩ := q
  cases e
  exact read
 | again c => exact ⟨q.1, codeAny_mono q.2 fun r' s'' z => by obtain ⟨rfl, rfl⟩ := z; exact read⟩
theorem sorted_seqO {l : Addr} {T : String} {o : Obj} {vs : List Value} {n : Nat} {ltv : Value → Value → Bool} {Q : Value → Shared → Prop} (O : Swo ltv) (hT : T = "list" ∨ T = "tuple") (ho : s.heap.get? l = some o) (hc : o.cls = .type T) (hd : o.data = .seq vs.toArray n) (hz : vs.length ≤ sizeLine)
  (hS : 2 ≤ vs.length → ∀ (h₁ : Heap) (a : Addr), h₁.get? a = some Yu → (∀ b o, s.heap.get? b = some o → b ≠ a ∧ h₁.get? b = some o) → SortableO prog w A.in1.in1 { s with heap := h₁ } a vs ltv)
  (h : ∀ (h2 : Heap) (p : Addr) (out : List Value) (ep : Nat), Srtd ltv out → Stb ltv out vs → s.heap.objs.size ≤ p → (∀ b o, s.heap.get? b = some o → h2.get? b = some o) → h2.get? p = some (seqObj "list" out.toArray ep) → Q (.ref p) { s with heap := h2 }) :
  wpAny Ydx A (call Ycn [.ref l]) Q E s := by
 refine Calls.call_function_entry kind_sorted plain_sorted entry_sorted (args_sorted1 _) ?_
 unfold Builtin.«sorted»
 refine wpAny_bind (m := checkCount "sorted" 1 1 _) (wpAny_pure ?_)
 refine wpAny_bind (collect_sq l hT ho hc hd (fun h1 z1 k1 => ?_) (by rw [List.size_toArray]; exact hz))
 rw [show vs.toArray.toList = vs by simp]
 refine wpAny_bind (wpAny_newList ?_ hz)
 have hoL : (h1.push Yu).get? h1.objs.size = some Yu := Heap.get?_push_size _ rfl
 have lt1 : ∀ b o, s.heap.get? b = some o → b < h1.objs.size := fun b o q => Heap.lt_size (k1 b o q)
 have keep : ∀ b o, s.heap.get? b = some o → b ≠ h1.objs.size ∧ (h1.push Yu).get? b = some o := fun b o q =>
  ⟨Nat.ne_of_lt (lt1 b o q), Heap.get?_push_of_some _ (k1 b o q)⟩
 show wpAny _ _ _ _ _ { s with heap := h1.push Yu }
 refine wpAny_bind (wpAny_holding (wpAny_call_entry slot_list_sort ⟨_, hoL, rfl⟩ entry_list_sort (list_sort_ord O hoL hz (fun h2 => hS h2 _ _ hoL keep) fun out hs hb => ⟨_, rfl, ?_⟩) (args_list_sort _)))
 obtain ⟨ep, he⟩ := sortedHeap_at (vs := vs) (n := 0) (out := out.toArray) hoL
 refine wpAny_pure ⟨_, rfl, h _ h1.objs.size out ep hs hb ?_ (fun b o q => ?_) he⟩
 ·exact z1
 ·rw [sortedHeap_old (keep b o q).1 (by rw [size_push']; exact Nat.lt_succ_of_lt (lt1 b o q))]
  exact (keep b o q).2
end
end MirS
namespace Mir
open PySem PySem.Spec L2
open PyProof.Rows hiding St
end Mir
namespace Mir
open PySem PySem.Spec L2
open PyProof.Rows hiding St
abbrev EntV := Addr × Addr × List Key × V
def mergeT (es : List EntV) (acc : List Ycw) : List Ycw := es.foldl (fun acc e => putK acc e.2.2.1 e.2.2.2) acc
def keyT : T → Option Key
 | .int i => some (.inl i)
 | .str x => some (.inr x)
 | _ => none
def keysT : List T → Option (List Key)
 | [] => some []
 | t :: r => match keyT t, keysT r with
  | some k, some ks => some (k :: ks)
  | _, _ => none
def putG (kvs : List Ycf) (k : List Key) (v : T) : List Ycf :=
 if (kvs.any fun kv => decide (kv.1 = k)) = true then kvs.map (fun kv => if kv.1 = k then (kv.1, v) else kv) else kvs ++ [(k, v)]
def mergeG (es acc : List Ycf) : List Ycf := es.foldl (fun acc e => putG acc e.1 e.2) acc
def valD2 (kvs : List Ycf) (k : List Key) : Option T := (kvs.find? fun kv => decide (kv.1 = k)).map (·.2)
section
variable {K : PySem.W.Frag} {ω : World} {Wx : WX} {s : S4}
abbrev RD (K : PySem.W.Frag) (fz : Addr → Prop) (H : Hp) : List Ycf → List Ycw → Prop := Paired fun e p => p.1 = e.1 ∧ Rf K fz H e.2 p.2
theorem RD.any {fz : Addr → Prop} {H : Hp} {l : List Ycf} {kvs : List Ycw} (r : RD K fz H l kvs) (k : List Key) : (kvs.any fun kv => decide (kv.1 = k)) = l.any fun kv => decide (kv.1 = k) := by
 induction r with
 | nil => rfl
 | cons h t ih => simp only [List.any_cons, ih, h.1]
theorem RD.repl {fz : Addr → Prop} {H : Hp} {l : List Ycf} {kvs : List Ycw} (r : RD K fz H l kvs) (k : List Key) {x : T} {v : V} (h : Rf K fz H x v) :
  RD K fz H (l.map fun kv => if kv.1 = k then (kv.1, x) else kv) (kvs.map fun kv => if kv.1 = k then (kv.1, v) else kv) := by
 induction r with
 | nil => exact .nil
 | @cons e p _ _ h1 t ih =>
  rw [List.map_cons, List.map_cons]
  refine .cons ?_ ih
  by_cases q : e.1 = k
  ·rw [if_pos q, if_pos (h1.1.trans q)]; exact ⟨h1.1, h⟩
  ·rw [if_neg q, if_neg (fun z => q (h1.1.symm.trans z))]; exact h1
theorem RD.put {fz : Addr → Prop} {H : Hp} {l : List Ycf} {kvs : List Ycw} (r : RD K fz H l kvs) (k : List Key) {x : T} {v : V} (h : Rf K fz H x v) : RD K fz H (putG l k x) (putK kvs k v) := by
 unfold putG putK
 rw [r.any k]
 split
 ·exact r.repl k h
 ·exact Paired.snoc r ⟨rfl, h⟩
theorem RD.merge {fz : Addr → Prop} {H : Hp} : ∀ {es : List (List Key × T)} {fs : List EntV} {l : List (List Key × T)} {kvs : List (List Key × V)}, Paired (fun (e : List Key × T) (f : EntV) => f.2.2.1 = e.1 ∧ Rf K fz H e.2 f.2.2.2) es fs → RD K fz H l kvs → RD K fz H (mergeG es l) (mergeT fs kvs)
 | _, _, _, _, .nil, r => r
 | _, _, _, _, .cons (a := e) (b := f) h t, r => by
  refine RD.merge (l := putG _ e.1 e.2) (kvs := putK _ f.2.2.1 f.2.2.2) t ?_
  rw [h.1]
  exact r.put _ h.2
theorem RD.zip {fz : Addr → Prop} {H : Hp} {l : List Ycf} {kvs : List Ycw} (r : RD K fz H l kvs) : kvs = (l.map (·.1)).zip (kvs.map (·.2)) ∧ RfL K fz H (l.map (·.2)) (kvs.map (·.2)) := by
 induction r with
 | nil => exact ⟨rfl, by simp [RfL]⟩
 | @cons e p _ _ h t ih =>
  refine ⟨?_, ?_⟩
  ·simp only [List.map_cons, List.zip_cons_cons]
   rw [← ih.1, ← h.1]
  ·simp only [List.map_cons, RfL]
   exact ⟨_, _, rfl, h.2, ih.2⟩
theorem RD.of {fz : Addr → Prop} {H : Hp} : ∀ {ks : List (List Key)} {ts : List T} {vs : List V}, RfL K fz H ts vs → RD K fz H (ks.zip ts) (ks.zip vs)
 | [], _, _, _ => .nil
 | k :: ks, [], vs, h => by simp only [RfL] at h; rw [h]; exact .nil
 | k :: ks, t :: ts, vs, h => by
  simp only [RfL] at h
  obtain ⟨v, r, rfl, a, b⟩ := h
  exact .cons ⟨rfl, a⟩ (RD.of b)
theorem RD.val {fz : Addr → Prop} {H : Hp} {l : List Ycf} {kvs : List Ycw} (r : RD K fz H l kvs) (k : List Key) : (valD2 l k = none ∧ valV kvs k = none) ∨ ∃ x v, valD2 l k = some x ∧ valV kvs k = some v ∧ Rf K fz H x v := by
 induction r with
 | nil => exact .inl ⟨rfl, rfl⟩
 | @cons e p _ _ h t ih =>
  by_cases q : e.1 = k
  ·refine .inr ⟨e.2, p.2, ?_, valV_pos (h.1.trans q), h.2⟩
   simp [valD2, List.find?_cons, q]
  ·have e1 : valV (p :: _) k = valV _ k := valV_neg (r := by assumption) (fun z => q (h.1.symm.trans z))
   have e2 : ∀ r, valD2 (e :: r) k = valD2 r k := fun r => by simp [valD2, List.find?_cons, q]
   rw [e1, e2]
   exact ih
theorem keys_rf {fz : Addr → Prop} {H : Hp} : ∀ {ts : List T} {vs : List V} {ks : List Key}, keysT ts = some ks → RfL K fz H ts vs → vs = ks.map kV
 | [], vs, ks, h, r => by
  simp only [keysT, Option.some.injEq] at h
  subst h
  simp only [RfL] at r
  exact r
 | t :: ts, vs, ks, h, r => by
  unfold keysT at h
  split at h
  ·rename_i k ks' h1 h2
   cases h
   simp only [RfL] at r
   obtain ⟨v, r', rfl, a, b⟩ := r
   rw [keys_rf h2 b, List.map_cons]
   refine congrArg (· :: _) ?_
   unfold keyT at h1
   split at h1
   ·cases h1; simp only [Rf] at a; exact a
   ·cases h1; simp only [Rf] at a; exact a
   ·cases h1
  ·cases h
end
end Mir
namespace Mir
open PySem PySem.Spec L2
open PyProof.Rows hiding St
section
variable {prog : Program} {w : World}
theorem SeqH.there {h : Heap} {kd : Kd} {a : Addr} {its : Array Value} (x : SeqH h kd a its) : ∃ o, h.get? a = some o := by
 cases kd with
 | l => obtain ⟨o, e, _⟩ := x; exact ⟨o, e⟩
 | t => obtain ⟨o, e, _⟩ := x; exact ⟨o, e⟩
theorem SeqH.kp {h h' : Heap} {kd : Kd} {a : Addr} {its : Array Value} (x : SeqH h kd a its) (k : ∀ o, h.get? a = some o → h'.get? a = some o) : SeqH h' kd a its := by
 cases kd with
 | l => obtain ⟨o, e, r⟩ := x; exact ⟨o, k o e, r⟩
 | t => obtain ⟨o, e, r⟩ := x; exact ⟨o, k o e, r⟩
end
end Mir
namespace Mir
open PySem PySem.Spec L2
open PyProof.Rows hiding St
section
variable {A B : Type} {eta : IS} {hp : IH}
@[simp] theorem zah {a : A} {k : A → IH → Res B} : (Res.ok a hp).bind k = k a hp := rfl
@[simp] theorem bind_bad {k : A → IH → Res B} : (Res.bad : Res A).bind k = .bad := rfl
@[simp] theorem bind_er {e : Ex} {k : A → IH → Res B} : (Res.er e eta hp : Res A).bind k = .er e eta hp := rfl
@[simp] theorem noEr_ok {a : A} : noEr (Res.ok a hp) = Res.ok a hp := rfl
@[simp] theorem noEr_bad : noEr (Res.bad : Res A) = .bad := rfl
@[simp] theorem then_nx {S : M Fl} {e : IS} : thenF S (.nx e) hp = S e hp := rfl
@[simp] theorem then_rt {S : M Fl} {w : W} : thenF S (.rt w) hp = .ok (.rt w) hp := rfl
@[simp] theorem then_bk {S : M Fl} {e : IS} : thenF S (.bk e) hp = .ok (.bk e) hp := rfl
@[simp] theorem then_ct {S : M Fl} {e : IS} : thenF S (.ct e) hp = .ok (.ct e) hp := rfl
@[simp] theorem p_var {i : Nat} : mVar i eta hp = (match eta[i]? with | some (some w) => .ok w hp | _ => .bad) := rfl
@[simp] theorem p_c {x : T} : mC x eta hp = (.ok (.t x) hp) := rfl
@[simp] theorem p_bin {f : Op2} {Fa Fb : M W} : mBin f Fa Fb eta hp = ((Fa eta hp).bind fun a h1 => (Fb eta h1).bind fun b h2 => f a b h2) := rfl
@[simp] theorem p_un {f : Op1} {Fa : M W} : mUn f Fa eta hp = ((Fa eta hp).bind fun a h1 => f a h1) := rfl
@[simp] theorem p_nil  : mNil eta hp = (.ok [] hp) := rfl
@[simp] theorem p_cons {Fa : M W} {Fr : M (List W)} : zab Fa Fr eta hp = ((Fa eta hp).bind fun a h1 => (Fr eta h1).bind fun r h2 => .ok (a :: r) h2) := rfl
@[simp] theorem p_star {Fa : M W} {Fr : M (List W)} : mStar Fa Fr eta hp = ((Fa eta hp).bind fun a h1 => match items h1 a with | some ws => (Fr eta h1).bind fun r h2 => .ok (ws ++ r) h2 | none => .bad) := rfl
@[simp] theorem p_app {f : OpN} {Fs : M (List W)} : mApp f Fs eta hp = ((Fs eta hp).bind fun a h1 => f a h1) := rfl
@[simp] theorem p_frz {F : M W} : mFrz F eta hp = ((F eta hp).bind fun a h1 => zb4 a h1) := rfl
@[simp] theorem p_test {f : W → IH → Res Bool} {F : M W} : zal f F eta hp = ((F eta hp).bind fun a h1 => f a h1) := rfl
@[simp] theorem p_and {U V : M Bool} : mAnd U V eta hp = ((U eta hp).bind fun a h1 => if a then V eta h1 else .ok false h1) := rfl
@[simp] theorem p_or {U V : M Bool} : mOr U V eta hp = ((U eta hp).bind fun a h1 => if a then .ok true h1 else V eta h1) := rfl
@[simp] theorem p_not {U : M Bool} : mNot U eta hp = ((U eta hp).bind fun a h1 => .ok (!a) h1) := rfl
@[simp] theorem p_if {A : Type} {U : M Bool} {F G : M A} : mIf U F G eta hp = ((U eta hp).bind fun b h1 => if b then F eta h1 else G eta h1) := rfl
@[simp] theorem p_andV {Fa Fb : M W} : mAndV Fa Fb eta hp = ((Fa eta hp).bind fun a h1 => match a with | .t (.bl true) => Fb eta h1 | .t (.bl false) => .ok (.t Yeg) h1 | _ => .bad) := rfl
@[simp] theorem p_orV {Fa Fb : M W} : mOrV Fa Fb eta hp = ((Fa eta hp).bind fun a h1 => match a with | .t (.bl true) => .ok (.t Ye9) h1 | .t (.bl false) => Fb eta h1 | _ => .bad) := rfl
@[simp] theorem p_notV {Fa : M W} : mNotV Fa eta hp = ((Fa eta hp).bind fun a h1 => match a with | .t (.bl b) => .ok (.t (.bl (!b))) h1 | _ => .bad) := rfl
@[simp] theorem p_chain {f g : Op2} {Fa Fb Fc : M W} : mChain f g Fa Fb Fc eta hp = ((Fa eta hp).bind fun a h1 => (Fb eta h1).bind fun b h2 => (f a b h2).bind fun z h3 => match z with | .t (.bl true) => (Fc eta h3).bind fun c h4 => g b c h4 | .t (.bl false) => .ok (.t Yeg) h3 | _ => .bad) := rfl
@[simp] theorem p_skip  : zbc eta hp = (.ok Ydi hp) := rfl
@[simp] theorem p_seq {S R : M Fl} : mSeq S R eta hp = ((S eta hp).bind (thenF R)) := rfl
@[simp] theorem p_ret {F : M W} : mRet F eta hp = ((F eta hp).bind fun a h1 => .ok (.rt a) h1) := rfl
@[simp] theorem p_retN  : mRetN eta hp = (.ok (.rt Ydj) hp) := rfl
@[simp] theorem p_drop {F : M W} : mDrop F eta hp = ((F eta hp).bind fun _ h1 => .ok Ydi h1) := rfl
@[simp] theorem p_brk  : mBrk eta hp = (.ok (.bk eta) hp) := rfl
@[simp] theorem p_cnt  : mCnt eta hp = (.ok (.ct eta) hp) := rfl
@[simp] theorem p_asg {F : M W} {G : W → IS → Option IS} : mAsg F G eta hp = ((F eta hp).bind fun a h1 => match G a eta with | some e => .ok (.nx e) h1 | none => .bad) := rfl
@[simp] theorem p_set {i : Nat} {F : M W} : mSet i F eta hp = ((F eta hp).bind fun a h1 => .ok (.nx Yfi) h1) := rfl
@[simp] theorem p_par {is : List Nat} {Fs : M (List W)} : mPar is Fs eta hp = ((Fs eta hp).bind fun ws h1 => if ws.length = is.length then .ok (.nx ((is.zip ws).foldl Yf5 eta)) h1 else .bad) := rfl
@[simp] theorem p_parG {n : Nat} {Fs : M (List W)} {Gs : List W → IS → Option IS} : mParG n Fs Gs eta hp = ((Fs eta hp).bind fun ws h1 => if ws.length = n ∧ n ≤ 16777216 then (match Gs ws eta with | some e => .ok (.nx e) h1 | none => .bad) else .bad) := rfl
@[simp] theorem p_aug {i : Nat} {f : Op2} {F : M W} : mAug i f F eta hp = (match eta[i]? with | some (some x) => (F eta hp).bind fun y h1 => (f x y h1).bind fun z h2 => .ok (.nx (eta.set i (some z))) h2 | _ => .bad) := rfl
@[simp] theorem p_for {Fi : M (List W)} {G : W → IS → Option IS} {S : M Fl} : mFor Fi G S eta hp = ((Fi eta hp).bind fun ws h1 => forL G S ws eta h1) := rfl
@[simp] theorem p_while {n : Nat} {U : M Bool} {S : M Fl} : mWhile n U S eta hp = (whileL U S n eta hp) := rfl
@[simp] theorem p_comp {fin : OpN} {Fi : M (List W)} {G : W → IS → Option IS} {U : M Bool} {E : M W} {vs : List Nat} : zb5 fin Fi G U E vs eta hp = ((Fi eta hp).bind fun ws h1 => if ws.length ≤ 16777216 then (zc6 G U E (wipeI eta vs) ws h1).bind fun r h2 => fin r h2 else .bad) := rfl
@[simp] theorem p_sq {F : M W} : mSq F eta hp = ((F eta hp).bind sqI) := rfl
@[simp] theorem p_src {f : List W → IH → Res (List W)} {Fs : M (List W)} : mSrc f Fs eta hp = ((Fs eta hp).bind f) := rfl
@[simp] theorem p_yes  : mYes eta hp = (.ok true hp) := rfl
@[simp] theorem p_call {f : OpN} {ds : List T} {Fs : M (List W)} : zas f ds Fs eta hp = ((Fs eta hp).bind fun ws h1 => noEr (f (ws ++ ds.map W.t) h1)) := rfl
@[simp] theorem p_meth0 {ty : W → IH → Bool} {f : OpM} {Fo : M W} : mMeth0 ty f Fo eta hp = ((Fo eta hp).bind fun w h1 => if ty w h1 = true then f w [] h1 else .bad) := rfl
@[simp] theorem p_meth {ty : W → IH → Bool} {f : OpM} {Fo : M W} {Fs : M (List W)} : mMeth ty f Fo Fs eta hp = ((Fo eta hp).bind fun w h1 => if ty w h1 = true then (Fs eta h1).bind fun ws h2 => f w ws h2 else .bad) := rfl
@[simp] theorem p_sl {Fa : M W} {Fl Fh : MO} : mSl Fa Fl Fh eta hp = ((Fa eta hp).bind fun a h1 => (Fl eta h1).bind fun l h2 => (Fh eta h2).bind fun h h3 => slW a l h h3) := rfl
@[simp] theorem p_noPart  : zco eta hp = (.ok none hp) := rfl
@[simp] theorem p_part {F : M W} : mPart F eta hp = ((F eta hp).bind fun a h1 => match a with | .t (.int i) => .ok (some i) h1 | _ => .bad) := rfl
@[simp] theorem p_disp {ps : List (Key × M W)} : mDisp ps eta hp = ((mVals ps eta (hp ++ [some (.dic [])])).bind fun kvs h1 => match getD h1 hp.length with | some [] => if kvs.length ≤ 15 then .ok Ycs (h1.set hp.length (some (.dic (mergeW [] kvs)))) else .bad | _ => .bad) := rfl
@[simp] theorem p_dput {Fd Fk Fv : M W} : mDPut Fd Fk Fv eta hp = ((Fv eta hp).bind fun v h1 => (Fd eta h1).bind fun d h2 => (Fk eta h2).bind fun k h3 => match d, asK k with | .r i, some k => (match getD h3 i with | some kvs => if kvs.length < 16777216 then .ok Ydi (h3.set i (some (.dic (putW kvs k v)))) else .bad | none => .bad) | _, _ => .bad) := rfl
@[simp] theorem p_fz {i : Nat} {S : M Fl} : mFz i S eta hp = (match eta[i]? with | some (some w) => (zb4 w hp).bind fun w' h1 => S (eta.set i (some w')) h1 | _ => .bad) := rfl
@[simp] theorem p_gN {i : Nat} {w : W} : gN i w eta = some Yfg := rfl
@[simp] theorem p_gsN : gsN [] eta = some eta := rfl
@[simp] theorem p_gsC {G : W → IS → Option IS} {Gs : List W → IS → Option IS} {w : W} {ws : List W} : gsC G Gs (w :: ws) eta = (G w eta).bind fun e => Gs ws e := rfl
@[simp] theorem p_gTp {n : Nat} {Gs : List W → IS → Option IS} {ts : List T} : gT n Gs (.t (.pr ts)) eta = if ts.length = n then Gs Yv eta else none := rfl
@[simp] theorem p_gTt {n : Nat} {Gs : List W → IS → Option IS} {ts : List T} : gT n Gs Yaw eta = if ts.length = n then Gs Yv eta else none := rfl
@[simp] theorem p_gAp {n : Nat} {Gs : List W → IS → Option IS} {ts : List T} : gA n Gs (.t (.pr ts)) eta = if ts.length = n then Gs Yv eta else none := rfl
@[simp] theorem p_gAt {n : Nat} {Gs : List W → IS → Option IS} {ts : List T} : gA n Gs Yaw eta = if ts.length = n then Gs Yv eta else none := rfl
@[simp] theorem p_gAl {n : Nat} {Gs : List W → IS → Option IS} {ts : List T} : gA n Gs Yad eta = if ts.length = n then Gs Yv eta else none := rfl
@[simp] theorem p_forN {G : W → IS → Option IS} {S : M Fl} : forL G S [] eta hp = .ok Ydi hp := rfl
@[simp] theorem p_compN {G : W → IS → Option IS} {U : M Bool} {E : M W} : zc6 G U E eta [] hp = .ok [] hp := rfl
@[simp] theorem allT_mapS {ts : List T} : allT Yv = some ts := by
 induction ts with
 | nil => rfl
 | cons t ts ih => simp [allT, ih]
@[simp] theorem seqT_t {ts : List T} : seqT Yaw = some ts := rfl
@[simp] theorem seqT_l {ts : List T} : seqT Yad = some ts := rfl
@[simp] theorem seqT_s {ts : List T} : seqT (.t (.scr ts)) = some ts := rfl
@[simp] theorem items_t {ts : List T} : items hp Yaw = some Yv := rfl
@[simp] theorem items_l {ts : List T} : items hp Yad = some Yv := rfl
@[simp] theorem items_s {ts : List T} : items hp (.t (.scr ts)) = some Yv := rfl
@[simp] theorem items_r {i : Nat} : items hp (.r i) = getL hp i := rfl
@[simp] theorem litems_l {ts : List T} : litems hp Yad = some Yv := rfl
@[simp] theorem litems_s {ts : List T} : litems hp (.t (.scr ts)) = some Yv := rfl
@[simp] theorem litems_r {i : Nat} : litems hp (.r i) = getL hp i := rfl
@[simp] theorem hitems_l {ts : List T} : hitems hp Yad = some Yv := rfl
@[simp] theorem hitems_r {i : Nat} : hitems hp (.r i) = getL hp i := rfl
@[simp] theorem asT_t {x : T} : asT hp (.t x) = some x := rfl
@[simp] theorem asT_r {i : Nat} : asT hp (.r i) = ((getL hp i).bind allT).map T.lst := rfl
@[simp] theorem getL_new {ws : List W} : getL (hp ++ [some Yb3]) hp.length = some ws := by simp [getL]
@[simp] theorem zci {i : Nat} {ws : List W} (h : i < hp.length) : getL (hp.set i (some Yb3)) i = some ws := by simp [getL, h]
theorem getL_lt {i : Nat} {ws : List W} (h : getL hp i = some ws) : i < hp.length := (List.getElem?_eq_some_iff.mp (zbv h)).1
end
@[simp] theorem allI_map : ∀ {ns : List Int}, allW asI (ns.map fun n => W.t (.int n)) = some ns
 | [] => rfl
 | n :: ns => by simp [allW, asI, allI_map (ns := ns)]
@[simp] theorem allS_map : ∀ {ns : List Str}, allW asS (ns.map fun n => W.t (.str n)) = some ns
 | [] => rfl
 | n :: ns => by simp [allW, asS, allS_map (ns := ns)]
@[simp] theorem allB_map : ∀ {ns : List Bool}, allW asBl (ns.map fun n => W.t (.bl n)) = some ns
 | [] => rfl
 | n :: ns => by simp [allW, asBl, allB_map (ns := ns)]
section
variable {hp : IH} {i j : Int} {b c neg : Bool} {x y : Str} {u v : T}
@[simp] theorem asB_bl : asB Yde hp = .ok b hp := rfl
@[simp] theorem truW_bl : truW Yde hp = .ok b hp := rfl
@[simp] theorem iNeg_i : iNeg Yas hp = .ok (.t (.int (-i))) hp := rfl
@[simp] theorem opI_ii {C : Int → Int → Bool} {g : Int → Int → Int} : opI C g Yas Yb0 hp = if C i j = true then .ok (.t (.int (g i j))) hp else .bad := rfl
@[simp] theorem opC_ii {g : Int → Int → Bool} : opC g Yas Yb0 hp = .ok (.t (.bl (g i j))) hp := rfl
@[simp] theorem cYes_t : cYes i j = true := rfl
@[simp] theorem wLt_ii : wLt Yas Yb0 hp = .ok (.t (.bl (decide (i < j)))) hp := rfl
@[simp] theorem wLt_ss : wLt (.t (.str x)) (.t (.str y)) hp = .ok (.t (.bl (ltCps x.cps.toList y.cps.toList))) hp := rfl
@[simp] theorem wAdd_ii : wAdd Yas Yb0 hp = .ok (.t (.int (i + j))) hp := rfl
@[simp] theorem wAdd_tt {xs ys : List T} : wAdd (.t (.tup xs)) (.t (.tup ys)) hp = if xs.length + ys.length ≤ 16777216 then .ok (.t (.tup (xs ++ ys))) hp else .bad := rfl
@[simp] theorem wAdd_ll {xs ys : List T} : wAdd (.t Ye2) (.t (.lst ys)) hp = if xs.length + ys.length ≤ 16777216 then .ok (.t (.lst (xs ++ ys))) hp else .bad := by simp [wAdd]
@[simp] theorem wMul_ii : wMul Yas Yb0 hp = if cMul i j = true then .ok (.t (.int (i * j))) hp else .bad := rfl
@[simp] theorem wMul_li {xs : List T} : wMul (.t Ye2) Yb0 hp = if -(2 ^ 63) ≤ j ∧ j < 2 ^ 63 ∧ xs.length * j.toNat ≤ 16777216 then .ok (.t (.lst (repT j.toNat xs))) hp else .bad := by simp [wMul]
@[simp] theorem eqW_tt : eqW neg (.t u) (.t v) hp = if fit u 60 = true ∧ fit v 60 = true then .ok (.t (.bl (if neg then !Mir.eqT u v else Mir.eqT u v))) hp else .bad := rfl
@[simp] theorem isN_n : isN neg Ydj Ydj hp = .ok (.t (.bl (!neg))) hp := rfl
@[simp] theorem isN_i : isN neg Yas Ydj hp = .ok (.t (.bl neg)) hp := rfl
@[simp] theorem isN_b : isN neg Yde Ydj hp = .ok (.t (.bl neg)) hp := rfl
@[simp] theorem isN_t {ts : List T} : isN neg Yaw Ydj hp = .ok (.t (.bl neg)) hp := rfl
@[simp] theorem isB_bb : isB neg Yde (.t (.bl c)) hp = .ok Ygk hp := rfl
@[simp] theorem ixW_l {ts : List T} : ixW Yad Yas hp = (match atI Yv i with | some w => .ok w hp | none => .bad) := rfl
@[simp] theorem ixW_t {ts : List T} : ixW Yaw Yas hp = (match atI Yv i with | some w => .ok w hp | none => .bad) := rfl
@[simp] theorem ixW_r {k : Nat} : ixW (.r k) Yas hp = (match (getL hp k).bind fun ws => atI ws i with | some w => .ok w hp | none => .bad) := rfl
@[simp] theorem oInt_i : oInt [.t (.int i)] hp = .ok Yas hp := rfl
@[simp] theorem oAbs_i : oAbs [.t (.int i)] hp = .ok (.t Ygf) hp := rfl
@[simp] theorem oMax2_i : oMax2 [.t (.int i), .t (.int j)] hp = .ok (.t (.int (if j > i then j else i))) hp := rfl
@[simp] theorem oMin2_i : oMin2 [.t (.int i), .t (.int j)] hp = .ok (.t (.int (if j < i then j else i))) hp := rfl
@[simp] theorem oLen_l {ts : List T} : oLen [.t (.lst ts)] hp = .ok (.t (.int ts.length)) hp := by simp [oLen]
@[simp] theorem oLen_t {ts : List T} : oLen [.t (.tup ts)] hp = .ok (.t (.int ts.length)) hp := by simp [oLen]
@[simp] theorem oLen_r {k : Nat} : oLen [.r k] hp = (match getL hp k with | some xs => .ok (.t (.int xs.length)) hp | none => .bad) := rfl
@[simp] theorem oTup_t {ts : List T} : oTup [.t (.tup ts)] hp = .ok Yaw hp := rfl
@[simp] theorem oTup_l {ts : List T} : oTup [.t (.lst ts)] hp = .ok Yaw hp := by simp [oTup]
@[simp] theorem oListF_l {ts : List T} : oListF [.t (.lst ts)] hp = .ok Yad hp := by simp [oListF]
@[simp] theorem oListF_t {ts : List T} : oListF [.t (.tup ts)] hp = .ok Yad hp := by simp [oListF]
@[simp] theorem oListL_l {ts : List T} : oListL [.t (.lst ts)] hp = .ok Ycs (hp ++ [some (.lst Yv)]) := rfl
@[simp] theorem oListL_t {ts : List T} : oListL [.t (.tup ts)] hp = .ok Ycs (hp ++ [some (.lst Yv)]) := rfl
@[simp] theorem sqI_l {ts : List T} : sqI Yad hp = .ok Yv hp := rfl
@[simp] theorem sqI_t {ts : List T} : sqI Yaw hp = .ok Yv hp := rfl
@[simp] theorem sqI_s {ts : List T} : sqI (.t (.scr ts)) hp = .ok Yv hp := rfl
@[simp] theorem rng1_i : rng1 [.t (.int i)] hp = if -(2 ^ 62) ≤ i ∧ i < 2 ^ 62 then .ok ((List.range i.toNat).map fun k => W.t (.int (0 + (k : Nat)))) hp else .bad := rfl
@[simp] theorem rng2_i : rng2 [.t (.int i), .t (.int j)] hp = if -(2 ^ 62) ≤ i ∧ i < 2 ^ 62 ∧ -(2 ^ 62) ≤ j ∧ j < 2 ^ 62 then .ok Yfq hp else .bad := rfl
@[simp] theorem enum1_1 {a : W} : enum1 [a] hp = (match seqT a with | some ts => .ok (enumT 0 ts) hp | none => .bad) := rfl
@[simp] theorem zip2_2 {a b : W} : zip2 [a, b] hp = (match seqT a, seqT b with | some ts, some us => .ok (zipT ts us) hp | _, _ => .bad) := rfl
@[simp] theorem isL_r {k : Nat} : isL (.r k) hp = (getL hp k).isSome := rfl
@[simp] theorem isL_l {ts : List T} : isL Yad hp = true := rfl
@[simp] theorem isTp_t {ts : List T} : isTp Yaw hp = true := rfl
@[simp] theorem freeze_t : zb4 (.t u) hp = .ok (.t u) hp := rfl
@[simp] theorem freeze_r {k : Nat} : zb4 (.r k) hp = (match (getL hp k).bind allT with | some ts => .ok Yad (hp.set k none) | none => .bad) := rfl
@[simp] theorem fit_n {n : Nat} : fit .non n = true := by cases n <;> rfl
@[simp] theorem fit_b {n : Nat} : fit (.bl b) n = true := by cases n <;> rfl
@[simp] theorem fit_i {n : Nat} : fit (.int i) n = true := by cases n <;> rfl
@[simp] theorem fit_s {n : Nat} : fit (.str x) n = true := by cases n <;> rfl
@[simp] theorem fit_t {n : Nat} {ts : List T} : fit (.tup ts) (n + 1) = fitL ts n := rfl
@[simp] theorem fit_l {n : Nat} {ts : List T} : fit (.lst ts) (n + 1) = fitL ts n := rfl
@[simp] theorem fitL_n {n : Nat} : fitL [] n = true := by cases n <;> rfl
@[simp] theorem fitL_c {n : Nat} {ts : List T} : fitL (u :: ts) n = (fit u n && fitL ts n) := by cases n <;> rfl
@[simp] theorem eqT_nn : Mir.eqT .non .non = true := by simp [Mir.eqT]
@[simp] theorem eqT_ii : Mir.eqT (.int i) (.int j) = (i == j) := by simp [Mir.eqT]
@[simp] theorem eqT_bb : Mir.eqT (.bl b) (.bl c) = (b == c) := by simp [Mir.eqT]
@[simp] theorem eqT_ss : Mir.eqT (.str x) (.str y) = (x == y) := by simp [Mir.eqT]
@[simp] theorem eqT_tt {ts us : List T} : Mir.eqT (.tup ts) (.tup us) = eqTL ts us := by simp [Mir.eqT]
@[simp] theorem eqT_ll {ts us : List T} : Mir.eqT (.lst ts) (.lst us) = eqTL ts us := by simp [Mir.eqT]
@[simp] theorem eqTL_nn : eqTL [] [] = true := by simp [eqTL]
@[simp] theorem eqTL_cn {ts : List T} : eqTL (u :: ts) [] = false := by simp [eqTL]
@[simp] theorem eqTL_nc {ts : List T} : eqTL [] (u :: ts) = false := by simp [eqTL]
@[simp] theorem eqTL_cc {ts us : List T} : eqTL (u :: ts) (v :: us) = (Mir.eqT u v && eqTL ts us) := by simp [eqTL]
@[simp] theorem allT_n : allT [] = some [] := rfl
@[simp] theorem allT_c {ws : List W} : allT (.t u :: ws) = (allT ws).map (u :: ·) := rfl
@[simp] theorem lstOf_e {ws : List W} : zap ws hp = (match allT ws with | some ts => if ts.length ≤ 16777216 then .ok Yad hp else .bad | none => .bad) := rfl
@[simp] theorem tupOf_e {ws : List W} : za4 ws hp = (match allT ws with | some ts => if ts.length ≤ 16777216 then .ok Yaw hp else .bad | none => .bad) := rfl
@[simp] theorem newL_e {ws : List W} : newL ws hp = if ws.length ≤ 16777216 then .ok Ycs (hp ++ [some Yb3]) else .bad := rfl
@[simp] theorem oAppend_r {k : Nat} {w : W} : oAppend (.r k) [w] hp = (match getL hp k with | some xs => if xs.length < 16777216 then .ok Ydj (hp.set k (some (.lst (xs ++ [w])))) else .bad | none => .bad) := rfl
@[simp] theorem oPop_r {k : Nat} : oPop (.r k) [] hp = (match getL hp k with | some xs => (match xs[xs.length - 1]? with | some y => .ok y (hp.set k (some (.lst xs.dropLast))) | none => .bad) | none => .bad) := rfl
@[simp] theorem asK_i : asK Yas = some (.inl i) := rfl
@[simp] theorem asK_s : asK (.t (.str x)) = some (.inr x) := rfl
@[simp] theorem dGet_s {k : Nat} {w : W} : dGet (.r k) w hp = (match asK w with | some q => (match (getD hp k).bind fun kvs => valW kvs q with | some w => .ok w hp | none => .bad) | none => .bad) := by
 unfold dGet
 cases asK w <;> rfl
end
theorem fitL_ints {ns : List Int} {n : Nat} : fitL (ns.map T.int) n = true := by
 induction ns with
 | nil => simp
 | cons x xs ih => simp [ih]
theorem bin_ok {f : Op2} {Fa Fb : M W} {eta : IS} {hp h1 h2 : IH} {a b : W} {r : Res W} (ha : Fa eta hp = .ok a h1) (hb : Fb eta h1 = .ok b h2) (h : f a b h2 = r) : mBin f Fa Fb eta hp = r := by
 rw [p_bin, ha, zah, hb, zah]
 exact h
theorem zaq {Fa : M W} {Fs : M (List W)} {eta : IS} {hp h1 h2 : IH} {a : W} {as : List W} (ha : Fa eta hp = .ok a h1) (hs : Fs eta h1 = .ok as h2) : zab Fa Fs eta hp = .ok (a :: as) h2 := by
 rw [p_cons, ha, zah, hs, zah]
theorem zbr {f : OpN} {Fs : M (List W)} {eta : IS} {hp h1 h2 : IH} {w : W} {ws : List W} (hs : Fs eta hp = .ok ws h1) (h : f ws h1 = .ok w h2) : zas f [] Fs eta hp = .ok w h2 := by
 rw [p_call, hs, zah, List.map_nil, List.append_nil, h, noEr_ok]
theorem test_ok {F : M W} {eta : IS} {hp h1 : IH} {b : Bool} (h : F eta hp = .ok Yde h1) : zal asB F eta hp = .ok b h1 := by
 rw [p_test, h, zah, asB_bl]
theorem if_no {A : Type} {U : M Bool} {F G : M A} {eta : IS} {hp h1 : IH} (h : U eta hp = .ok false h1) : mIf U F G eta hp = G eta h1 := by
 rw [p_if, h, zah, if_neg Bool.false_ne_true]
theorem if_yes {A : Type} {U : M Bool} {F G : M A} {eta : IS} {hp h1 : IH} (h : U eta hp = .ok true h1) : mIf U F G eta hp = F eta h1 := by
 rw [p_if, h, zah, if_pos rfl]
theorem zbe {S R : M Fl} {eta e1 : IS} {hp h1 : IH} {r : Res Fl} (h : S eta hp = .ok (.nx e1) h1) (g : R e1 h1 = r) : mSeq S R eta hp = r := by
 rw [p_seq, h, zah, then_nx]
 exact g
theorem set_ok {i : Nat} {F : M W} {eta : IS} {hp h1 : IH} {w : W} (h : F eta hp = .ok w h1) : mSet i F eta hp = .ok (.nx Yfg) h1 := by
 rw [p_set, h, zah]
theorem fnM_ok {n nn : Nat} {B : M Fl} {ws : List W} {hp h1 : IH} {x : W} {eta : IS} (hl : ws.length = n) (he : ws.map some ++ List.replicate (nn - n) none = eta) (h : B eta hp = .ok (.rt x) h1) : fnM n nn B ws hp = .ok x h1 := by
 unfold fnM
 rw [if_pos hl, he, h]
end Mir
namespace Mir
open PySem PySem.Spec L2
open PyProof.Rows hiding St
theorem comp_list {A : Type} {i : Nat} {U : M Bool} {E : M W} {f g : A → T} {p : A → Bool} {eta : IS} {hp : IH} : ∀ {as : List A}, (∀ a ∈ as, U (eta.set i (some (.t (f a)))) hp = .ok (p a) hp) → (∀ a ∈ as, p a = true → E (eta.set i (some (.t (f a)))) hp = .ok (.t (g a)) hp) →
  zc6 (gN i) U E eta ((as.map f).map W.t) hp = .ok (((as.filter p).map g).map W.t) hp
 | [], _, _ => rfl
 | a :: as, h, k => by
  have h1 := h a Yf7
  have ih := comp_list (i := i) (eta := eta) (as := as) (fun u hu => h u Ydk) fun u hu => k u Ydk
  cases q : p a with
  | true =>
   have k1 := k a Yf7 q
   simp only [List.map_cons, zc6, turnL, p_gN, h1, q, zah, if_true, k1, noEr_ok, ih, List.filter_cons_of_pos q]
  | false =>
   simp only [List.map_cons, zc6, turnL, p_gN, h1, q, zah, Bool.false_eq_true, if_false, noEr_ok, ih, List.filter_cons_of_neg (by simp [q] : ¬ p a = true)]
theorem comp_all {A : Type} {i : Nat} {E : M W} {f g : A → T} {eta : IS} {hp : IH} {as : List A} (h : ∀ a ∈ as, E (eta.set i (some (.t (f a)))) hp = .ok (.t (g a)) hp) : zc6 (gN i) mYes E eta ((as.map f).map W.t) hp = .ok ((as.map g).map W.t) hp := by
 have := comp_list (i := i) (U := mYes) (E := E) (f := f) (g := g) (p := fun _ => true) (eta := eta) (hp := hp) (as := as) (fun _ _ => rfl) fun a ha _ => h a ha
 rw [List.filter_eq_self.mpr fun _ _ => rfl] at this
 exact this
theorem app1_ok {f : OpN} {F : M W} {eta : IS} {hp h1 : IH} {a : W} {r : Res W} (h : F eta hp = .ok a h1) (g : f [a] h1 = r) : mApp f (zab F mNil) eta hp = r := by
 rw [p_app, zaq h rfl, zah]
 exact g
end Mir
namespace Mir
open PySem PySem.Spec L2
open PyProof.Rows hiding St
abbrev wI (n : Int) : W := .t (.int n)
theorem allT_ints (ns : List Int) : allT (ns.map wI) = some (ns.map T.int) := by
 have : ns.map wI = (ns.map T.int).map W.t := by simp [wI]
 rw [this, allT_mapS]
theorem atI_end {A : Type} {xs : List A} {x : A} : atI (xs ++ [x]) (-1) = some x := by
 have h : ixN (xs.length + 1) (-1) = some xs.length := by
  unfold ixN
  rw [if_neg Ym, if_pos Ym]
  congr 1
  omega
 simp [atI, h]
theorem set_same {hp : IH} {j : Nat} {c : Option Cell} (h : hp[j]? = some c) : hp.set j c = hp := by
 apply List.ext_getElem?
 intro k
 by_cases hk : j = k
 ·subst hk
  rw [List.getElem?_set_self (List.getElem?_eq_some_iff.mp h).1, h]
 ·rw [List.getElem?_set_ne hk]
theorem getL_ne {hp : IH} {i j : Nat} {c : Option Cell} (h : j ≠ i) : getL (hp.set j c) i = getL hp i := by simp [getL, List.getElem?_set_ne h]
theorem cDiv_ok {x wide : Int} (hw : 0 < wide) (hw2 : wide < 2 ^ 64) : cDiv x wide = true := by
 simp only [cDiv, decide_eq_true_eq]
 refine ⟨hw, ?_⟩
 have : wide.natAbs.log2 < 64 := (Nat.log2_lt Ym).mpr Ym
 omega
theorem cMod_ok {x wide : Int} (hw : 0 < wide) : cMod x wide = true := by simpa [cMod] using hw
theorem cMul_ok {x y : Int} (hx : x.natAbs < 2 ^ 64) (hy : y.natAbs < 2 ^ 64) : cMul x y = true := by
 have h : ∀ n : Nat, n < 2 ^ 64 → n.log2 < 64 := fun n h => by
  by_cases h0 : n = 0
  ·subst h0; decide
  ·exact (Nat.log2_lt h0).mpr h
 simp only [cMul, decide_eq_true_eq]
 have := h _ hx
 have := h _ hy
 omega
theorem atI_nn {A : Type} {xs : List A} {n : Int} (h0 : 0 ≤ n) (h1 : n < xs.length) : atI xs n = xs[n.toNat]? := by
 unfold atI ixN
 rw [if_pos h0, if_pos h1]
 rfl
theorem getL_app {hp : IH} {k : Nat} {c : List (Option Cell)} (h : k < hp.length) : getL (hp ++ c) k = getL hp k := by unfold getL; rw [List.getElem?_append_left h]
theorem cutL_map {A B : Type} (f : A → B) (xs : List A) (lo hi : Option Int) : cutL (xs.map f) lo hi = (cutL xs lo hi).map f := by
 unfold cutL
 rw [List.length_map, List.map_take, List.map_drop]
theorem cutL_len {A : Type} (xs : List A) (lo hi : Option Int) : (cutL xs lo hi).length ≤ xs.length := by
 unfold cutL
 rw [List.length_take, List.length_drop]
 omega
theorem cutL_to {A : Type} (xs : List A) (k : Nat) : cutL xs none (some (k : Int)) = xs.take k := by
 unfold cutL
 rw [HT.sIx_none, HT.sIx_nat]
 simp only [List.drop_zero, Nat.sub_zero]
 rcases Nat.le_total k xs.length with h | h
 ·rw [Nat.min_eq_left h]
 ·rw [Nat.min_eq_right h, List.take_of_length_le h, List.take_of_length_le Yf4]
def oT : Option Int → T | none => .non | some i => .int i
/-- a list or a tuple -/
def sqT (b : Bool) (ts : List T) : T := if b then .tup ts else .lst ts
def pos (w : List Str) (x : Str) : Nat := w.idxOf x
def natW (k : Nat) : W := .t (.int (0 + (k : Nat)))
theorem rng_is {n : Nat} {hp : IH} (hn : n < 100000) : rng1 [.t (.int n)] hp = .ok ((List.range n).map natW) hp := by
 have c : -(2 ^ 62) ≤ (n : Int) ∧ (n : Int) < 2 ^ 62 := ⟨by omega, by omega⟩
 rw [rng1_i, if_pos c, Int.toNat_natCast]
 rfl
theorem for_ok {Fi : M (List W)} {G : W → IS → Option IS} {S : M Fl} {eta : IS} {hp h1 : IH} {ws : List W} (h : Fi eta hp = .ok ws h1) : mFor Fi G S eta hp = forL G S ws eta h1 := by
 rw [p_for, h]
 rfl
theorem comp_ok {fin : OpN} {Fi : M (List W)} {G : W → IS → Option IS} {U : M Bool} {E : M W} {vs : List Nat} {eta : IS} {hp h1 h2 : IH} {ws ys : List W} {r : Res W} (h : Fi eta hp = .ok ws h1) (hl : ws.length ≤ 16777216) (hc : zc6 G U E (wipeI eta vs) ws h1 = .ok ys h2) (hf : fin ys h2 = r) :
  zb5 fin Fi G U E vs eta hp = r := by
 rw [p_comp, h, zah, if_pos hl, hc, zah]
 exact hf
end Mir
namespace Mir
open PySem PySem.Spec L2
open PyProof.Rows hiding St
theorem binP {f : Op2} {Fa Fb : M W} {eta : IS} {hp : IH} {a b : W} {r : Res W} (ha : Fa eta hp = .ok a hp) (hb : Fb eta hp = .ok b hp) (h : f a b hp = r) : mBin f Fa Fb eta hp = r := bin_ok ha hb h
theorem testP {F : M W} {eta : IS} {hp : IH} {b : Bool} (h : F eta hp = .ok Yde hp) : zal asB F eta hp = .ok b hp := test_ok h
theorem app1P {f : OpN} {F : M W} {eta : IS} {hp : IH} {a : W} {r : Res W} (h : F eta hp = .ok a hp) (g : f [a] hp = r) : mApp f (zab F mNil) eta hp = r := app1_ok h g
theorem varP {i : Nat} {eta : IS} {hp : IH} {w : W} (h : eta[i]? = some (some w)) : mVar i eta hp = .ok w hp := by rw [p_var, h]
theorem iGt_ii {i j : Int} {hp : IH} : iGt Yas Yb0 hp = .ok (.t (.bl (decide (j < i)))) hp := rfl
theorem wMul_ok {i j : Int} {hp : IH} (h : cMul i j = true) : wMul Yas Yb0 hp = .ok (.t (.int (i * j))) hp := by rw [wMul_ii, if_pos h]
theorem frz_ok {k : Nat} {ts : List T} {hp : IH} (h : getL hp k = some Yv) : zb4 (.r k) hp = .ok Yad (hp.set k none) := by
 rw [freeze_r, h, Option.bind_some, allT_mapS]
theorem iMod_ok {i j : Int} {hp : IH} (h : cMod i j = true) : iMod Yas Yb0 hp = .ok (.t (.int (i % j))) hp := by unfold iMod; rw [opI_ii, if_pos h]
theorem iDiv_ok {i j : Int} {hp : IH} (h : cDiv i j = true) : iDiv Yas Yb0 hp = .ok (.t (.int (i / j))) hp := by unfold iDiv; rw [opI_ii, if_pos h]
theorem iput_ok {Fd Fk Fv : M W} {eta : IS} {hp h1 : IH} {i k : Nat} {v : W} {xs : List W} (hv : Fv eta hp = .ok v h1) (hd : Fd eta h1 = .ok (.r i) h1) (hk : Fk eta h1 = .ok (.t (.int k)) h1) (hx : getL h1 i = some xs) (hl : k < xs.length) : mIput Fd Fk Fv eta hp = .ok Ydi (h1.set i (some (.lst (xs.set k v)))) := by
 have e : ixN xs.length (k : Int) = some k := by
  unfold ixN
  rw [if_pos Ym, if_pos Ym]
  rfl
 unfold mIput
 rw [hv, zah, hd, zah, hk, zah]
 simp only [hx, e]
end Mir
namespace Mir
open PySem PySem.Spec L2
open PyProof.Rows hiding St
section
variable {hp : IH} {i j : Int} {x y z u v : T} {ts us : List T} {w : W} {b c : Bool} {s r : Str}
theorem ev_for0 {G : W → IS → Option IS} {S : M Fl} {eta : IS} : forL G S [] eta hp = .ok Ydi hp := rfl
theorem ev_for1 {G : W → IS → Option IS} {S : M Fl} {eta : IS} {ws : List W} : forL G S (w :: ws) eta hp = (match G w eta with | none => .bad | some e1 => (S e1 hp).bind fun f h1 => match f with | .nx e2 => forL G S ws e2 h1 | .ct e2 => forL G S ws e2 h1 | .bk e2 => .ok (.nx e2) h1 | .rt w => .ok (.rt w) h1) := rfl
theorem ev_atl0 {A : Type} {a : A} {l : List A} : atI (a :: l) 0 = some a := by rw [atI_nn Ym (by rw [List.length_cons]; omega)]; rfl
theorem ev_atl1 {A : Type} {a a1 : A} {l : List A} : atI (a :: a1 :: l) 1 = some a1 := by rw [atI_nn Ym (by rw [List.length_cons, List.length_cons]; omega)]; rfl
theorem ev_atl2 {A : Type} {a a1 a2 : A} {l : List A} : atI (a :: a1 :: a2 :: l) 2 = some a2 := by rw [atI_nn Ym Yez]; rfl
theorem ev_atl3 {A : Type} {a a1 a2 a3 : A} {l : List A} : atI (a :: a1 :: a2 :: a3 :: l) 3 = some a3 := by rw [atI_nn Ym Yez]; rfl
theorem ev_ixl0 {a0 : T} : ixW (.t (.lst (a0 :: ts))) (.t (.int 0)) hp = .ok (.t a0) hp := by rw [ixW_l]; simp only [List.map_cons, ev_atl0]
theorem ev_ixt0 {a0 : T} : ixW (.t (.tup (a0 :: ts))) (.t (.int 0)) hp = .ok (.t a0) hp := by rw [ixW_t]; simp only [List.map_cons, ev_atl0]
theorem ev_ixl1 {a0 a1 : T} : ixW (.t (.lst (a0 :: a1 :: ts))) (.t (.int 1)) hp = .ok (.t a1) hp := by rw [ixW_l]; simp only [List.map_cons, ev_atl1]
theorem ev_ixt1 {a0 a1 : T} : ixW (.t (.tup (a0 :: a1 :: ts))) (.t (.int 1)) hp = .ok (.t a1) hp := by rw [ixW_t]; simp only [List.map_cons, ev_atl1]
theorem ev_ixl2 {a0 a1 a2 : T} : ixW (.t (.lst (a0 :: a1 :: a2 :: ts))) (.t (.int 2)) hp = .ok (.t a2) hp := by rw [ixW_l]; simp only [List.map_cons, ev_atl2]
theorem ev_ixt2 {a0 a1 a2 : T} : ixW (.t (.tup (a0 :: a1 :: a2 :: ts))) (.t (.int 2)) hp = .ok (.t a2) hp := by rw [ixW_t]; simp only [List.map_cons, ev_atl2]
theorem ev_ixl3 {a0 a1 a2 a3 : T} : ixW (.t (.lst (a0 :: a1 :: a2 :: a3 :: ts))) (.t (.int 3)) hp = .ok (.t a3) hp := by rw [ixW_l]; simp only [List.map_cons, ev_atl3]
theorem ev_ixt3 {a0 a1 a2 a3 : T} : ixW (.t (.tup (a0 :: a1 :: a2 :: a3 :: ts))) (.t (.int 3)) hp = .ok (.t a3) hp := by rw [ixW_t]; simp only [List.map_cons, ev_atl3]
theorem ev_atl4 {A : Type} {a a1 a2 a3 a4 : A} {l : List A} : atI (a :: a1 :: a2 :: a3 :: a4 :: l) 4 = some a4 := by rw [atI_nn Ym Yez]; rfl
theorem ev_ixl4 {a0 a1 a2 a3 a4 : T} : ixW (.t (.lst (a0 :: a1 :: a2 :: a3 :: a4 :: ts))) (.t (.int 4)) hp = .ok (.t a4) hp := by rw [ixW_l]; simp only [List.map_cons, ev_atl4]
theorem ev_ixt4 {a0 a1 a2 a3 a4 : T} : ixW (.t (.tup (a0 :: a1 :: a2 :: a3 :: a4 :: ts))) (.t (.int 4)) hp = .ok (.t a4) hp := by rw [ixW_t]; simp only [List.map_cons, ev_atl4]
theorem ev_gt : iGt Yas Yb0 hp = .ok (.t (.bl (decide (j < i)))) hp := rfl
theorem ev_ge : iGe Yas Yb0 hp = .ok (.t (.bl (decide (j ≤ i)))) hp := rfl
theorem ev_le : iLe Yas Yb0 hp = .ok (.t (.bl (decide (i ≤ j)))) hp := rfl
theorem ev_sub : iSub Yas Yb0 hp = .ok (.t (.int (i - j))) hp := rfl
theorem ev_eqi {neg : Bool} : eqW neg Yas Yb0 hp = .ok Ygi hp := by
 rw [eqW_tt, if_pos ⟨rfl, rfl⟩]
 rfl
theorem ev_eqs {neg : Bool} : eqW neg (.t (.str s)) (.t (.str r)) hp = .ok (.t (.bl (if neg then !decide (s = r) else decide (s = r)))) hp := by
 have h : (s == r) = decide (s = r) := by
  by_cases q : s = r
  ·subst q; simp
  ·simp [q]
 rw [eqW_tt, if_pos ⟨by simp, by simp⟩, eqT_ss, h]
theorem ev_eqb {neg : Bool} : eqW neg Yde (.t (.bl c)) hp = .ok Ygk hp := by
 rw [eqW_tt, if_pos ⟨by simp, by simp⟩, eqT_bb]
 cases neg <;> cases b <;> cases c <;> rfl
theorem ev_wipe0 {eta : IS} : wipeI eta [] = eta := rfl
theorem ev_wipe1 {eta : IS} {k : Nat} {l : List Nat} : wipeI eta (k :: l) = (wipeI eta l).set k none := rfl
theorem ev_comp1 {G : W → IS → Option IS} {U : M Bool} {E : M W} {eta : IS} {ws : List W} : zc6 G U E eta (w :: ws) hp = (noEr (match G w eta with | none => .bad | some e1 => (U e1 hp).bind fun b h1 => if b then (E e1 h1).bind fun y h2 => .ok (some y) h2 else .ok none h1)).bind fun o h1 => (zc6 G U E eta ws h1).bind fun r h2 => .ok (match o with | some y => y :: r | none => r) h2 := rfl
end
end Mir
namespace Mir
open PySem PySem.Spec L2
open PyProof.Rows hiding St
theorem CN.inj {K : PySem.W.Frag} {c : Str} {C D : Addr} (h : CN K c C) (g : CN K c D) : C = D := by
 have e : some (some (Value.ref C)) = some (some (Value.ref D)) := h.symm.trans g
 cases e
 rfl
def insOf (hp : IH) : W → Option (Str × List Ydt)
 | .t (.ins c ns vs) => some (c, ns.zip (vs.map W.t))
 | .r i => (match hp[i]? with | some (some (.ins c fs)) => some (c, fs) | _ => none)
 | _ => none
section
variable {K : PySem.W.Frag} {ω : World} {s : S4}
theorem RwF.of_zip : ∀ {ns : List Str} {ts : List T} {vs : List V}, RfL K s.fz s.H ts vs → RwF K s (ns.zip Yv) (ns.zip vs)
 | [], _, _, _ => by rw [List.zip_nil_left, List.zip_nil_left]; rfl
 | _ :: _, [], vs, h => by simp only [RfL] at h; subst h; rfl
 | n :: ns, t :: ts, vs, h => by
  simp only [RfL] at h
  obtain ⟨v, r, rfl, a, b⟩ := h
  exact ⟨v, ns.zip r, rfl, a, RwF.of_zip b⟩
theorem RwF.look (f : Str) : ∀ {fs : List (Str × W)} {vs : List (Str × V)}, RwF K s fs vs → (∀ w, fs.lookup f = some w → ∃ v, vs.lookup f = some v ∧ Rw K s w v) ∧ (fs.lookup f = none → vs.lookup f = none)
 | [], vs, h => by rw [show vs = [] from h]; exact ⟨fun w e => by simp at e, fun _ => rfl⟩
 | (g, w) :: fs, vs, h => by
  obtain ⟨v, r, rfl, a, b⟩ := h
  obtain ⟨i1, i2⟩ := RwF.look f b
  by_cases e : f = g
  ·have hb : (f == g) = true := beq_iff_eq.mpr e
   exact ⟨fun u q => by
    simp only [List.lookup, hb, Option.some.injEq] at q ⊢
    subst q
    exact ⟨v, rfl, a⟩, fun q => by simp [List.lookup, hb] at q⟩
  ·have hb : (f == g) = false := beq_eq_false_iff_ne.mpr e
   exact ⟨fun u q => by
    simp only [List.lookup, hb] at q ⊢
    exact i1 u q, fun q => by
    simp only [List.lookup, hb] at q ⊢
    exact i2 q⟩
theorem RwF.names : ∀ {fs : List (Str × W)} {vs : List (Str × V)}, RwF K s fs vs → vs.map (·.1) = fs.map (·.1)
 | [], vs, h => by rw [show vs = [] from h]; rfl
 | (g, w) :: fs, vs, h => by
  obtain ⟨v, r, rfl, a, b⟩ := h
  rw [List.map_cons, List.map_cons, RwF.names b]
theorem RwF.length {fs : List Ydt} {vs : List Ycy} (h : RwF K s fs vs) : fs.length = vs.length := by
 have := congrArg List.length h.names
 rw [List.length_map, List.length_map] at this
 exact this.symm
theorem ins_at (R : Rel K ω s) {w : W} {v : V} {c : Str} {fs : List Ydt} (h : insOf s.hp w = some (c, fs)) (r : Rw K s w v) : ∃ a C dx vs, v = .ref a ∧ s.H a = some (.ins C dx vs) ∧ CN K c C ∧ RwF K s fs vs := by
 cases w with
 | r i =>
  obtain ⟨a, e1, e2⟩ := r
  simp only [insOf] at h
  split at h
  ·rename_i c' fs' hc
   simp only [Option.some.injEq, Prod.mk.injEq] at h
   obtain ⟨rfl, rfl⟩ := h
   obtain ⟨C, dx, vs, h1, h2, h3⟩ := R.cell i _ a hc e1
   exact ⟨a, C, dx, vs, e2, h1, h2, h3⟩
  ·cases h
 | t x =>
  unfold insOf at h
  split at h
  ·rename_i c' ns ts hx
   cases hx
   simp only [Option.some.injEq, Prod.mk.injEq] at h
   obtain ⟨rfl, rfl⟩ := h
   simp only [Rw, Rf] at r
   obtain ⟨a, C, vs, e, cn, t, _, l⟩ := r
   obtain ⟨_, dx, hH⟩ := t
   exact ⟨a, C, dx, _, e, hH, cn, RwF.of_zip l⟩
  ·rename_i hx
   cases hx
  ·cases h
end
/-- f may be read of, stored in an instance of the class c: no class of it has the name -/
structure FldOk (K : PySem.W.Frag) (c f : Str) : Prop where
 ex : ∃ C, CN K c C ∧ Cls K C ∧ NoAttr K C f
theorem FldOk.at_ {K : PySem.W.Frag} {c f : Str} {C : Addr} (h : FldOk K c f) (n : CN K c C) : Cls K C ∧ NoAttr K C f := by
 obtain ⟨D, n', h1, h2⟩ := h.ex
 cases n.inj n'
 exact ⟨h1, h2⟩
def fldW (cs : List Str) (f : Str) (w : W) (hp : IH) : Res W := match insOf hp w with
 | some (c, fs) => if c ∈ cs then (match fs.lookup f with | some x => .ok x hp | none => .bad) else .bad
 | none => .bad
def mFld (cs : List Str) (f : Str) (F : M W) : M W := fun eta hp => (F eta hp).bind fun a h1 => fldW cs f a h1
def putA (f : Str) (w : W) : List Ydt → List Ydt
 | [] => [(f, w)]
 | (g, x) :: r => if g = f then (g, w) :: r else (g, x) :: putA f w r
def fldSet (cs : List Str) (f : Str) (eta : IS) (o v : W) (hp : IH) : Res Fl := match o with
 | .r i => (match hp[i]? with
  | some (some (.ins c fs)) => if c ∈ cs ∧ fs.length < 1000 then .ok Ydi (hp.set i (some Ygl)) else .bad
  | _ => .bad)
 | _ => .bad
def zby (cs : List Str) (f : Str) (Fo Fv : M W) : M Fl := fun eta hp => (Fv eta hp).bind fun v h1 => (Fo eta h1).bind fun o h2 => fldSet cs f eta o v h2
theorem RwF.put {K : PySem.W.Frag} {s : S4} {f : Str} {w : W} {v : V} (r : Rw K s w v) : ∀ {fs : List (Str × W)} {vs : List (Str × V)}, RwF K s fs vs → RwF K s (putA f w fs) (putF f v vs)
 | [], vs, h => by rw [show vs = [] from h]; exact ⟨v, [], rfl, r, rfl⟩
 | (g, x) :: fs, vs, h => by
  obtain ⟨u, q, rfl, a, b⟩ := h
  unfold putA putF
  by_cases e : g = f
  ·rw [if_pos e, if_pos e]
   exact ⟨v, q, rfl, r, b⟩
  ·rw [if_neg e, if_neg e]
   exact ⟨u, _, rfl, a, RwF.put r b⟩
section
variable {X : Cx} {Wx : WX} {e o val : Expr} {F Fo Fv : M W} {cs : List Str} {f : Str} {pos pos' : Pos}
theorem zcr (h : ∀ c ∈ cs, FldOk X.K c f) (he : IE X Wx e F) (hab : attributeBase e f X.env (eval e X.env) = eval e X.env := by rfl) : IE X Wx (.Attribute e f pos) (mFld cs f F) :=
 PE.imp (pe_fld he hab) fun σ H Q q => tM.bind1 (R := fun (x : V) (H1 : Hp) => ∃ a C dx fs v, x = .ref a ∧ H1 a = some (.ins C dx fs) ∧ Cls X.K C ∧ NoAttr X.K C f ∧ fs.lookup f = some v ∧ Q v H1) (k := fun (a : W) _ h1 => fldW cs f a h1) q fun s eta w v R1 S1 f1 g => by
  unfold fldW at g
  split at g
  ·rename_i c fs hi
   split at g
   ·rename_i hc
    split at g
    ·rename_i x hx
     obtain ⟨a, C, dx, vs, e, hH, cn, l⟩ := ins_at R1 hi f1
     obtain ⟨c1, c2⟩ := (h c hc).at_ cn
     obtain ⟨u, hu, ru⟩ := (l.look f).1 x hx
     exact ⟨a, C, dx, vs, u, e, hH, c1, c2, hu, g u s rfl Ye R1 ru⟩
    ·exact g.elim
   ·exact g.elim
  ·exact g.elim
theorem st_fld (h : ∀ c ∈ cs, FldOk X.K c f) (ho : IE X Wx o Fo) (hv : IE X Wx val Fv) (hs : swapsWith val (some (.Attribute o f pos')) pos.line X.env = pure false := by rfl) : ISt X Wx (.Assign [.Attribute o f pos'] val pos) (zby cs f Fo Fv) :=
 PS.imp (ps_fld ho hv hs) fun D σ H q => by
  obtain ⟨s0, eta, e1, R0, S0, g0⟩ := q
  refine ⟨s0, eta, e1, R0, S0, Go.bind g0 fun v vv s1 A1 R1 f1 _ g1 => ?_⟩
  refine ⟨s1, eta, rfl, R1, S0.aft A1 R0, Go.bind g1 fun w ov s2 A2 R2 f2 eok g2 => ?_⟩
  clear eok
  have f1' := f1.aft A2 R1
  have S2 := (S0.aft A1 R0).aft A2 R1
  unfold fldSet at g2
  split at g2
  ·rename_i i
   split at g2
   ·rename_i c fs hc
    split at g2
    ·rename_i hh
     obtain ⟨a, e1, e2⟩ := f2
     obtain ⟨C, dx, vs, h1, h2, h3⟩ := R2.cell i _ a hc e1
     obtain ⟨c1, c2⟩ := (h c hh.1).at_ h2
     have ok : CellOk X.K X.w s2 a Ygl (some (.ins C dx (putF f vv vs))) := ⟨C, dx, _, rfl, h2, h3.put f1'⟩
     refine ⟨a, C, dx, vs, e2, h1, c1, c2, by rw [← h3.length]; exact hh.2, ?_⟩
     have A := aft_setL (c := .ins c (putA f v fs)) (o := .ins C dx (putF f vv vs)) R2 hc e1
     exact g2 (.nx σ) (s2.setL i a Ygl (.ins C dx (putF f vv vs))) rfl A (rel_setL R2 hc e1 ok) (S2.aft A R2)
    ·exact g2.elim
   ·exact g2.elim
  ·exact g2.elim
end
def frzAll : List Ydt → IH → Res (List T)
 | [], hp => .ok [] hp
 | x :: r, hp => (zb4 x.2 hp).bind fun w h1 => match w with
  | .t t => (frzAll r h1).bind fun ts h2 => .ok (t :: ts) h2
  | .r _ => .bad
def freezeI (w : W) (hp : IH) : Res W := match w with
 | .r i => (match hp[i]? with
  | some (some (.ins c fs)) => (frzAll fs hp).bind fun ts h1 => (match h1[i]? with | some (some (.ins _ _)) => .ok (.t (.ins c (fs.map (·.1)) ts)) (h1.set i none) | _ => .bad)
  | _ => .bad)
 | _ => .bad
def zcx (F : M W) : M W := fun eta hp => (F eta hp).bind fun w h1 => freezeI w h1
section
variable {K : PySem.W.Frag} {ω : World} {Wx : WX}
theorem frz_one {s : S4} {w : W} {v : V} {x : W} {h1 : IH} (R : Rel K ω s) (r : Rw K s w v) (g : zb4 w s.hp = .ok x h1) : ∃ s', s'.H = s.H ∧ s'.hp = h1 ∧ s'.rho = s.rho ∧ Aft s s' ∧ Rel K ω s' ∧ Rw K s' x v := by
 cases w with
 | t t =>
  simp only [zb4, Res.ok.injEq] at g
  obtain ⟨rfl, rfl⟩ := g
  exact ⟨s, rfl, rfl, rfl, Aft.refl s, R, r⟩
 | r i =>
  simp only [zb4] at g
  cases hq : (getL s.hp i).bind allT with
  | none => simp only [hq] at g; cases g
  | some ts =>
   simp only [hq, Res.ok.injEq] at g
   obtain ⟨rfl, rfl⟩ := g
   rw [Option.bind_eq_some_iff] at hq
   obtain ⟨ws, h1, h2⟩ := hq
   obtain ⟨a, vs, e, e1, e2, l, nf⟩ := R.lst h1 r
   subst e
   have A := aft_frz R (zbv h1) e1
   refine ⟨s.frz i a, rfl, rfl, rfl, A, rel_frz R (zbv h1) e1, ?_⟩
   rw [zbu h2] at l
   simp only [Rw, Rf]
   exact ⟨a, vs, rfl, ⟨.inr rfl, e2⟩, RfL.aft A R _ _ Yef⟩
theorem frz_all : ∀ (fs : List (Str × W)) {s : S4} {vs : List (Str × V)} {ts : List T} {h1 : IH}, Rel K ω s → RwF K s fs vs → frzAll fs s.hp = .ok ts h1 → ∃ s', s'.H = s.H ∧ s'.hp = h1 ∧ s'.rho = s.rho ∧ Aft s s' ∧ Rel K ω s' ∧ RfL K s'.fz s'.H ts (vs.map (·.2)) ∧ ts.length = fs.length
 | [], s, vs, ts, h1, R, l, g => by
  simp only [frzAll, Res.ok.injEq] at g
  obtain ⟨rfl, rfl⟩ := g
  rw [show vs = [] from l]
  exact ⟨s, rfl, rfl, rfl, Aft.refl s, R, by simp [RfL], rfl⟩
 | (n, w) :: fs, s, vs, ts, h1, R, l, g => by
  obtain ⟨v, r, rfl, a, b⟩ := l
  simp only [frzAll] at g
  cases hf : zb4 w s.hp with
  | bad => rw [hf] at g; cases g
  | er _ _ _ => rw [hf] at g; cases g
  | ok x h2 =>
   rw [hf] at g
   obtain ⟨s2, e1, e2, e3, A2, R2, r2⟩ := frz_one R a hf
   cases x with
   | r _ => cases g
   | t t =>
    subst e2
    simp only [Res.bind] at g
    cases hg : frzAll fs s2.hp with
    | bad => rw [hg] at g; cases g
    | er _ _ _ => rw [hg] at g; cases g
    | ok us h3 =>
     rw [hg] at g
     simp only [Res.ok.injEq] at g
     obtain ⟨rfl, rfl⟩ := g
     obtain ⟨s3, q1, q2, q3, A3, R3, l3, n3⟩ := frz_all fs R2 (RwF.aft A2 R _ _ b) hg
     refine ⟨s3, q1.trans e1, q2, q3.trans e3, A2.trans A3, R3, ?_, by rw [List.length_cons, List.length_cons, n3]⟩
     rw [List.map_cons]
     simp only [RfL]
     exact ⟨v, _, rfl, Rf.aft A3 R2 _ _ r2, l3⟩
theorem zip_parts {A B : Type} : ∀ l : List (A × B), (l.map (·.1)).zip (l.map (·.2)) = l
 | [] => rfl
 | x :: l => by rw [List.map_cons, List.map_cons, List.zip_cons_cons, zip_parts l]
theorem go_freezeI {s : S4} {w : W} {v : V} {Q : VK} (R : Rel K ω s) (r : Rw K s w v) (g : Go K ω Wx (Rw K) s (freezeI w s.hp) Q) : Q v s.H := by
 unfold freezeI at g
 split at g
 ·rename_i i
  split at g
  ·rename_i c fs hc
   obtain ⟨a, e1, e2⟩ := r
   obtain ⟨C, dx, vs, h1, h2, h3⟩ := R.cell i _ a hc e1
   cases hg : frzAll fs s.hp with
   | bad => rw [hg] at g; exact g.elim
   | er _ _ _ =>
    exfalso
    have : ∀ (fs : List (Str × W)) (hp : IH) e eta h, frzAll fs hp ≠ .er e eta h := by
     intro fs
     induction fs with
     | nil => intro hp e eta h z; cases z
     | cons x fs ih =>
      intro hp e eta h z
      simp only [frzAll] at z
      cases hf : zb4 x.2 hp with
      | bad => rw [hf] at z; cases z
      | er _ _ _ =>
       cases hx : x.2 with
       | t t => rw [hx] at hf; cases hf
       | r j =>
        rw [hx] at hf
        simp only [zb4] at hf
        split at hf <;> cases hf
      | ok y h2 =>
       rw [hf] at z
       cases y with
       | r _ => cases z
       | t t =>
        simp only [Res.bind] at z
        cases hg : frzAll fs h2 with
        | bad => rw [hg] at z; cases z
        | ok _ _ => rw [hg] at z; cases z
        | er _ _ _ => exact ih _ _ _ _ hg
    exact this _ _ _ _ _ hg
   | ok ts h5 =>
    rw [hg] at g
    obtain ⟨s2, q1, q2, q3, A2, R2, l2, n2⟩ := frz_all fs R h3 hg
    subst q2
    simp only [Res.bind] at g
    split at g
    ·rename_i c' fs' hc'
     have ha : s2.rho[i]? = some a := by rw [q3]; exact e1
     have A3 := aft_frz R2 hc' ha
     have R3 := rel_frz R2 hc' ha
     have fin := g v (s2.frz i a) rfl (A2.trans A3) R3 (by
      simp only [Rw, Rf]
      refine ⟨a, C, vs.map (·.2), e2, h2, ⟨.inr rfl, dx, ?_⟩, by rw [List.length_map, n2], RfL.aft A3 R2 _ _ l2⟩
      rw [← h3.names, zip_parts]
      show s2.H a = _
      rw [q1]
      exact h1)
     have eH : (s2.frz i a).H = s.H := q1
     rw [eH] at fin
     exact fin
    ·exact g.elim
  ·exact g.elim
 ·exact g.elim
theorem zcu {X : Cx} {e : Expr} {F : M W} (he : IE X Wx e F) : IE X Wx e (zcx F) := PE.imp he fun σ H Q h => by
 obtain ⟨s, eta, e1, R1, S1, g⟩ := h
 exact ⟨s, eta, e1, R1, S1, Go.bind g fun a b s' A' R' f' _ g' => go_freezeI R' f' g'⟩
end
end Mir
namespace Mir
open PySem PySem.Spec L2
open PyProof.Rows hiding St
section
variable {prog : Program} {w : World} {A : Around} {E : Value → Shared → Prop} {h : Heap} {g : Array GenState} {d : Drawn} {t : Nat} {os : OsState}
variable {nm q : Str} {C N : Addr} {bs bm : List Value} {hdct : Bool} {sn : List Str} {sub : List Value} {ab : Bool} {col : Option Bool} {dd : Option Addr} {k0 k1 k2 k3 k5 : Option Value}
/-- the built-in __init__ bound to the exception, called -/
theorem call_mw {B newId i : String} {bmB : List Value} (FB : PySem.ExcBaseFacts B newId i bmB) {u e t0 : Addr} {rest : List Value} {Q : Value → Shared → Prop}
  (hC : h.get? C = some (excClassObj nm q C N bs bm hdct sn sub ab col dd k0 k1 k2 k3 k5 newId)) (he : h.get? e = some (PySem.HandSPX.excO C t0)) (hu : h.get? u = some (PySem.W.kxs_mw i e)) (hrest : rest.length ≤ sizeLine)
  (hq : ∀ h' t1, (∀ b o, b ≠ e → h.get? b = some o → h'.get? b = some o) → h'.get? e = some (PySem.HandSPX.excO C t1) → Q .none ⟨h', g, d, t, os⟩) :
  wpAny Ydx A (call (.ref u) rest) Q E ⟨h, g, d, t, os⟩ := by
 refine wpAny_call (codeAny_of_tree ?_)
 show wpAny _ A.in1 (callAny (.ref u) ⟨rest, []⟩) _ _ _
 simp only [callAny]
 refine wpAny_bind (wpAny_load hu ?_)
 simp only [PySem.W.kxs_mw, show (Value.type "method-wrapper" == Value.type "method" || Value.type "method-wrapper" == Value.type "builtin_function_or_method" || Value.type "method-wrapper" == Value.type "method-wrapper") = true by decide, if_true]
 refine PySem.W.KFB.if_so Ybo ?_
 refine wpAny_bind (PySem.W.check_bound_init FB.toExcCallFacts hC he rfl ?_)
 refine wpAny_bind (wpAny_pure (wpAny_pure ?_))
 refine ⟨plainId_quiet FB.init.plain _, codeAny_builtin FB.initEntry ?_⟩
 rw [Around.under_plainId FB.init.plain _]
 wp_walk
 refine hq _ h.objs.size (fun b o hb ho => ?_) ?_
 ·rw [Heap.get?_update_other _ _ (Ne.symm hb)]
  exact Heap.get?_push_of_some _ ho
 ·rw [Heap.get?_update_self _ (Heap.get?_push_of_some _ he) rfl]
  rfl
end
theorem ldL' {M : Model} {A : Around} {E : Value → Shared → Prop} {s : Shared} {env : Env} {m : Str → Option Value} {x : Str} {pos : Pos} {v : Value} {Q : Value → Shared → Prop} (hn : s.heap.Ns env.locals m) (hv : m x = some v) (h : Q v s)
  (hk : env.scope.kind = .function) (hl : env.kindOf x = some .local) (hd : (x == ("__debug__" : Str)) = false) : wpAny M A (eval Yf3 env) Q E s := wpAny_Name (wpAny_loadName_local hk hl hn hv h) hd
/-- what the written part says of such a class -/
structure XIni (P : Program) (K : PySem.W.Frag) (C fI : Addr) (qual fld : Str) (params : Arguments) (body : List Stmt) (scope : Scope) (fd : FuncData) : Prop where
 T : OexC K C
 ex : ∃ (oc : Value) (od : Option Addr) (kV doc pm : Value) (an : Option Addr) (cda : Addr) (ct : Value) (cc : Addr) (osl : Array Ya6) (ccl : Value) (cdd : Option Addr) (vs : Array Value) (ccs : Array Ya6) (file : Str) (tf : Tok) (cl : Value) (cld : Option Addr) (csl : Array Ya6),
  fd = PySem.W.ksFn "__init__" qual params body scope .none kV doc pm an Yeq ct cc ∧ K.lookup fI = some ⟨oc, od, .func fd, osl⟩ ∧ PySem.W.codeIn K Yeq qual = true ∧
  K.lookup cda = some ⟨ccl, cdd, .fields vs, ccs⟩ ∧ vs[2]? = some (.str file tf) ∧ ((P.main.file : Str) == file) = true ∧ K.lookup cc = some ⟨cl, cld, .cell (some (.ref C)), csl⟩
 iC : PySem.W.findIn K (.ref C) "__init__" = some (some (.ref fI))
 tI : PySem.W.typeIn K (.ref fI) = some Ydu
 sup : PySem.W.ks_superIn K C C "__init__" = some Ybw
 sub : PySem.W.subIn K (.ref C) (.type "ValueError") = some true
 mro : PySem.W.mroIn K C (.ref C) = some true
 gs : PySem.W.nsIn K mainGlobals "super" = some none
 ta : PySem.W.nsIn K PySem.cStatics "thirdparty.any" = some none
 fl : PySem.W.findIn K (.ref C) fld = some none
 top : (P.main.scope.names.lookup ("super" : Str)).isSome = false
/-- .. and its scope -/
structure XSc (par : Str) (ar : Arg) (params : Arguments) (scope : Scope) : Prop where
 hp : (params.posonlyargs ++ params.args).head? = some ar
 ha : ar.arg = ("self" : Str)
 ks : scope.names.lookup ("super" : Str) = some .globalImplicit
 kc : scope.names.lookup ("__class__" : Str) = some .free
 kself : scope.names.lookup Yer = some .local
 kpar : scope.names.lookup par = some .local
 kind : scope.kind = .function
 co : scope.isCoroutine = false
 gen : scope.isGenerator = false
 cell : ∀ x ∈ scope.names, x.2 ≠ .cell
 ne : par ≠ ("self" : Str)
 db : (par == ("__debug__" : Str)) = false
section
variable {P : Program} {w : World} {K : PySem.W.Frag} {mg mb : Str → Option Value} {A : Around} {R : Result → Shared → Prop} {hp : Heap} {g : Array GenState} {d : Drawn} {t : Nat} {os : OsState}
theorem xini_code {C fI e t0 : Addr} {qual fld par txt : Str} {params : Arguments} {scope : Scope} {fd : FuncData} {ar : Arg} {args : Args} {u : Value} {p0 p1 p2 p3 p4 p5 p6 p7 p8 p9 : Pos} {j : Nat}
  (X : XIni P K C fI qual fld params [.Expr Yc p5, .Assign [.Attribute (.Name "self" p6) fld p7] (.Name par p8) p9] scope fd) (S : XSc par ar params scope)
  (KX : K.In hp) (Gg : hp.Ns mainGlobals mg) (Gb : hp.Ns builtinsNs mb) (Gbb : ∀ x : Str, x ≠ "__name__" → mb x = bootBuiltins x) (nl : hp.NoLimit) (hroom : A.depth < recursionLimit)
  (Ke : K.lookup e = none) (he : hp.get? e = some (PySem.HandSPX.excO C t0)) (hbind : BindsTo ⟨hp, g, d, t, os⟩ fd args [("self", .ref e), (par, u)])
  (hq : ∀ h' tk' dx t1, (∀ b o, b ≠ e → hp.get? b = some o → h'.get? b = some o) → hp.objs.size ≤ dx → dx ≠ e → h'.get? e = some ({ cls := .ref C, dict := some dx, data := .fields #[.ref t1, .none, .none, .none, .bool false, .none] } : Obj) →
   h'.Ns1 dx (fun y => if y = fld then some u else none) → R (.ok (.ret .none)) ⟨h', g, d, tk', os⟩)
  (hev : ∀ env : Env, eval Yc env = (do
   let ov ← attributeBase Ybj "__init__" env (eval Ybj env)
   standAt p2.atName
   let (f, first) ← holding [ov] Yz
   callWith p4 f first (backTo p4 Ycj) [])) :
  codeAny Ycz A (.call (.ref fI) args) R ⟨hp, g, d, t, os⟩ := by
 obtain ⟨oc, od, kV, doc, pm, an, cda, ct, cc, osl, ccl, cdd, vs, ccs, file, tf, cl, cld, csl, rfl, lk, hcd, hcode, hvs, hfile, hcell⟩ := X.ex
 obtain ⟨nm, q, N, bs, bm, sn, sub, ab, col, dd, k0, k1, k2, k3, k5, hC, hbm⟩ := X.T.cls
 have hcl : PySem.W.clsIn K C = some { name := nm, bases := bs, mro := .ref C :: bm, ns := N, qualname := q, hasDict := true, slotNames := sn, subclasses := sub, abstract := ab, collection := col, hasDel := false } := by unfold PySem.W.clsIn; rw [hC] <;> rfl
 have kn : PySem.HandSPX.excO C t0 = PySem.HandSPX.excO C t0 := rfl
 refine PySem.ks_codeAny_call_defAt (binds := [("self", .ref e), (par, u)]) hroom (KX _ _ lk) rfl nl (PySem.W.codeRec_of KX hcd) rfl hbind S.cell ?_ (fun h₁ hns k1' => ?_) S.co S.gen S.kind
 ·intro x hx
  simp only [List.mem_cons, List.not_mem_nil, or_false] at hx
  rcases hx with rfl | rfl
  ·exact S.kself
  ·exact S.kpar
 have X1 : K.In h₁ := KX.keeps k1'
 have he1 := k1' _ _ he
 have hb1 : ([Yc0, (par, u)] : List (Str × Value)).reverse.lookup Yer = some (Value.ref e) := by
  have : ((("self" : Str) == par)) = false := beq_eq_false_iff_ne.mpr (Ne.symm S.ne)
  show List.lookup Yer [(par, u), Yc0] = _
  rw [List.lookup_cons, this]
  show List.lookup Yer [Yc0] = _
  rw [List.lookup_cons, beq_self_eq_true]
 have hb2 : ([Yc0, (par, u)] : List (Str × Value)).reverse.lookup par = some u := by
  show List.lookup par [(par, u), Yc0] = _
  rw [List.lookup_cons, beq_self_eq_true]
 have hCg := X1 _ _ hC
 have heC : e ≠ C := by
  intro z
  rw [z, hCg] at he1
  cases he1
 have hal : PySem.W.alongIn K "__init__" bm = some Ybw := by
  have q := X.sup
  unfold PySem.W.ks_superIn at q
  rw [hcl] at q
  have z : (((Value.ref C) :: bm).dropWhile (· != .ref C)).drop 1 = bm := by simp [List.dropWhile_cons]
  rw [← z]
  exact q
 have hi : interactive (PySem.W.ksEnv qual scope hp.objs.size fI Yeq cc) = false := by simp [interactive, S.kind]
 have FB := PySem.F.excBase_ValueError
 refine PySem.ks_wpAt_execs_cons (PySem.ks_wpAt_Expr_any (env := PySem.W.ksEnv qual scope hp.objs.size fI Yeq cc) (PySem.ks_wpAt_MethodCall ?_ (hev _)) hi)
 refine PySem.ks_wpAt_super_base (env := PySem.W.ksEnv qual scope hp.objs.size fI Yeq cc) S.ks S.kc Ybo rfl (X1 _ _ lk) rfl S.hp rfl (X1 _ _ hcode) rfl hvs hfile X.top ?_
 refine PySem.W.ks_loadName_global (env := PySem.W.ksEnv qual scope hp.objs.size fI Yeq cc) S.kind S.ks (PySem.Calls.loadGlobal_builtin (env := PySem.W.ksEnv qual scope hp.objs.size fI Yeq cc) (Gg.keeps k1') (PySem.W.mg_none_of KX Gg X.gs) (Gb.keeps k1') ((Gbb _ Ybx).trans Ybx) ⟨rfl, ?_⟩)
 refine wpAny_loadName_free (env := PySem.W.ksEnv qual scope hp.objs.size fI Yeq cc) S.kind S.kc rfl ⟨_, X1 _ _ hcell, rfl⟩ ?_
 rw [S.ha]
 refine wpAny_loadName_local (env := PySem.W.ksEnv qual scope hp.objs.size fI Yeq cc) S.kind S.kself hns hb1 ?_
 refine PySem.ks_wpAny_isType_cls hCg rfl ⟨rfl, ?_⟩
 refine PySem.ks_wpAny_call_super hCg rfl he1 rfl (fun c z => by cases z) (PySem.W.looks_mroIn X1 X.mro) (fun h2 e2 k2 => ?_)
 have X2 := X1.keeps k2
 have he2 := k2 _ _ he1
 refine PySem.W.kxs_getMethod PySem.W.kxs_ValueError e2 (PySem.W.looks_opaque X2 X.ta) (l₀ := .ref C :: bm) ((PySem.W.looks_clsIn X2 hcl).andThen .now) (l := bm) (by simp [List.dropWhile_cons]) X2 hal ?_ heC Ybo ?_
 ·exact (⟨he2, rfl, rfl, trivial⟩ : PySem.W.InstAt h2 e (PySem.HandSPX.excO C t0) C none).type.andThen (PySem.W.looks_subIn X2 X.sub)
 have k3 : ∀ b o, h2.get? b = some o → (h2.push Ye0).get? b = some o := fun b o q => Heap.get?_push_of_some _ q
 have hu : (h2.push Ye0).get? h2.objs.size = some Ye0 := Heap.get?_push_at rfl rfl
 have X3 := X2.keeps k3
 have he3 := k3 _ _ he2
 refine PySem.W.kxs_callWith (i := "ValueError.__init__") (x := e) rfl (Calls.evalArgs_plain (x := eval (.Constant (.str txt) j p3) (PySem.W.ksEnv qual scope hp.objs.size fI Yeq cc)) (rest := []) (Calls.spliced_cons (Calls.Constant_str (Calls.spliced_nil ⟨hu, ?_⟩))))
 refine call_mw (rest := [_]) FB (X3 _ _ hC) he3 hu (by rw [sizeLine_eq]; simp) fun h4 t1 k4 he4 => ?_
 -- self.fld = par
 have k14 : ∀ b o, b ≠ e → h₁.get? b = some o → h4.get? b = some o := fun b o hb q => k4 b o hb (k3 _ _ (k2 _ _ q))
 have X4 : K.In h4 := fun b o q => k4 b o (fun z => by rw [z, Ke] at q; cases q) (X3 b o q)
 have hL : e ≠ hp.objs.size := Nat.ne_of_lt (Heap.lt_size he)
 have hns4 : h4.Ns hp.objs.size _ := hns.at fun o q => k14 _ o (Ne.symm hL) q
 refine PySem.ks_wpAt_execs_cons (PySem.ks_wpAt_Assign_Attr (wpAt_of_wpAny (ldL' (env := PySem.W.ksEnv qual scope hp.objs.size fI Yeq cc) hns4 hb2 (ldL' (env := PySem.W.ksEnv qual scope hp.objs.size fI Yeq cc) hns4 hb1 ?_ S.kind S.kself Ybo) S.kind S.kpar S.db)))
 refine PySem.W.set_plain X4 (ox := { cls := .ref C, dict := none, data := .fields #[.ref t1, .none, .none, .none, .bool false, .none] }) (od := none) ⟨he4, rfl, rfl, trivial⟩ X.T.sa ?_
 refine PySem.HandSPX.exc_osa X4 he4 hcl (show PySem.HandSPX.refsVE (.ref C :: bm) = true from hbm) rfl X.fl (fun h5 tk5 dx k5' dn dne hx hn => ?_)
 refine wpAt_of_wpAny (wpAny_execs_nil ?_)
 refine hq h5 tk5 dx t1 (fun b o hb q => k5' b o hb (k14 b o hb (k1' b o q))) ?_ dne hx hn
 have : hp.objs.size ≤ h4.objs.size := by
  obtain ⟨oL, es, ep, hL2, _⟩ := hns4
  exact Nat.le_of_lt (Heap.lt_size hL2)
 exact Nat.le_trans this dn
end
/-- the promise of such an __init__ -/
def spI (C : Addr) (fld : Str) : Sp := fun vs H Q _ => ∃ (e : Addr) (y : V), vs = [.ref e, y] ∧ H e = some (exo e C none) ∧ ∀ dx, H dx = none → dx ≠ e → Q .non (upd (upd H dx (exd dx [(fld, y)])) e (exo e C (some dx)))
section
variable {P : Program} {w : World} {K : PySem.W.Frag} {mg : Str → Option Value} {base : Heap} {CX : CXT} {C fI : Addr} {qual fld par txt : Str} {params : Arguments} {scope : Scope} {fd : FuncData} {ar : Arg} {p0 p1 p2 p3 p4 p5 p6 p7 p8 p9 : Pos} {j : Nat}
theorem xini_run (X : XIni P K C fI qual fld params [.Expr Yc p5, .Assign [.Attribute (.Name "self" p6) fld p7] (.Name par p8) p9] scope fd) (S : XSc par ar params scope)
  (hev : ∀ env : Env, eval Yc env = (do
   let ov ← attributeBase Ybj "__init__" env (eval Ybj env)
   standAt p2.atName
   let (f, first) ← holding [ov] Yz
   callWith p4 f first (backTo p4 Ycj) []))
  {A : Around} {outer : List Env} {s : Shared} {H : Hp} {args : Args} {us : List Value} {vs : List V} {Q : VK} {E : XK} (hroom : A.depth < recursionLimit) (e0 : Env0 P w K mg base A outer s H) (hb : BindsTo s fd args (([Yer, par] : List Str).zip us)) (r : Vals vs us) (h : spI C fld vs H Q E) :
  codeAny Ycz A (.call (.ref fI) args) (CR CX outer P w H s Q E) s := by
 obtain ⟨e, y, rfl, he, q⟩ := h
 cases r with
 | @cons _ u0 _ ur ra rb =>
  cases rb with
  | @cons _ u _ ur2 ry rc =>
   cases rc
   obtain rfl : u0 = Value.ref e := ra
   obtain ⟨t0, ho⟩ := exo_at e0.hok he
   have keep : ∀ b o, base.get? b = some o → s.heap.get? b = some o := fun b o z => (e0.bs b o z).1
   have Ke : K.lookup e = none := by
    cases z : K.lookup e with
    | none => rfl
    | some o =>
     have z1 := (e0.bs e o (e0.mod.kin _ _ z)).2
     rw [he] at z1
     cases z1
   obtain ⟨mb, Gb, Gbb⟩ := e0.mod.blt
   have ok := e0.hok
   have bare := e0.bare
   have KX := e0.mod.kin.keeps keep
   have Gg : s.heap.Ns mainGlobals mg := e0.mod.glob.at fun o z => keep _ _ z
   have Gb' : s.heap.Ns builtinsNs mb := Gb.at fun o z => keep _ _ z
   have nl : s.heap.NoLimit := e0.mod.nolimit.keeps keep
   clear e0
   obtain ⟨hp, g, d, t, os⟩ := s
   refine xini_code X S KX Gg Gb' Gbb nl hroom Ke ho hb (fun h' tk' dx t1 k dn dne hx hn => ?_) hev
   have hnd : H dx = none := ok.fresh dn
   have nd : ∀ {b : Addr} {o : Obj}, hp.get? b = some o → b ≠ dx := fun {b o} q => Nat.ne_of_lt (Nat.lt_of_lt_of_le (Heap.lt_size q) dn)
   have na : ∀ {b : Addr}, H b = none → b ≠ e := fun {b} n z => by
    rw [z, he] at n
    cases n
   refine ⟨.non, upd (upd H dx (exd dx [(fld, y)])) e (exo e C (some dx)), rfl, bare, ?_, ?_, rfl, q dx hnd dne⟩
   ·exact {
     keep := fun b o q n _ _ => k b o (na n) q
     slot := fun b o q n _ _ => ⟨o.slots, k b o (na n) q⟩
     free := fun b o q n _ => by rw [upd_ne (na n), upd_ne (nd q)]; exact n
     there := fun b o q _ => by
      by_cases hb : b = e
      ·exact ⟨_, by rw [hb]; exact hx⟩
      ·exact ⟨o, k b o hb q⟩
     tups := fun b xs q => by rw [upd_ne (at_ne he q exo_tup), upd_ne (ne_of_none q hnd)]; exact q
     frzs := fun b o v q => by rw [upd_ne (at_ne he q exo_frz), upd_ne (ne_of_none q hnd)]; exact q
     tbls := fun b ps q => ⟨#[], by rw [upd_ne (at_ne he q exo_tbl), upd_ne (ne_of_none q hnd), q]; simp⟩ }
   ·intro b o q
    by_cases hb : b = e
    ·subst hb
     rw [upd_same] at q
     cases q
     exact exo_ok hx
    ·rw [upd_ne hb] at q
     by_cases hd : b = dx
     ·subst hd
      rw [upd_same] at q
      cases q
      exact exd_ok hn (relO_put (fs := []) ry fun g => True.intro)
     ·rw [upd_ne hd] at q
      exact (ok b o q).stay (fun c v hc z => k c v (by
        rcases hc with hc | hc
        ·rw [hc]
         exact hb
        ·exact at_ne he hc exo_own) z)
       (fun c hc => by rw [upd_ne (at_ne he hc exo_own), upd_ne (ne_of_none hc hnd)]; exact hc) (fun c xs hc => by rw [upd_ne (at_ne he hc exo_tup), upd_ne (ne_of_none hc hnd)]; exact hc)
theorem spI_len {vs : List V} {H : Hp} {Q : VK} {E : XK} (h : spI C fld vs H Q E) : vs.length = ([Yer, par] : List Str).length := by
 obtain ⟨e, y, rfl, _⟩ := h
 rfl
theorem xini_ok (X : XIni P K C fI qual fld params [.Expr Yc p5, .Assign [.Attribute (.Name "self" p6) fld p7] (.Name par p8) p9] scope fd) (S : XSc par ar params scope)
  (hev : ∀ env : Env, eval Yc env = (do
   let ov ← attributeBase Ybj "__init__" env (eval Ybj env)
   standAt p2.atName
   let (f, first) ← holding [ov] Yz
   callWith p4 f first (backTo p4 Ycj) [])) : FnOk P w K mg base CX 1 fI fd [Yer, par] (spI C fld) :=
 ⟨fun vs H Q E h => spI_len h, fun A outer s H args us vs Q E hr e0 hb r h => xini_run X S hev hr.depth e0 hb r h⟩
theorem xini_hot (X : XIni P K C fI qual fld params [.Expr Yc p5, .Assign [.Attribute (.Name "self" p6) fld p7] (.Name par p8) p9] scope fd) (S : XSc par ar params scope)
  (hev : ∀ env : Env, eval Yc env = (do
   let ov ← attributeBase Ybj "__init__" env (eval Ybj env)
   standAt p2.atName
   let (f, first) ← holding [ov] Yz
   callWith p4 f first (backTo p4 Ycj) [])) : L2H.FnH P w K mg base CX 1 fI fd [Yer, par] (spI C fld) :=
 ⟨fun vs H Q E h => spI_len h, fun A outer s H args us vs Q E p hr _ _ e0 hb r h => xini_run X S hev hr.depth e0 hb r h⟩
end
end Mir
namespace Mir
open PySem PySem.Spec L2
open PyProof.Rows hiding St
section
variable {X : Cx} {CX : CXT} {k : Nat} {f C g p1 : Addr} {fd : FuncData} {ps : List Str} {sp : Sp} {dvs : List V} {ds : List Value} {E : L2.St → XK} {x m fl : Str} {p pos apos : Pos} {e o : Expr} {es : List Expr} {ta : TE} {t : TA} {pl : Sem Bool} {mc : Value}
theorem runX {pins : List Ybt} {σ : L2.St} {H : Hp} {s : Shared} {Q : VK} {us : List Value} {vs : List V} (F : FnG X.prog X.w X.K X.mg X.base CX k f fd ps sp) (hr : Room k X.A) (hgd : X.A.guards = some []) (hb : Binds X.K fd ps ds) (hd : Vals dvs ds) (hx : PassesAt CX X σ (E σ))
  (I : Inv X pins σ H s) (r : Vals vs us) (h : sp (vs ++ dvs) H Q (E σ)) : wpAny Yx X.A (call (.ref f) us) (EP X pins σ Q) X.xe s := by
 have r2 := r.append hd
 have hl : (us ++ ds).length = ps.length := r2.length.symm.trans (F.len _ _ _ _ h)
 refine wpAny_call (codeAny_mono (F.run X.A X.stack s H ⟨us, []⟩ (us ++ ds) (vs ++ dvs) Q (E σ) hr hgd I.env0 (hb s us I.kIn hl) r2 h) ?_)
 rintro (e | fl) s' hq
 ·exact hx pins H s e s' I hq
 ·cases fl <;> first | exact I.after hq | exact (show False from hq).elim
theorem run_makeX {pins : List Ybt} {σ : L2.St} {H : Hp} {s : Shared} {Q : VK} {us : List Value} {vs : List V} (M : Mk X.K C f) (F : FnG X.prog X.w X.K X.mg X.base CX k f fd ps sp) (hr : Room (k + 1) X.A) (hgd : X.A.guards = some []) (hb : Binds X.K fd ps ds) (hd : Vals dvs ds) (hx : PassesAt CX X σ (E σ)) (I : Inv X pins σ H s) (r : Vals vs us)
  (h : ∀ x dx, H x = none → H dx = none → dx ≠ x → sp Yf8 (upd (upd H dx (.own x)) x Yfn) Ycr (E σ)) : wpAny Yx X.A (call (.ref C) us) (EP X pins σ Q) X.xe s := by
 have q0 := h Ya1 s.heap.objs.size (I.hok.fresh (Nat.le_succ _)) (I.hok.fresh Yf4) (Nat.ne_of_lt Yfj)
 have J := Inv.made (C := C) I
 have r2 : Vals (V.ref Ya1 :: (vs ++ dvs)) (Value.ref Ya1 :: (us ++ ds)) := .cons rfl (r.append hd)
 have el : (Value.ref Ya1 :: us ++ ds).length = ps.length := (show _ = _ from r2.length.symm).trans (F.len _ _ _ _ q0)
 have cod := F.run (X.A.under (.builtin "type.__call__" ⟨.ref C :: us, []⟩)) X.stack _ _ ⟨Value.ref Ya1 :: us, []⟩ (Value.ref Ya1 :: (us ++ ds)) _ _ (E σ) (hr.make C us []) hgd (J.env0.make C us []) (hb _ (Value.ref Ya1 :: us) J.kIn el) r2 q0
 refine wpAny_call (make_map (f := f) I.kIn M.makes M.init (beq_iff_eq.mp M.fn) (codeAny_mono cod ?_))
 rintro (er | fl) s' q
 ·exact hx pins _ _ er s' J q
 ·cases fl with
  | ret u =>
   obtain ⟨v, H', J2, rv, ev, q3⟩ := J.after q
   subst ev
   exact ⟨rv, V.ref Ya1, H', J2, rfl, q3⟩
  | next => exact (show False from q).elim
  | brk => exact (show False from q).elim
  | cont => exact (show False from q).elim
def tMakeX (C : Addr) (sp : Sp) (dvs : List V) (E : L2.St → XK) (t : TA) : TE := fun σ H Q => t σ H fun vs H1 => ∀ x dx, H1 x = none → H1 dx = none → dx ≠ x → sp Yf8 (upd (upd H1 dx (.own x)) x Yfn) Ycr (E σ)
theorem pe_makeX (M : Mk X.K C f) (F : FnG X.prog X.w X.K X.mg X.base CX k f fd ps sp) (hr : Room (k + 1) X.A) (hgd : X.A.guards = some []) (hg : Gl X x) (hm : X.mg x = some (.ref C)) (hb : Binds X.K fd ps ds) (hd : Vals dvs ds) (hx : ∀ σ, PassesAt CX X σ (E σ)) (ha : PA X Yae t)
  (hdb : (x == ("__debug__" : Str)) = false := by decide) (he : starEach Yae X.env = (false, eval e X.env) :: starEach es X.env := by rfl) (hpl : (backTo pos Ybe).any (·.1) = false := by rfl) : PE X Ybp (tMakeX C sp dvs E t) :=
 ⟨fun pins s σ H Q I h => wpAny_Call_Name_kw (ld_glob I hg hm (PySem.W.callWith_K (h₀ := X.base) I.ok.mod.kin M.kp (thn (ha.run pos pins s σ H _ I h) fun us s1 ⟨vs, H1, I1, r, q⟩ => ⟨I1.kIn, run_makeX M F hr hgd hb hd (hx σ) I1 r q⟩) he hpl) hdb)⟩
def tMethX (C : Addr) (m : Str) (sp : Sp) (dvs : List V) (E : L2.St → XK) (ta : TE) (t : TA) : TE := fun σ H Q => ta σ H fun x H1 => ∃ a dx fs, x = .ref a ∧ H1 a = some (.ins C dx fs) ∧ fs.lookup m = none ∧ t σ H1 fun vs H2 => sp (.ref a :: (vs ++ dvs)) H2 Q (E σ)
theorem pe_methX (he : PE X o ta) (c : Cls X.K C) (hm : Meth X.K C m f) (F : FnG X.prog X.w X.K X.mg X.base CX k f fd ps sp) (hr : Room k X.A) (hgd : X.A.guards = some []) (hb : Binds X.K fd ps ds) (hd : Vals dvs ds) (hx : ∀ σ, PassesAt CX X σ (E σ)) (ha : PA X Yae t)
  (hst : starEach Yae X.env = (false, eval e X.env) :: starEach es X.env := by rfl) (hpl : (backTo pos Ybe).any (·.1) = false := by rfl)
  (ht : eval (.Call (.Attribute o m apos) Yae [] pos) X.env = (do let ov ← eval o X.env; standAt apos.atName; let (f, first) ← holding [ov] (getMethod ov m pl); callWith pos f first (backTo pos (starEach Yae X.env)) (backToKw pos Ygj)) := by rfl) : PE X (.Call (.Attribute o m apos) Yae [] pos) (tMethX C m sp dvs E ta t) :=
 ⟨fun pins s σ H Q I h => by
  refine PySem.W.methodCall_KW (pl := pl) (thn (he.run pins s σ H _ I h) ?_) ht
  rintro u s1 ⟨x, H1, I1, rx, a, dx, fs, rfl, ea, l, q⟩
  cases rx
  refine getmeth_ok I1 ea c hm l (PySem.W.callWith_K (first := [.ref a]) (h₀ := X.base) I.ok.mod.kin hm.kp (thn (ha.run pos pins s1 σ H1 _ I1 q) ?_) hst hpl)
  rintro us s2 ⟨vs, H2, I2, r, q2⟩
  exact ⟨I2.kIn, runX (us := .ref a :: us) (vs := .ref a :: vs) F hr hgd hb hd (hx σ) I2 (.cons rfl r) q2⟩⟩
end
def reEr {A : Type} (eta : IS) (r : Res A) : Res A := match r with
 | .er e _ h => .er e eta h
 | r => r
def spX (K : PySem.W.Frag) (ω : World) (f : OpN) (n : Nat) : Sp := fun vs H Q E => ∃ (s : S4) (ws : List W), s.H = H ∧ Rel K ω s ∧ RwL K s ws vs ∧ ws.length = n ∧ Go K ω (fun cls d _ H' => E cls d H') (Rw K) s (f ws s.hp) Q
theorem Go.reEr {A B : Type} {K : PySem.W.Frag} {ω : World} {Wx : WX} {Fam : S4 → A → B → Prop} {s : S4} {eta : IS} {σ : L2.St} {r : Res A} {Q : B → Hp → Prop} (R : Rel K ω s) (S : Sl K s eta σ) (g : Go K ω Wx Fam s (reEr eta r) Q) : Go K ω (fun cls d _ H' => Wx cls d σ H') Fam s r Q := by
 cases r with
 | ok a h => exact g
 | er e eta' h => exact fun s' σ' cls d h1 h2 h3 h4 h5 => g s' σ cls d h1 h2 h3 (S.aft h2 R) h5
 | bad => exact g
/-- a def's function: exceptions go on; its cells stay -/
def fnX (n nn : Nat) (B : M Fl) : OpN := fun ws hp => if ws.length = n then (match B Yd6 hp with
  | .ok (.rt w) h => .ok w h
  | .ok (.nx _) h => .ok Ydj h
  | .er e _ h => .er e [] h
  | _ => .bad) else .bad
theorem zb9 {n nn : Nat} {B : M Fl} : ∀ ws hp, ws.length ≠ n → fnX n nn B ws hp = .bad := fun ws hp h => by unfold fnX; rw [if_neg h]
section
variable {K : PySem.W.Frag} {ω : World}
theorem spX_len {f : OpN} {n : Nat} {vs : List V} {H : Hp} {Q : VK} {E : XK} (h : spX K ω f n vs H Q E) : vs.length = n := by
 obtain ⟨s, ws, _, _, l, e, _⟩ := h
 rw [← RwL.length l, e]
variable {P : Program} {w : World} {mg : Str → Option Value} {base : Heap} {CX : CXT}
theorem okX {x qual : Str} {st : Stmt} {f : Addr} {fd : FuncData} {N ps : List Str} {k : Nat} {B : M Fl} {dfs : List V} {kws : List Ycy} (F : FunD K x qual (defArgs st) Ydd Y9 dfs kws f fd) (S : FnScope N ps Y9)
  (hb : ∀ (cdv : Value) (A : Around) (outer : List Env) (s : Shared) (H : Hp) (E : XK), Room k Ybz → A.guards = some [] → ISs Yda (fun cls d _ H' => E cls d H') Ydd B) :
  FnG P w K mg base CX (k + 1) f fd ps (spX K w (fnX ps.length N.length B) ps.length) := by
 refine Fun.okG F S (fun vs H Q E h => spX_len h) fun cdv A outer s H vs Q E hr hgd h => ⟨_, hb cdv A outer s H E hr hgd, ?_⟩
 obtain ⟨s0, ws, e1, R1, l, el, g⟩ := h
 refine ⟨s0, _, e1, R1, sl_start l, ?_⟩
 unfold fnX at g
 rw [if_pos el] at g
 rw [el]
 cases hB : B (ws.map some ++ List.replicate (N.length - ps.length) none) s0.hp with
 | ok fl hp =>
  rw [hB] at g
  cases fl with
  | rt wr => exact fun b s' h1 h2 h3 h4 => by cases b <;> first | exact h4.elim | exact g _ s' h1 h2 h3 h4
  | nx e => exact fun b s' h1 h2 h3 h4 => by cases b <;> first | exact h4.elim | exact g .non s' h1 h2 h3 (by simp [Rw, Rf])
  | bk e => exact g.elim
  | ct e => exact g.elim
 | er e eta hp =>
  rw [hB] at g
  exact fun s' σ' cls d h1 h2 h3 h4 h5 => g s' [] cls d h1 h2 h3 ⟨rfl, fun i w z => by simp at z⟩ h5
 | bad => rw [hB] at g; exact g.elim
end
def zbw (c : Str) (f : OpN) (ds : List T) (Fs : M (List W)) : M W := fun eta hp => (Fs eta hp).bind fun ws h1 => (reEr eta (f (.r h1.length :: (ws ++ ds.map W.t)) (h1 ++ [some (.ins c [])]))).bind fun w h2 => match w with
 | .t .non => .ok (.r h1.length) h2
 | _ => .bad
def mMethX (c m : Str) (f : OpN) (ds : List T) (Fo : M W) (Fs : M (List W)) : M W := fun eta hp => (Fo eta hp).bind fun o h1 => match insOf h1 o with
 | some (c', fs) => if c' = c ∧ fs.lookup m = none then (Fs eta h1).bind fun ws h2 => reEr eta (f (o :: (ws ++ ds.map W.t)) h2) else .bad
 | none => .bad
section
variable {X : Cx} {Wx : WX} {CX : CXT} {k : Nat} {f C g p1 : Addr} {fd : FuncData} {ps : List Str} {m : OpN} {n : Nat} {c x mn fl : Str} {p pos apos : Pos} {e o : Expr} {es : List Expr} {Fo : M W} {Fs : M (List W)} {dvs : List V} {ds : List Value} {dts : List T} {pl : Sem Bool} {mc : Value}
theorem go_X {s : S4} {eta : IS} {σ : L2.St} {ws : List W} {vs : List V} {H : Hp} {Q : VK} (e1 : s.H = H) (R : Rel X.K X.w s) (S : Sl X.K s eta σ) (l : RwL X.K s ws vs) (hdt : ∀ s, RwL X.K s (dts.map W.t) dvs) (hl : ∀ ws hp, ws.length ≠ n → m ws hp = .bad)
  (g : Go X.K X.w Wx (Rw X.K) s (reEr eta (m (ws ++ dts.map W.t) s.hp)) Q) : spX X.K X.w m n (vs ++ dvs) H Q (WE Wx σ) := by
 refine ⟨s, ws ++ dts.map W.t, e1, R, RwL.append l (hdt s), ?_, Go.reEr R S g⟩
 by_cases q : (ws ++ dts.map W.t).length = n
 ·exact q
 ·rw [hl _ _ q] at g; exact g.elim
theorem go_madeX {s : S4} {eta : IS} {σ : L2.St} {x dx : Addr} {ws : List W} {vs : List V} {Q : VK} (R : Rel X.K X.w s) (S : Sl X.K s eta σ) (cn : CN X.K c C) (f1 : RwL X.K s ws vs) (hdt : ∀ s, RwL X.K s (dts.map W.t) dvs) (hl : ∀ ws hp, ws.length ≠ n → m ws hp = .bad) (nx : s.H x = none) (ndx : s.H dx = none) (ne : dx ≠ x)
  (g : Go X.K X.w Wx (Rw X.K) s ((reEr eta Yff).bind fun w h2 => match w with | .t .non => .ok (.r s.hp.length) h2 | _ => .bad) Q) :
  spX X.K X.w m n Yf8 (upd (upd s.H dx (.own x)) x Yfn) Ycr (WE Wx σ) := by
 have A0 := (Aft.refl s).setD (D := dx) (o' := .own x) ndx
 have R0 : Rel X.K X.w (s.setD dx (.own x)) := rel_setD R (R.fresh ndx).1 (R.fresh ndx).2
 have nx0 : (s.setD dx (.own x)).H x = none := by show upd s.H dx (.own x) x = none; rw [upd_ne (Ne.symm ne)]; exact nx
 have ok0 : CellOk X.K X.w (s.setD dx (.own x)) x (.ins c []) (some Yfn) := ⟨C, dx, [], rfl, cn, rfl⟩
 have A1 := aft_addL (c := .ins c []) (o := .ins C dx []) R0 nx0
 have R1 := rel_addL R0 nx0 ok0
 have A := A0.trans A1
 refine ⟨(s.setD dx (.own x)).addL x (.ins c []) Yfn, .r s.hp.length :: (ws ++ dts.map W.t), rfl, R1, ?_, ?_, ?_⟩
 ·exact ⟨.ref x, _, rfl, addL_r (s := s.setD dx (.own x)) R0, RwL.append (RwL.aft A R _ _ f1) (hdt _)⟩
 ·by_cases q : (W.r s.hp.length :: (ws ++ dts.map W.t)).length = n
  ·exact q
  ·rw [hl _ _ q] at g; exact g.elim
 ·have g' := Go.aft g A
  show Go X.K X.w (fun cls d _ H' => Wx cls d σ H') (Rw X.K) _ Yff _
  cases hq : m (.r s.hp.length :: (ws ++ dts.map W.t)) (s.hp ++ [some (.ins c [])]) with
  | er e1 eta1 h1 =>
   rw [hq] at g'
   exact fun s' σ' cls d q1 q2 q3 q4 q5 => g' s' σ cls d q1 q2 q3 (S.aft (A.trans q2) R) q5
  | bad => rw [hq] at g'; exact g'.elim
  | ok a h =>
   rw [hq] at g'
   intro b s' e1 e2 e3 e4
   simp only [Mir.reEr, Res.bind] at g'
   split at g'
   ·have hb : b = .non := by simpa only [Rw, Rf] using e4
    refine ⟨hb, g' (.ref x) s' e1 e2 e3 ?_⟩
    obtain ⟨ex, pre, _⟩ := e2.pre
    refine ⟨x, ?_, rfl⟩
    rw [pre]
    have h0 : ((s.setD dx (.own x)).addL x (.ins c []) Yfn).rho[s.hp.length]? = some x := by
     obtain ⟨a, q1, q2⟩ := addL_r (K := X.K) (p := x) (c := .ins c []) (o := .ins C dx []) (s := s.setD dx (.own x)) R0
     cases q2
     exact q1
    rw [List.getElem?_append_left (List.getElem?_eq_some_iff.mp h0).1]
    exact h0
   ·exact g'.elim
theorem zca (M : Mk X.K C f) (cn : CN X.K c C) (Fk : FnG X.prog X.w X.K X.mg X.base CX k f fd ps (spX X.K X.w m n)) (hr : Room (k + 1) X.A) (hgd : X.A.guards = some []) (hg : Gl X x) (hm : X.mg x = some (.ref C)) (hb : Binds X.K fd ps ds) (hd : Vals dvs ds) (hdt : ∀ s, RwL X.K s (dts.map W.t) dvs) (hl : ∀ ws hp, ws.length ≠ n → m ws hp = .bad)
  (hx : ∀ σ, PassesAt CX X σ (WE Wx σ)) (ha : IA X Wx Yae Fs)
  (hdb : (x == ("__debug__" : Str)) = false := by decide) (he : starEach Yae X.env = (false, eval e X.env) :: starEach es X.env := by rfl) (hpl : (backTo pos Ybe).any (·.1) = false := by rfl) : IE X Wx Ybp (zbw c m dts Fs) :=
 PE.imp (pe_makeX (E := WE Wx) M Fk hr hgd hg hm hb hd hx ha hdb he hpl) fun σ H Q h =>
  tM.bind1 (R := fun (vs : List V) (H1 : Hp) => ∀ x dx, H1 x = none → H1 dx = none → dx ≠ x → spX X.K X.w m n Yf8 (upd (upd H1 dx (.own x)) x Yfn) Ycr (WE Wx σ))
   (C := W) (k := fun (ws : List W) (eta : IS) (h1 : IH) => (reEr eta (m (W.r h1.length :: (ws ++ dts.map W.t)) (h1 ++ [some (Cell.ins c [])]))).bind fun w h2 => match w with | .t .non => (Res.ok (W.r h1.length) h2 : Res W) | _ => .bad) h fun s eta ws vs R1 S1 f1 g x dx nx ndx ne => go_madeX R1 S1 cn f1 hdt hl nx ndx ne g
theorem ie_methX (cn : CN X.K c C) (cl : Cls X.K C) (hm : Meth X.K C mn f) (Fk : FnG X.prog X.w X.K X.mg X.base CX k f fd ps (spX X.K X.w m n)) (hr : Room k X.A) (hgd : X.A.guards = some []) (hb : Binds X.K fd ps ds) (hd : Vals dvs ds) (hdt : ∀ s, RwL X.K s (dts.map W.t) dvs) (hl : ∀ ws hp, ws.length ≠ n → m ws hp = .bad) (hx : ∀ σ, PassesAt CX X σ (WE Wx σ)) (ho : IE X Wx o Fo) (ha : IA X Wx Yae Fs)
  (hst : starEach Yae X.env = (false, eval e X.env) :: starEach es X.env := by rfl) (hpl : (backTo pos Ybe).any (·.1) = false := by rfl)
  (ht : eval (.Call (.Attribute o mn apos) Yae [] pos) X.env = (do let ov ← eval o X.env; standAt apos.atName; let (f, first) ← holding [ov] (getMethod ov mn pl); callWith pos f first (backTo pos (starEach Yae X.env)) (backToKw pos Ygj)) := by rfl) : IE X Wx (.Call (.Attribute o mn apos) Yae [] pos) (mMethX c mn m dts Fo Fs) :=
 PE.imp (pe_methX (pl := pl) (E := WE Wx) ho cl hm Fk hr hgd hb hd hx ha hst hpl ht) fun σ H Q h => by
  obtain ⟨s0, eta, e1, R0, S0, g0⟩ := h
  refine ⟨s0, eta, e1, R0, S0, Go.bind g0 fun w v s1 A1 R1 f1 eok g1 => ?_⟩
  clear eok
  split at g1
  ·rename_i c' fs hi
   split at g1
   ·rename_i hc
    obtain ⟨rfl, hlk⟩ := hc
    obtain ⟨a, C', dx, vs, e, hH, cn', l⟩ := ins_at R1 hi f1
    cases cn.inj cn'
    refine ⟨a, dx, vs, e, hH, (l.look mn).2 hlk, s1, eta, rfl, R1, S0.aft A1 R0, Go.bind g1 fun ws us s2 A2 R2 f2 eok g2 => ?_⟩
    clear eok
    subst e
    exact go_X (ws := w :: ws) (vs := .ref a :: us) rfl R2 ((S0.aft A1 R0).aft A2 R1) ⟨.ref a, _, rfl, f1.aft A2 R1, f2⟩ hdt hl g2
   ·exact g1.elim
  ·exact g1.elim
end
end Mir
namespace Mir
open PySem PySem.Spec L2
open PyProof.Rows hiding St
/-- .. which a context that takes any takes -/
theorem takesN {X : Cx} {W : WX} (t : L2.Takes X W) : L2N.Takes X W := fun u s' ⟨a, B, sI, pins, σ, H, cls, d, e, I, nb, up, sky, na, os, ag, w⟩ =>
 t u s' ⟨a, B, sI, pins, σ, H, cls, d, e, I, nb, up, by
  rcases sky with ⟨h1, h2, h3, oe, vs, h4, h5, h6⟩ | h | ⟨h1, h2, h3, h4⟩
  ·exact .inl ⟨h1, h2, h3, oe, vs, h4, h5.zc, h6⟩
  ·exact .inr (.inl (L2H.flyingZ_imp (fun o z => z.zc) h))
  ·exact .inr (.inr ⟨h1, h2, h3, L2H.tracedZ_imp (fun o z => z.zc) h4⟩), na, os, ag, w⟩
theorem pmk_oexN {X : Cx} {CX : CXT} {x : Str} {e : Expr} {es : List Expr} {ta : TA} {p pos : Pos} {C fI : Addr} {k : Nat} {fd : FuncData} {ps : List Str} {sp : Sp} (T : OexC X.K C) (iC : PySem.W.findIn X.K (.ref C) "__init__" = some (some (.ref fI))) (tI : PySem.W.typeIn X.K (.ref fI) = some Ydu)
  (F1 : FnOk X.prog X.w X.K X.mg X.base CX k fI fd ps sp) (hr : Room (k + 1) X.A) (hb : Binds X.K fd ps []) (hx : Passes CX X Yd3) (hg : Gl X x) (hm : X.mg x = some (.ref C)) (ha : PA X Yae ta)
  (hdb : (x == ("__debug__" : Str)) = false := by decide) (he : starEach Yae X.env = (false, eval e X.env) :: starEach es X.env := by rfl) (hpl : (backTo pos Ybe).any (·.1) = false := by rfl) :
  L2N.PMk X Ybp (tMkO C sp [] ta) := by
 intro pins s σ H Q I h
 obtain ⟨nm, q, N, bs, bm, sn, sub, ab, col, dd, k0, k1, k2, k3, k5, hC, hbm⟩ := T.cls
 refine wpAny_Call_Name_kw (ld_glob I hg hm ?_ hdb)
 refine PySem.W.callWith_K (h₀ := X.base) I.ok.mod.kin T.kC (thn (ha.run pos pins s σ H _ I h) fun us s1 ⟨vs, H1, I1, r1, hz, q1⟩ => ⟨I1.kIn, ?_⟩) he hpl
 show wpAny _ _ (call (.ref C) us) _ _ _
 obtain ⟨hp, g, dr, tk, os⟩ := s1
 have hsz : hp.objs.size ≤ hp.objs.size + 1 := Nat.le_succ _
 have hn : H1 Ybd = none := I1.hok.fresh hsz
 have hq := q1 Ybd hn
 rw [List.append_nil] at hq
 have kk : ∀ b o, hp.get? b = some o → ((hp.push (PySem.W.kdv_tup us)).push Yb6).get? b = some o := fun b o e => Heap.get?_push_of_some _ (Heap.get?_push_of_some _ e)
 have hget : ((hp.push (PySem.W.kdv_tup us)).push Yb6).get? Ybd = some Yb6 := by heap_get
 have I2 : Inv X pins σ (upd H1 Ybd (exo Ybd C none)) ⟨(hp.push (PySem.W.kdv_tup us)).push Yb6, g, dr, tk, os⟩ :=
  I1.laid (t' := tk) (a := hp.objs.size + 1) (o := exo Ybd C none) (h' := (hp.push (PySem.W.kdv_tup us)).push Yb6) kk hsz (exo_ok hget)
 have r2 : Vals (V.ref Ybd :: vs) (Value.ref Ybd :: us) := .cons rfl r1
 have hl : (Value.ref Ybd :: us ++ []).length = ps.length := by
  have e := r2.length
  rw [F1.len _ _ _ _ hq] at e
  rw [List.append_nil]
  exact e.symm
 have hus : us.length ≤ sizeLine := by
  rw [← Paired.length r1, sizeLine_eq]
  omega
 have b2 := hb _ (Value.ref Ybd :: us) I2.kIn hl
 rw [List.append_nil] at b2
 refine wpAny_call (PySem.HandSPX.call_own F.excBase_ValueError (fun Y => PySem.HandSPX.refsVE_contains Y bm hbm) (I1.kIn _ _ hC) (PySem.W.looks_findIn I1.kIn iC) (fun self => PySem.W.bind_fn I1.kIn self tI) hus
  (codeAny_mono (F1.run _ X.stack _ _ ⟨Value.ref Ybd :: us, []⟩ (Value.ref Ybd :: us) _ _ Yd3 (hr.make C us []) (I2.env0.make C us []) b2 r2 hq) fun r s' hq' => ?_))
 cases r with
 | error er => exact hx pins σ _ _ er s' I2 hq'
 | ok fl =>
  cases fl with
  | ret u =>
   obtain ⟨v, H2, os2, bare2, un2, hok2, rv, ev, d, fs, ea, ed, hd1, q2⟩ := hq'
   subst ev
   obtain ⟨h2, g2, d2, t2, os'⟩ := s'
   obtain ⟨t0, G, J, kG, ge, hoe, na⟩ := mk_end0 (d2 := d2) (t2 := t2) I1 hsz kk un2 hok2 os2 bare2 ea ed hd1
   exact ⟨rv, hp.objs.size + 1, _, _, ⟨G, g2, d2, t2, os'⟩, _, .ref C, some d, rfl, J, kG, ge, hoe, ⟨rfl, rfl, fun vs hv => by cases hv; rfl⟩, rfl, rfl, na, rfl, bare2, raises_own T.exC T.tyC, q2⟩
  | next => exact False.elim hq'
  | brk => exact False.elim hq'
  | cont => exact False.elim hq'
/-- the mirror's exceptions -/
def ExF (K : PySem.W.Frag) (s : S4) (a : Ex) (b : Value × Option Addr) : Prop := ExR K s a b.1 b.2
abbrev tX (K : PySem.W.Frag) (ω : World) (Wx : WX) (F : M Ex) : L2.St → Hp → XK → Prop := fun σ H Q => tM K ω Wx (ExF K) F σ H (fun b H' => Q b.1 b.2 H')
def mExc (c fld : Str) (Fs : M (List W)) : M Ex := fun eta hp => (Fs eta hp).bind fun ws h => match ws with
 | [w] => .ok ⟨c, [(fld, w)]⟩ h
 | _ => .bad
def mRaise (F : M Ex) : M Fl := fun eta hp => (F eta hp).bind fun e h => .er e eta h
section
variable {X : Cx} {Wx : WX} {C : Addr} {c fld : Str} {Fs : M (List W)} {F : M Ex} {e : Expr} {pos : Pos}
theorem tmk_of (cn : CN X.K c C) : ∀ σ H Q, tX X.K X.w Wx (mExc c fld Fs) σ H Q → tMkO C (spI C fld) [] (tA X.K X.w Wx Fs) σ H Q := fun σ H Q h => by
 refine tM.bind1 (R := fun (vs : List V) (H1 : Hp) => vs.length ≤ 1000 ∧ ∀ a, H1 a = none → spI C fld (.ref a :: (vs ++ [])) (upd H1 a (exo a C none)) (fun v H2 => v = .non ∧ ∃ (d : Addr) (fs : List Ycy), H2 a = some (exo a C (some d)) ∧ H2 d = some (exd d fs) ∧ H1 d = none ∧ Q (.ref C) (some d) (upd (del H2 a) d (.xd fs))) Yd3)
  (C := Ex) (k := fun (ws : List W) (_ : IS) (h : IH) => match ws with | [w] => (Res.ok (⟨c, [(fld, w)]⟩ : Ex) h : Res Ex) | _ => .bad) h fun s eta ws vs R1 S1 f1 g => ?_
 split at g
 ·rename_i w
  obtain ⟨v, r, e1, f2, e2⟩ := f1
  subst e1
  cases (show r = [] from e2)
  refine ⟨by simp, fun a na => ⟨a, v, rfl, upd_same, fun dx hdx hne => ⟨rfl, dx, [(fld, v)], upd_same, ?_, ?_, ?_⟩⟩⟩
  ·rw [upd_ne hne, upd_same]
  ·rw [upd_ne hne] at hdx
   exact hdx
  ·rw [upd_ne hne] at hdx
   have eH : upd (del (upd (upd (upd s.H a (exo a C none)) dx (exd dx [(fld, v)])) a (exo a C (some dx))) a) dx (.xd [(fld, v)]) = upd s.H dx (.xd [(fld, v)]) := by
    funext b
    by_cases h1 : b = dx
    ·rw [h1, upd_same, upd_same]
    ·rw [upd_ne h1, upd_ne h1]
     by_cases h2 : b = a
     ·rw [h2, del_same, na]
     ·rw [del_ne h2, upd_ne h2, upd_ne h1, upd_ne h2]
   rw [eH]
   have A := (Aft.refl s).setD (D := dx) (o' := .xd [(fld, v)]) hdx
   have R' : Rel X.K X.w (s.setD dx (.xd [(fld, v)])) := rel_setD R1 (R1.fresh hdx).1 (R1.fresh hdx).2
   exact g (.ref C, some dx) (s.setD dx (.xd [(fld, v)])) rfl A R' ⟨C, rfl, cn, .inr ⟨dx, _, rfl, upd_same, v, [], rfl, f2.aft A R1, rfl⟩⟩
 ·exact g.elim
/-- raise C(e) -/
theorem zck (hc : X.calm = true) (tk : L2N.Takes X Wx) (he : L2N.PMk X e (tX X.K X.w Wx F)) : ISt X Wx (.Raise (some e) none pos) (mRaise F) := PS.imp (L2N.ps_raise hc tk he) fun D σ H h => by
 obtain ⟨s, eta, e1, R1, S1, g⟩ := h
 refine ⟨s, eta, e1, R1, S1, Go.bind g fun a b s' A R f _ g' => ?_⟩
 exact g' s' σ b.1 b.2 rfl (Aft.refl s') R (S1.aft A R1) f
end
end Mir
namespace Mir
open PySem PySem.Spec L2
open PyProof.Rows hiding St
open HotX (HotAt)
end Mir
namespace Mir
open PySem PySem.Spec L2
open PyProof.Rows hiding St
/-- which classes a clause names -/
def HitOk (K : PySem.W.Frag) (c : Value) (hit : Str → Option Bool) : Prop := ∀ (c' : Str) (C' : Addr) (b : Bool), hit c' = some b → CN K c' C' → PySem.W.exmOne K (.ref C') c = some b
theorem Sl.unset {K : PySem.W.Frag} {s : S4} {eta : IS} {σ : L2.St} (h : Sl K s eta σ) (i : Nat) (x : Option V) : Sl K s (eta.set i none) (σ.set i x) := by
 refine ⟨by rw [List.length_set, List.length_set]; exact h.1, fun j w q => ?_⟩
 by_cases e : i = j
 ·subst e
  by_cases hl : i < eta.length
  ·rw [List.getElem?_set_self hl] at q; cases q
  ·rw [List.getElem?_eq_none Yft] at q; cases q
 ·rw [List.getElem?_set_ne e] at q
  obtain ⟨v, h1, h2⟩ := h.2 j w q
  exact ⟨v, by rw [List.getElem?_set_ne e]; exact h1, h2⟩
section
variable {X : Cx} {Wx : WX} {C fI : Addr} {c fld x : Str} {fd : FuncData} {ps : List Str} {e : Expr} {es : List Expr} {Fs : M (List W)} {p pos : Pos} {CX : CXT}
theorem zc8 (T : OexC X.K C) (iC : PySem.W.findIn X.K (.ref C) "__init__" = some (some (.ref fI))) (tI : PySem.W.typeIn X.K (.ref fI) = some Ydu) (cn : CN X.K c C) (F1 : FnOk X.prog X.w X.K X.mg X.base Ycd 1 fI fd ps (spI C fld)) (hr : Room 2 X.A) (hb : Binds X.K fd ps []) (hg : Gl X x) (hm : X.mg x = some (.ref C)) (ha : IA X Wx Yae Fs)
  (hdb : (x == ("__debug__" : Str)) = false := by decide) (he : starEach Yae X.env = (false, eval e X.env) :: starEach es X.env := by rfl) (hpl : (backTo pos Ybe).any (·.1) = false := by rfl) : L2N.PMk X Ybp (tX X.K X.w Wx (mExc c fld Fs)) :=
 fun pins s σ H Q I h => pmk_oexN T iC tI F1 hr hb passL hg hm ha hdb he hpl pins s σ H Q I (tmk_of cn σ H Q h)
end
end Mir
namespace Mir
open PySem PySem.Spec L2
open PyProof.Rows hiding St
/-- a class: a built-in type or an own class by name -/
abbrev CT := String ⊕ Str
def tyC (hp : IH) : W → Option CT
 | .t .non => some (.inl "NoneType") | .t (.bl _) => some (.inl "bool") | .t (.int _) => some (.inl "int") | .t (.str _) => some (.inl "str")
 | .t (.tup _) => some (.inl "tuple") | .t (.pr _) => some (.inl "tuple") | .t (.lst _) => some (.inl "list") | .t (.scr _) => some (.inl "list")
 | .t (.dic _ _) => some (.inl "dict") | .t (.ins c _ _) => some (.inr c)
 | .t (.ty _) => none | .t (.cls _) => none | .t (.dit _ _) => none | .t (.exc _ _ _) => none
 | .r i => match hp[i]? with
  | some (some (.lst _)) => some (.inl "list")
  | some (some (.dic _)) => some (.inl "dict")
  | some (some (.ins c _)) => some (.inr c)
  | _ => none
def clC : T → Option CT
 | .ty n => some (.inl n) | .cls c => some (.inr c) | _ => none
def clCs : List T → Option (List CT)
 | [] => some []
 | x :: r => match clC x, clCs r with
  | some a, some b => some (a :: b)
  | _, _ => none
/-- the value of a class -/
def CVal (K : PySem.W.Frag) : CT → Value → Prop
 | .inl n, v => v = .type n
 | .inr c, v => ∃ C, v = .ref C ∧ CN K c C
/-- what isinstance asks of an own class -/
structure InsC (K : PySem.W.Frag) (C : Addr) : Prop where
 cl : Cls K C
 ha : PySem.W.findIn K (.ref C) "__class__" = some (some Y7)
 hn : PySem.W.specialIn K Y7 "__get__" = some Yd8
 htk : PySem.W.takesIn K Y7 = some true
 hm : PySem.W.mroIn K C Yem = some true
structure IsTab (K : PySem.W.Frag) (tab : CT → CT → Option Bool) : Prop where
 ok : ∀ t c b tv cv, tab t c = some b → CVal K t tv → CVal K c cv → PySem.W.kitOne K tv cv = some b
 ins : ∀ c d b C, tab (.inr c) d = some b → CN K c C → InsC K C
def anyC (tab : CT → CT → Option Bool) (t : CT) : List CT → Option Bool
 | [] => some false
 | c :: r => match tab t c with
  | some true => some true
  | some false => anyC tab t r
  | none => none
def oIsi (tab : CT → CT → Option Bool) : OpN := fun ws hp => match ws with
 | [x, .t (.tup cs)] => (match tyC hp x, clCs cs with
  | some t, some ds => (match ds with
   | [] => .bad
   | _ :: _ => (match anyC tab t ds with
    | some b => .ok Yde hp
    | none => .bad))
  | _, _ => .bad)
 | [x, .t c] => (match tyC hp x, clC c with
  | some t, some d => (match tab t d with
   | some b => .ok Yde hp
   | none => .bad)
  | _, _ => .bad)
 | _ => .bad
section
variable {K : PySem.W.Frag} {ω : World} {s : S4}
/-- the type of such a value; own classes by the table -/
theorem ty_at (R : Rel K ω s) {w : W} {v : V} {t : CT} (h : tyC s.hp w = some t) (r : Rw K s w v) (hI : ∀ c C, t = .inr c → CN K c C → InsC K C) : ∃ tv, CVal K t tv ∧ TyX K s.H v tv := by
 cases w with
 | t x =>
  cases x with
  | non => simp only [tyC, Option.some.injEq] at h; subst h; simp only [Rw, Rf] at r; subst r; exact ⟨_, rfl, .base .non⟩
  | bl b => simp only [tyC, Option.some.injEq] at h; subst h; simp only [Rw, Rf] at r; subst r; exact ⟨_, rfl, .base (.bl b)⟩
  | int b => simp only [tyC, Option.some.injEq] at h; subst h; simp only [Rw, Rf] at r; subst r; exact ⟨_, rfl, .base (.int b)⟩
  | str b => simp only [tyC, Option.some.injEq] at h; subst h; simp only [Rw, Rf] at r; subst r; exact ⟨_, rfl, .base (.str b)⟩
  | tup xs =>
   simp only [tyC, Option.some.injEq] at h; subst h; simp only [Rw, Rf] at r
   obtain ⟨a, vs, e, f, _⟩ := r
   subst e
   rcases f with ⟨_, o, h, _⟩ | ⟨o, its, n, h1, h2, _⟩
   ·exact ⟨_, rfl, .fTuple h⟩
   ·exact ⟨_, rfl, .kTuple h1 h2⟩
  | pr xs =>
   simp only [tyC, Option.some.injEq] at h; subst h; simp only [Rw, Rf] at r
   obtain ⟨a, vs, e, ⟨_, f⟩, _⟩ := r
   subst e
   exact ⟨_, rfl, .base (.tup f)⟩
  | lst xs =>
   simp only [tyC, Option.some.injEq] at h; subst h; simp only [Rw, Rf] at r
   obtain ⟨a, vs, e, ⟨_, f⟩, _⟩ := r
   subst e
   exact ⟨_, rfl, .base (.lst f)⟩
  | scr xs =>
   simp only [tyC, Option.some.injEq] at h; subst h; simp only [Rw, Rf] at r
   obtain ⟨a, vs, e, f, _⟩ := r
   subst e
   rcases f with ⟨_, o, h⟩ | ⟨o, its, n, h1, h2, _⟩
   ·exact ⟨_, rfl, .base (.frz h)⟩
   ·exact ⟨_, rfl, .kList h1 h2⟩
  | dic ks xs =>
   simp only [tyC, Option.some.injEq] at h; subst h; simp only [Rw, Rf] at r
   obtain ⟨a, vs, e, ⟨_, o, f⟩, _⟩ := r
   subst e
   exact ⟨_, rfl, .fDict f⟩
  | ins c ns xs =>
   simp only [tyC, Option.some.injEq] at h; subst h; simp only [Rw, Rf] at r
   obtain ⟨a, C, vs, e, cn, ⟨_, dx, f⟩, _⟩ := r
   subst e
   have q := hI c C rfl cn
   exact ⟨_, ⟨C, rfl, cn⟩, .base (.ins f q.cl q.ha q.hn q.htk q.hm)⟩
  | ty n => simp [tyC] at h
  | cls c => simp [tyC] at h
  | dit _ _ => simp [tyC] at h
  | exc _ _ _ => simp [tyC] at h
 | r i =>
  obtain ⟨a, e1, e2⟩ := r
  subst e2
  simp only [tyC] at h
  split at h
  ·rename_i xs q
   obtain ⟨vs, h1, _⟩ := R.cell i _ a q e1
   cases h
   exact ⟨_, rfl, .base (.lst h1)⟩
  ·rename_i xs q
   obtain ⟨vs, h1, _⟩ := R.cell i _ a q e1
   cases h
   exact ⟨_, rfl, .base (.dK h1)⟩
  ·rename_i c fs q
   obtain ⟨C, dx, vs, h1, cn, _⟩ := R.cell i _ a q e1
   cases h
   have q := hI c C rfl cn
   exact ⟨_, ⟨C, rfl, cn⟩, .base (.ins h1 q.cl q.ha q.hn q.htk q.hm)⟩
  ·cases h
theorem cl_at {x : T} {v : V} {d : CT} (h : clC x = some d) (r : Rf K s.fz s.H x v) : ∃ cv, CVal K d cv ∧ ClsV v cv := by
 cases x with
 | ty n => simp only [clC, Option.some.injEq] at h; subst h; simp only [Rf] at r; subst r; exact ⟨_, rfl, .ty n⟩
 | cls c => simp only [clC, Option.some.injEq] at h; subst h; simp only [Rf] at r; obtain ⟨C, e, cn⟩ := r; subst e; exact ⟨_, ⟨C, rfl, cn⟩, .own C⟩
 | _ => simp [clC] at h
end
/-- isinstance(x, (c, ..)), the tuple frozen -/
def rIsiF (K : PySem.W.Frag) : List V → Hp → VK → Prop := fun xs H Q => ∃ (x : V) (tp : Addr) (o : Obj) (cs : List V) (t : Value) (us : List Value) (b : Bool), xs = [x, .ref tp] ∧ H tp = some (.frz o (.tup cs)) ∧ Paired ClsV cs us ∧ TyX K H x t ∧ PySem.W.kitAny K t us = some b ∧ Q (.bl b) H
theorem call_isiF {X : Cx} : CallR X Yf9 (rIsiF X.K) := by
 intro pins s σ H xs us Q I r h
 obtain ⟨x, tp, o, cs, t, ws, b, rfl, hT, k, ty, e, q⟩ := h
 obtain ⟨u1, u2, rfl, r1, r2⟩ := vals2 r
 cases (show u2 = Value.ref tp from r2)
 obtain ⟨P, Z, p, hx⟩ := kit_of I r1 ty
 obtain ⟨_, _, its, rv, o1, h1, h2, n, h3⟩ := (show ObjOk X.prog X.w H s.heap tp (.frz o (.tup cs)) from I.hok tp _ hT)
 have e3 := ClsV.all k rv
 subst e3
 obtain ⟨oc, od, dt, sl⟩ := o1
 simp only at h2 h3
 subst h2 h3
 exact PySem.W.kia_tup Z I.kIn p h1 e hx fun tk => ⟨.bl b, H, I.tok tk, rfl, q⟩
def rIsiA (K : PySem.W.Frag) : List V → Hp → VK → Prop := fun xs H Q => rIsi K xs H Q ∨ (rIsiF K xs H Q ∨ rIsiK K xs H Q)
theorem zb3 {X : Cx} : CallR X Yf9 (rIsiA X.K) := CallR.or call_isi (CallR.or call_isiF call_isiK)
section
variable {K : PySem.W.Frag} {ω : World} {s : S4} {Wx : WX} {tab : CT → CT → Option Bool}
theorem cls_at : ∀ {xs : List T} {vs : List V} {ds : List CT}, clCs xs = some ds → RfL K s.fz s.H xs vs → ∃ us : List Value, Paired ClsV vs us ∧ Paired (CVal K) ds us
 | [], vs, ds, h, r => by
  simp only [RfL] at r
  simp only [clCs, Option.some.injEq] at h
  subst r h
  exact ⟨[], .nil, .nil⟩
 | x :: xs, vs, ds, h, r => by
  simp only [RfL] at r
  obtain ⟨v, t, e, a, b⟩ := r
  subst e
  simp only [clCs] at h
  split at h
  ·rename_i d ds' h1 h2
   cases h
   obtain ⟨cv, c1, c2⟩ := cl_at h1 a
   obtain ⟨us, p1, p2⟩ := cls_at h2 b
   exact ⟨cv :: us, .cons c2 p1, .cons c1 p2⟩
  ·cases h
theorem any_at (h : IsTab K tab) {t : CT} {tv : Value} (ht : CVal K t tv) : ∀ {ds : List CT} {us : List Value} {b : Bool}, anyC tab t ds = some b → Paired (CVal K) ds us → PySem.W.kitAny K tv us = some b
 | [], us, b, e, p => by
  cases p
  simp only [anyC, Option.some.injEq] at e
  subst e
  rfl
 | c :: r, us, b, e, p => by
  cases p with
  | cons q p =>
   simp only [anyC] at e
   unfold PySem.W.kitAny
   split at e
   ·rename_i h1
    rw [h.ok _ _ _ _ _ h1 ht q]
    exact e
   ·rename_i h1
    rw [h.ok _ _ _ _ _ h1 ht q]
    exact any_at h ht e p
   ·cases e
theorem any_some {t : CT} : ∀ {d : CT} {ds : List CT} {b : Bool}, anyC tab t (d :: ds) = some b → ∃ b', tab t d = some b'
 | d, ds, b, e => by
  simp only [anyC] at e
  split at e
  ·exact ⟨_, by assumption⟩
  ·exact ⟨_, by assumption⟩
  ·cases e
theorem ok_isi (ht : IsTab K tab) : OpNOk K ω Wx (oIsi tab) (rIsiA K) := by
 intro s ws xs Q R r go
 unfold oIsi at go
 split at go
 ·rename_i x cs
  obtain ⟨v, c, e, rv, rc⟩ := RwL.two r
  subst e
  split at go
  ·rename_i t ds h1 h2
   split at go
   ·exact go.elim
   ·rename_i d ds
    split at go
    ·rename_i b hb
     have q := go (.bl b) s rfl Ye R (by simp only [Rw, Rf])
     obtain ⟨b', hb'⟩ := any_some hb
     obtain ⟨tv, c1, ty⟩ := ty_at R h1 rv (fun c C e cn => ht.ins c d b' C (by rw [← e]; exact hb') cn)
     simp only [Rw, Rf] at rc
     obtain ⟨a, vs, e, f, l⟩ := rc
     subst e
     obtain ⟨us, p1, p2⟩ := cls_at h2 l
     have ka := any_at ht c1 hb p2
     rcases f with ⟨_, o, hH, _⟩ | ⟨o, its, n, k1, k2, _, k3, _, k4⟩
     ·exact .inr (.inl ⟨v, a, o, vs, tv, us, b, rfl, hH, p1, ty, ka, q⟩)
     ·refine .inr (.inr ⟨v, a, o.dict, us, n, o.slots, tv, b, rfl, ?_, ty, ka, q⟩)
      have e3 := ClsV.all p1 k4
      obtain ⟨oc, od, dt, sl⟩ := o
      simp only at k2 k3
      subst k2 k3
      rw [k1, ← e3]
    ·exact go.elim
  ·exact go.elim
 ·rename_i x c hne
  obtain ⟨v, c', e, rv, rc⟩ := RwL.two r
  subst e
  split at go
  ·rename_i t d h1 h2
   split at go
   ·rename_i b hb
    have q := go (.bl b) s rfl Ye R (by simp only [Rw, Rf])
    obtain ⟨tv, c1, ty⟩ := ty_at R h1 rv (fun c C e cn => ht.ins c d b C (by rw [← e]; exact hb) cn)
    obtain ⟨cv, c2, c3⟩ := cl_at h2 (by simpa only [Rw] using rc)
    exact .inl ⟨v, c', tv, cv, b, rfl, c3, ty, ht.ok _ _ _ _ _ hb c1 c2, q⟩
   ·exact go.elim
  ·exact go.elim
 ·exact go.elim
end
end Mir
namespace Mir
open PySem PySem.Spec L2
open PyProof.Rows hiding St
def mSM (f : OpM) (Fo Fe : M W) : M W := fun eta hp => (Fo eta hp).bind fun w h1 => match w with
 | .t (.str a) => (Fe eta h1).bind fun u h2 => f (.t (.str a)) [u] h2
 | _ => .bad
def zb0 : List W → Option (List Str)
 | [] => some []
 | .t (.str x) :: r => (zb0 r).map (x :: ·)
 | _ => none
def oSplit : OpM := fun w ws hp => match w, ws with
 | .t (.str a), [.t (.str b)] => if (b.length == 0) = false ∧ a.length + 2 ≤ 16777216 then .ok (.t (.lst ((Txt.split a b).map T.str))) hp else .bad
 | _, _ => .bad
def oJoin : OpM := fun w ws hp => match w, ws with
 | .t (.str a), [u] => (match (items hp u).bind zb0 with
  | some ys => if (ys.map (·.length)).sum + ys.length * a.length ≤ 16777216 then .ok (.t (.str (Txt.join a ys))) hp else .bad
  | none => .bad)
 | _, _ => .bad
section
variable {K : PySem.W.Frag} {ω : World} {s : S4} {Wx : WX}
theorem strs_rw : ∀ {ws : List W} {vs : List V} {ys : List Str}, zb0 ws = some ys → RwL K s ws vs → vs = ys.map V.str
 | [], vs, ys, h, r => by
  simp only [zb0, Option.some.injEq] at h
  subst h
  exact r
 | .t (.str x) :: r, vs, ys, h, q => by
  simp only [zb0, Option.map_eq_some_iff] at h
  obtain ⟨zs, h1, h2⟩ := h
  subst h2
  obtain ⟨v, t, e, a, b⟩ := q
  simp only [Rw, Rf] at a
  subst a
  rw [e, strs_rw h1 b]
  rfl
 | .t .non :: _, _, _, h, _ => by simp [zb0] at h
 | .t (.bl _) :: _, _, _, h, _ => by simp [zb0] at h
 | .t (.int _) :: _, _, _, h, _ => by simp [zb0] at h
 | .t (.ty _) :: _, _, _, h, _ => by simp [zb0] at h
 | .t (.tup _) :: _, _, _, h, _ => by simp [zb0] at h
 | .t (.lst _) :: _, _, _, h, _ => by simp [zb0] at h
 | .t (.scr _) :: _, _, _, h, _ => by simp [zb0] at h
 | .t (.pr _) :: _, _, _, h, _ => by simp [zb0] at h
 | .t (.dic _ _) :: _, _, _, h, _ => by simp [zb0] at h
 | .t (.ins _ _ _) :: _, _, _, h, _ => by simp [zb0] at h
 | .t (.cls _) :: _, _, _, h, _ => by simp [zb0] at h
 | .t (.dit _ _) :: _, _, _, h, _ => by simp [zb0] at h
 | .t (.exc _ _ _) :: _, _, _, h, _ => by simp [zb0] at h
 | .r _ :: _, _, _, h, _ => by simp [zb0] at h
theorem ok_split : OpMOk K ω Wx oSplit (fun x xs H Q => ∃ a b, x = .str a ∧ xs = [.str b] ∧ (b.length == 0) = false ∧ a.length + 2 ≤ sizeLine ∧ rNewStrs (Txt.split a b) H Q) := by
 intro s w ws x xs Q R r rs go
 unfold oSplit at go
 split at go
 ·rename_i a b
  split at go
  ·rename_i hh
   simp only [Rw, Rf] at r
   obtain ⟨v, e, rv⟩ := RwL.one rs
   simp only [Rw, Rf] at rv
   subst r rv e
   exact ⟨a, b, rfl, rfl, hh.1, by rw [sizeLine_eq]; exact hh.2, fun p hp => go (.ref p) (s.addF p (.lst ((Txt.split a b).map V.str))) rfl (za0 R hp) (za8 R hp) (zbq R hp (strs_rf _))⟩
  ·exact go.elim
 ·exact go.elim
theorem ok_join : OpMOk K ω Wx oJoin (fun x xs H Q => ∃ a p, ∃ ys : List Str, x = .str a ∧ xs = [.ref p] ∧ (SqL K H p (ys.map V.str) ∨ SqT K H p (ys.map V.str)) ∧ (ys.map (·.length)).sum + ys.length * a.length ≤ 16777216 ∧ Q (.str (Txt.join a ys)) H) := by
 intro s w ws x xs Q R r rs go
 unfold oJoin at go
 split at go
 ·rename_i a u
  split at go
  ·rename_i ys hy
   split at go
   ·rename_i hz
    obtain ⟨us, h1, h2⟩ := Option.bind_eq_some_iff.mp hy
    simp only [Rw, Rf] at r
    obtain ⟨v, e, rv⟩ := RwL.one rs
    subst r e
    obtain ⟨p, zs, e, q, l⟩ := items_at R h1 rv
    subst e
    have ez := strs_rw h2 l
    subst ez
    exact ⟨a, p, ys, rfl, rfl, q, hz, go _ s rfl Ye R Yd⟩
   ·exact go.elim
  ·exact go.elim
 ·exact go.elim
end
section
variable {X : Cx} {Wx : WX} {o e : Expr} {Fo Fe : M W} {name : Str} {apos cpos : Pos} {id : String} {f : OpM} {r : V → List V → Hp → VK → Prop}
theorem ie_sm (slot : Slot "str" name id) (hty : typeOf (.builtin id) = pure (.type "method_descriptor")) (hm : MtR X id r) (hf : OpMOk X.K X.w Wx f r) (ho : IE X Wx o Fo) (he : IE X Wx e Fe)
  (hs : starEach [e] X.env = [(false, eval e X.env)] := by rfl) (hbase : attributeBase o name X.env Yep = eval o X.env := by rfl) (hline : (apos.endLine == cpos.line) = true := by rfl) :
  IE X Wx (.Call (.Attribute o name apos) [e] [] cpos) (mSM f Fo Fe) :=
 PE.imp (pe_m1 slot hty hm ho he hs hbase hline) fun σ H Q h =>
  tM.bind1 (R := fun (x : V) (H1 : Hp) => (∃ a, x = .str a) ∧ tE X.K X.w Wx Fe σ H1 fun y H2 => r x [y] H2 Q) (k := fun (w : W) eta h1 => match w with | .t (.str a) => ((Fe eta h1).bind fun u h2 => f (.t (.str a)) [u] h2 : Res W) | _ => .bad) h fun s eta a b R1 S1 f1 g => by
   split at g
   ·rename_i a
    refine ⟨⟨a, by simpa only [Rw, Rf] using f1⟩, s, eta, rfl, R1, S1, Go.bind g fun u y s' A' R' r' _ g' => hf s' (.t (.str a)) [u] b [y] Q R' (f1.aft A' R1) ⟨y, [], rfl, r', rfl⟩ g'⟩
   ·exact g.elim
theorem ie_split (ho : IE X Wx o Fo) (he : IE X Wx e Fe) (hs : starEach [e] X.env = [(false, eval e X.env)] := by rfl) (hbase : attributeBase o "split" X.env Yep = eval o X.env := by rfl) (hline : (apos.endLine == cpos.line) = true := by rfl) :
  IE X Wx (.Call (.Attribute o "split" apos) [e] [] cpos) (mSM oSplit Fo Fe) := ie_sm F.slot_str_split F.type_str_split mt_split ok_split ho he hs hbase hline
theorem ie_join (ho : IE X Wx o Fo) (he : IE X Wx e Fe) (hs : starEach [e] X.env = [(false, eval e X.env)] := by rfl) (hbase : attributeBase o "join" X.env Yep = eval o X.env := by rfl) (hline : (apos.endLine == cpos.line) = true := by rfl) :
  IE X Wx (.Call (.Attribute o "join" apos) [e] [] cpos) (mSM oJoin Fo Fe) := ie_sm F.slot_str_join F.type_str_join mt_join ok_join ho he hs hbase hline
end
def inS (neg : Bool) : Op2 := fun a b hp => match a, b with
 | .t (.str i), .t (.str j) => (match i.cps.toList with
  | [c] => .ok (.t (.bl (if neg then !decide (c ∈ j.cps.toList) else decide (c ∈ j.cps.toList)))) hp
  | _ => .bad)
 | _, _ => .bad
section
variable {X : Cx} {Wx : WX} {a b : Expr} {Fa Fb : M W} {pos : Pos}
theorem ok_inS {K : PySem.W.Frag} {ω : World} : zcp K ω Wx (inS false) (fun x y H Q => ∃ (c : Nat) (z : Str), x = .str ⟨#[c]⟩ ∧ y = .str z ∧ Q (.bl (decide (c ∈ z.cps.toList))) H) := by
 intro s a b x y Q R ra rb go
 unfold inS at go
 split at go
 ·rename_i i j
  split at go
  ·rename_i c hc
   simp only [Rw, Rf] at ra rb
   subst ra rb
   have ei : i = ⟨#[c]⟩ := Str.ext' (Array.toList_inj.mp (by rw [hc]))
   subst ei
   exact ⟨c, j, rfl, rfl, go _ s rfl Ye R Yd⟩
  ·exact go.elim
 ·exact go.elim
theorem ie_inS (ha : IE X Wx a Fa) (hb : IE X Wx b Fb) (hm : behindInMarks .In b = false := by rfl) : IE X Wx (.Compare a [.In] [b] pos) (mBin (inS false) Fa Fb) := ie_cmp op_in_sign ok_inS ha hb hm
end
/-- a text or a number, as it is shown -/
def oFmt : Op1 := fun w hp => match w with
 | .t (.str y) => if y.length ≤ 16777216 then .ok (.t (.str y)) hp else .bad
 | .t (.int i) => if i.natAbs.log2 < 1920 then .ok (.t (.str (toString i))) hp else .bad
 | _ => .bad
def mJNil : Str → M Str := fun acc _ hp => .ok acc hp
def zcn (Fa : M W) (J : Str → M Str) : Str → M Str := fun acc eta hp => (Fa eta hp).bind fun a h1 => match a with
 | .t (.str y) => if (acc ++ y).length ≤ 16777216 then J (acc ++ y) eta h1 else .bad
 | _ => .bad
def mJoined (J : Str → M Str) : M W := fun eta hp => (J Str.empty eta hp).bind fun out h => .ok (.t (.str out)) h
def IJ (X : Cx) (Wx : WX) (es : List Expr) (J : Str → M Str) : Prop := ∃ ts, PJ X es ts ∧ ∀ acc σ H (Q : Str → Hp → Prop), tM X.K X.w Wx (fun _ (a b : Str) => a = b) (J acc) σ H Q → tJs ts acc σ H Q
section
variable {X : Cx} {Wx : WX} {e v1 v2 : Expr} {es rest : List Expr} {F : M W} {J : Str → M Str} {pos : Pos}
theorem ok_fmt {K : PySem.W.Frag} {ω : World} {s : S4} {w : W} {v : V} {Q : VK} (R : Rel K ω s) (r : Rw K s w v) (g : Go K ω Wx (Rw K) s (oFmt w s.hp) Q) : (∃ y : Str, v = .str y ∧ y.length ≤ sizeLine ∧ Q (.str y) s.H) ∨ ∃ i : Int, v = .int i ∧ i.natAbs.log2 < 1920 ∧ Q (.str (toString i)) s.H := by
 unfold oFmt at g
 split at g
 ·rename_i y
  split at g
  ·rename_i hz
   exact .inl ⟨y, by simpa only [Rw, Rf] using r, by rw [sizeLine_eq]; exact hz, g _ s rfl Ye R Yd⟩
  ·exact g.elim
 ·rename_i i
  split at g
  ·rename_i hz
   exact .inr ⟨i, by simpa only [Rw, Rf] using r, hz, g _ s rfl Ye R Yd⟩
  ·exact g.elim
 ·exact g.elim
theorem ie_fmt (he : IE X Wx e F) : IE X Wx (.FormattedValue e (-1) none pos) (mUn oFmt F) := PE.imp (pe_fmt he) fun σ H Q h =>
 tM.bind1 (R := fun (x : V) (H1 : Hp) => (∃ y : Str, x = .str y ∧ y.length ≤ sizeLine ∧ Q (.str y) H1) ∨ ∃ i : Int, x = .int i ∧ i.natAbs.log2 < 1920 ∧ Q (.str (toString i)) H1) (k := fun (a : W) _ hp => oFmt a hp) h fun s eta a b R1 _ f1 g => ok_fmt R1 f1 g
theorem ij_nil : IJ X Wx [] mJNil := ⟨[], .nil, fun acc σ H Q h => by
 obtain ⟨s, eta, e1, R1, S1, g⟩ := h
 subst e1
 exact g acc s rfl Ye R1 rfl⟩
theorem zb2 (h : IE X Wx e F) (r : IJ X Wx es J) : IJ X Wx Yae (zcn F J) := by
 obtain ⟨ts, p, k⟩ := r
 refine ⟨_ :: ts, .cons h p, fun acc σ H Q h => ?_⟩
 refine tM.bind1 (C := Str) (R := fun (x : V) (H1 : Hp) => ∃ y : Str, x = .str y ∧ (acc ++ y).length ≤ sizeLine ∧ tJs ts (acc ++ y) σ H1 Q) (k := fun (a : W) (eta : IS) (h1 : IH) => match a with | .t (.str y) => (if (acc ++ y).length ≤ 16777216 then J (acc ++ y) eta h1 else .bad : Res Str) | _ => .bad) h fun s eta a b R1 S1 f1 g => ?_
 split at g
 ·rename_i y
  split at g
  ·rename_i hz
   exact ⟨y, by simpa only [Rw, Rf] using f1, by rw [sizeLine_eq]; exact hz, k _ _ _ _ ⟨s, eta, rfl, R1, S1, g⟩⟩
  ·exact g.elim
 ·exact g.elim
theorem ie_joined (h : IJ X Wx (v1 :: v2 :: rest) J) : IE X Wx (.JoinedStr (v1 :: v2 :: rest) pos) (mJoined J) := by
 obtain ⟨ts, p, k⟩ := h
 exact PE.imp (pe_joined p) fun σ H Q h => k _ _ _ _ (tM.bind1 (C := W) (Fam := fun _ (a b : Str) => a = b) (R := fun (out : Str) (H1 : Hp) => Q (.str out) H1) (k := fun (out : Str) (_ : IS) (h : IH) => (.ok (.t (.str out)) h : Res W)) h fun s eta a b R1 S1 f1 g => by
  subst f1
  exact g _ s rfl Ye R1 Yd)
end
end Mir
namespace Mir
open PySem PySem.Spec L2
open PyProof.Rows hiding St
section
variable {prog : Program} {w : World} {A : Around} {E : Value → Shared → Prop} {s : Shared}
/-- the loop: Ph i holds of the heap behind i elements -/
theorem addAll {R : Result → Shared → Prop} {I S l : Addr} {items : Array Value} (hh : A.in1.handled = none) (nl : l ≠ I) (nS : S ≠ I) (nSl : S ≠ l) (Ph : Nat → Heap → Prop)
  (stay : ∀ i h h', Ph i h → (∀ b o, b ≠ I → h.get? b = some o → h'.get? b = some o) → Ph i h')
  (step : ∀ (i : Nat) (v : Value) (s1 : Shared) (Q : Bool → Shared → Prop) (E1 : Value → Shared → Prop), items[i]? = some v → Ph i s1.heap → (∀ b h' tk, Heap.SameBut S s1.heap h' → s1.toks ≤ tk → Ph (i + 1) h' → Q b { s1 with heap := h', toks := tk }) → wpAny Ydx A.in1 (setAdd S v) Q E1 s1) :
  ∀ (k i : Nat) (s0 : Shared), items.size - i = k → i ≤ items.size → (s0.heap.IsListIter I l i ∧ s0.heap.IsList l items) → Ph i s0.heap →
   (∀ s' : Shared, Moved [S, I] (fun a b => b = a) s0 s' → Ph items.size s'.heap → R (.ok (.ret .none)) s') →
   codeAny Ydx A (.builtin "set.update.loop" ⟨[.ref S, .ref I], []⟩) R s0 := by
 have W := (Walks.list (prog := prog) (w := w) hh I l nl items).toS
 have wide : ∀ {a b : Shared}, Moved [I] (fun x y => y = x) a b → Moved [S, I] (fun x y => y = x) a b := fun m => ⟨fun b o hb q => m.heap b o (fun z => hb (List.mem_cons_of_mem _ z)) q, m.gens, m.drawn, m.os, m.toks⟩
 intro k
 induction k with
 | zero =>
  intro i s0 hk hi st ph hR
  obtain rfl : i = items.size := by omega
  refine codeAny_builtin F.entry_set_update_loop ?_
  rw [Around.under_plainId F.plain_set_update_loop _]
  refine wpAny_bind (W.done s0 _ _ st fun s' hm => wpAny_pure (hR s' (wide hm) (stay _ _ _ ph fun b o hb q => hm.heap b o (by simpa using hb) q)))
 | succ k ih =>
  intro i s0 hk hi st ph hR
  have hlt : i < items.size := by omega
  refine codeAny_builtin F.entry_set_update_loop ?_
  rw [Around.under_plainId F.plain_set_update_loop _]
  refine wpAny_bind (W.item i s0 _ _ hlt st fun v s1 hv st1 hm => ?_)
  have ph1 : Ph i s1.heap := stay _ _ _ ph fun b o hb q => hm.heap b o (by simpa using hb) q
  refine wpAny_bind (wpAny_holding (step i v s1 _ _ hv ph1 fun b h' tk sb ht ph2 => ?_))
  have kp : ∀ b o, b ≠ S → s1.heap.get? b = some o → h'.get? b = some o := fun b o hb q => (sb.2 b hb).trans q
  refine wpAny_pure ⟨plainId_quiet F.plain_set_update_loop _, ih (i + 1) _ Ym hlt (W.frame _ s1 _ _ st1 ht fun b hb o q => kp b o (fun z => ?_) q) ph2 fun s2 hm2 ph3 => hR s2 ⟨fun b o hb q => ?_, ?_, ?_, ?_, ?_⟩ ph3⟩
  ·subst z
   simp only [List.mem_cons, List.not_mem_nil, or_false] at hb
   rcases hb with z | z
   ·exact nS z
   ·exact nSl z
  ·have h1 := (wide hm).heap b o hb q
   exact hm2.heap b o hb (kp b o (fun z => hb (by simp [z])) h1)
  ·exact hm2.gens.trans hm.gens
  ·exact hm2.drawn.trans hm.drawn
  ·exact hm2.os.trans hm.os
  ·exact Nat.le_trans (Nat.le_trans hm.toks ht) hm2.toks
/-- an empty set -/
abbrev zch (led : Bool) : Obj := { cls := .type "set", dict := none, data := .set #[] 0 (.fresh 0 0 led) }
/-- set(l) -/
theorem call_setL {l : Addr} {items : Array Value} {Q : Value → Shared → Prop} (hh : A.handled = none) (hl : s.heap.IsList l items) (Ph : Nat → Heap → Prop)
  (base : ∀ led h, h.get? s.heap.objs.size = some (zch led) → (∀ b o, s.heap.get? b = some o → h.get? b = some o) → Ph 0 h)
  (stay : ∀ i h h', Ph i h → (∀ b o, b ≠ s.heap.objs.size + 1 → h.get? b = some o → h'.get? b = some o) → Ph i h')
  (step : ∀ (A' : Around) (i : Nat) (v : Value) (s1 : Shared) (Q : Bool → Shared → Prop) (E1 : Value → Shared → Prop), A'.handled = none → A'.units ≤ A.units + 8 → items[i]? = some v → Ph i s1.heap → (∀ b h' tk, Heap.SameBut s.heap.objs.size s1.heap h' → s1.toks ≤ tk → Ph (i + 1) h' → Q b { s1 with heap := h', toks := tk }) → wpAny Ydx A' (setAdd s.heap.objs.size v) Q E1 s1)
  (hq : ∀ h' tk, Ph items.size h' → (∀ b o, s.heap.get? b = some o → h'.get? b = some o) → Q Yc9 { s with heap := h', toks := tk }) :
  wpAny Ydx A (call (.type "set") [.ref l]) Q E s := by
 have TC := PySem.F.called_set
 obtain ⟨c, tl, hmro⟩ := TC.mro
 have hmade := TC.made
 have hsub := TC.sub
 have hnt := TC.notType
 have hcc := TC.canCreate
 have hct := PySem.F.typeCall_set_1 (.ref l)
 refine wpAny_call (codeAny_of_tree (wpAny_pure ⟨Code.quiet_builtin _ Ybx, codeAny_builtin PySem.F.entry_type_call ?_⟩))
 rw [Around.under_plain (weight_type_call_type "set" [.ref l] []) rfl]
 repeat (any_goals (first | assumption | wp_step))
 refine codeAny_mono (code_set_new_1 (.ref l) (E := E) (Q₁ := fun obj s₁ => ∃ led : Bool, obj = .ref s.heap.objs.size ∧ s₁ = { s with heap := s.heap.push (zch led) }) fun led => ⟨led, rfl, rfl⟩) fun r s₁ hr => ?_
 rcases r with e | fl
 ·exact hr
 cases fl with
 | ret obj =>
  obtain ⟨led, rfl, rfl⟩ := hr
  have gS : (s.heap.push (zch led)).get? s.heap.objs.size = some (zch led) := Heap.get?_push_size _ rfl
  have tS : Shared.TypeIs { s with heap := s.heap.push (zch led) } (.ref s.heap.objs.size) "set" := ⟨_, gS, rfl⟩
  have hli := TC.init.lookup
  have hbi := TC.init.bind Yc9
  have lS : l < s.heap.objs.size := let ⟨_, q, _⟩ := hl; Heap.lt_size q
  have zS : (s.heap.push (zch led)).objs.size = s.heap.objs.size + 1 := Heap.size_push ..
  repeat (any_goals (first | assumption | wp_step))
  refine codeAny_mono (codeAny_call_builtin (R := wants (fun r s₂ => r = .none ∧ ∃ h' tk, s₂ = { s with heap := h', toks := tk } ∧ Ph items.size h' ∧ ∀ b o, s.heap.get? b = some o → h'.get? b = some o) E) TC.init.plain PySem.F.entry_set_init (check_set_init_1 tS ?_)) fun r₂ s₂ hr₂ => ?_
  ·have hl1 : (s.heap.push (zch led)).IsList l items := hl.push _
   obtain ⟨ol, hol, hcl, nl, hdl⟩ := id hl1
   have t1 : Shared.TypeIs { s with heap := s.heap.push (zch led) } (.ref l) "list" := ⟨ol, hol, hcl⟩
   have hsls := PySem.F.sub_list_set
   have hslf := PySem.F.sub_list_frozenset
   have hne : (Value.type "list" == Value.type "dict") = false := by decide
   obtain ⟨ocls, odict, odata, oslots⟩ := ol
   simp only at hcl hdl
   subst hcl hdl
   unfold Builtin.«set.__init__» noKeywords Builtin.Frozenset.updateFrom
   generalize hPI : pyIter = PI
   wp_walk
   subst hPI
   refine wpAny_pyIter_list hl1 (wpAny_bind (wpAny_runValue ?_))
   refine addAll (A := A.in1.in1) (S := s.heap.objs.size) (I := (s.heap.push (zch led)).objs.size) (l := l) (items := items) (by simp [hh]) (by rw [zS]; exact Nat.ne_of_lt (Nat.lt_succ_of_lt lS)) (by rw [zS]; exact Nat.ne_of_lt Yfj) (Nat.ne_of_gt lS) Ph (fun i h h' p k => stay i h h' p fun b o hb q => k b o (by rw [zS]; exact hb) q) (fun i v s1 Q1 E1 hv p k => step _ i v s1 Q1 E1 (by simp [hh]) (by simp only [Around.in1_units]; omega) hv p k) _ 0 _ rfl (Nat.zero_le _) ?_ ?_ ?_
   ·exact ⟨⟨_, Heap.get?_push_size _ rfl, rfl, rfl⟩, hl1.push _⟩
   ·exact base led _ (Heap.get?_push_of_some _ gS) fun b o q => Heap.get?_push_of_some _ (Heap.get?_push_of_some _ q)
   ·intro s' hm ph
    obtain ⟨h', g', d', tk', os'⟩ := s'
    obtain rfl : g' = s.gens := hm.gens
    obtain rfl : d' = s.drawn := hm.drawn
    obtain rfl : os' = s.os := hm.os
    show wpAny _ _ _ _ _ _
    refine wpAny_pure ?_
    show wpAny _ _ (ret Value.none) _ _ _
    refine wpAny_pure ⟨rfl, h', tk', rfl, ph, fun b o q => ?_⟩
    have hb := Heap.lt_size q
    refine hm.heap b o (fun z => ?_) (Heap.get?_push_of_some _ (Heap.get?_push_of_some _ q))
    simp only [List.mem_cons, List.not_mem_nil, or_false, zS] at z
    rcases z with z | z
    ·rw [z] at hb; exact Nat.lt_irrefl _ hb
    ·rw [z] at hb; exact Nat.lt_irrefl _ (Nat.lt_trans Yfj hb)
  ·rcases r₂ with e | fl₂
   ·exact hr₂
   cases fl₂ with
   | ret r =>
    obtain ⟨rfl, h', tk, rfl, ph, k⟩ := hr₂
    repeat (any_goals (first | assumption | wp_step))
    exact hq h' tk ph k
   | _ => exact hr₂.elim
 | _ => exact hr.elim
end
def memK (k : Key) (l : List Key) : Bool := l.any fun j => decide (k = j)
def addK (acc : List Key) (k : Key) : List Key := if memK k acc = true then acc else acc ++ [k]
/-- each once, where it first comes -/
def zcw (ks : List Key) : List Key := ks.foldl addK []
theorem addK_mem {acc : List Key} {k j : Key} : memK j (addK acc k) = (memK j acc || decide (j = k)) := by
 unfold addK
 split
 ·rename_i h
  by_cases e : j = k
  ·subst e
   rw [h, Bool.true_or]
  ·simp [e]
 ·simp [memK]
theorem addK_len {acc : List Key} {k : Key} : (addK acc k).length = if memK k acc = true then acc.length else acc.length + 1 := by
 unfold addK
 split <;> simp
theorem onceK_snoc (ks : List Key) (k : Key) : zcw (ks ++ [k]) = addK (zcw ks) k := by simp [zcw, List.foldl_append]
theorem onceK_le : ∀ (ks acc : List Key), (ks.foldl addK acc).length ≤ acc.length + ks.length
 | [], acc => by simp
 | k :: r, acc => by
  have h := onceK_le r (addK acc k)
  have h2 : (addK acc k).length ≤ acc.length + 1 := by rw [addK_len]; split <;> omega
  simp only [List.foldl_cons, List.length_cons]
  omega
section
variable {X : Cx}
/-- the set behind the first i -/
def PhK (P : Program) (w : World) (S : Addr) (ks : List Key) (i : Nat) (h : Heap) : Prop := h.SetOf (mixKind P w) S (fun k => memK k (zcw (ks.take i))) (zcw (ks.take i)).length
def tLenSetK (K : PySem.W.Frag) (ta : TE) : TE := fun σ H Q => ta σ H fun x H1 => ∃ (l : Addr) (ks : List Key), x = .ref l ∧ SqL K H1 l (ks.map kV) ∧ ks.length ≤ 4000 ∧ Q (.int Yco) H1
theorem pe_lenSetK {a : Expr} {ta : TE} {p p2 q pos : Pos} (hc : X.calm = true) (hg : Gl X "len") (hm : X.mg "len" = none) (hg2 : Gl X "set") (hm2 : X.mg "set" = none) (ha : PE X a ta)
  (na : starEach [a] X.env = (false, eval a X.env) :: starEach [] X.env := by rfl) : PE X Ya4 (tLenSetK X.K ta) := ⟨fun pins s σ H Q I h => by
 refine Call_ (ld_blt I hg hm boot_len (callWith_builtin1 (args_cons (Call_ (ld_blt I hg2 hm2 boot_set (callWith_type1 (args_cons (thn (ha.run pins s σ H _ I h) ?_) na) na rfl))) rfl) rfl rfl))
 rintro v s1 ⟨x, H1, I1, r1, l, ks, rfl, hq, hz, q1⟩
 cases r1
 obtain ⟨its, rv, pl, _⟩ := I1.list hq
 have hn : its.length = ks.length := by rw [← rv.length, List.length_map]
 refine args_nil (call_setL (items := its.toArray) (I1.ok.hd hc) pl.isList (PhK X.prog X.w s1.heap.objs.size ks) ?_ ?_ ?_ ?_)
 ·intro led h g k
  refine ⟨_, #[], 0, _, g, ⟨rfl, rfl, rfl⟩, rfl, (fun e he => by simp at he), (fun k => by simp [zcw, memK]), by simp [scanBound], rfl, ?_⟩
  simp [zcw]
 ·rintro i h h' ⟨o, es, ep, t, ho, r⟩ k
  exact ⟨o, es, ep, t, k _ _ (Nat.ne_of_lt Yfj) ho, r⟩
 ·intro A' i v s2 Q2 E2 hA _ hv ph k
  have hi : i < ks.length := by
   have := (Array.getElem?_eq_some_iff.mp hv).1
   simpa [hn] using this
  have hk : ks.take (i + 1) = ks.take i ++ [ks[i]] := by rw [List.take_succ_eq_append_getElem hi]
  have rv2 : RelV (kV ks[i]) v := by
   obtain ⟨u, e1, e2⟩ := Vals.get rv (i := i) (x := kV ks[i]) (by rw [List.getElem?_map, List.getElem?_eq_getElem hi]; rfl)
   have e3 : its[i]? = some v := by simpa using hv
   rw [e3] at e1
   cases e1
   exact e2
  unfold setAdd
  refine wpAny_holding (wpAny_bind ((mixKind X.prog X.w).pyHash (k := ks[i]) (kV_is rv2) ?_))
  have hroom : (zcw (ks.take i)).length + 1 < scanBound := by
   have := onceK_le (ks.take i) []
   have e : (ks.take i).length ≤ ks.length := by rw [List.length_take]; omega
   simp only [List.length_nil, scanBound] at *
   unfold zcw
   omega
  refine wpAny_setAddHashed_of (knd := mixKind X.prog X.w) (s := { s2 with toks := s2.toks + 1 }) (kV_is rv2) (key_scan rv2) ph hroom fun h' sb hS => ?_
  refine k _ h' _ sb (Nat.le_succ _) ?_
  have e1 : (fun j => memK j (zcw (ks.take i)) || decide (j = ks[i])) = fun j => memK j (zcw (ks.take (i + 1))) := funext fun j => by rw [hk, onceK_snoc, addK_mem]
  have e2 : (if memK ks[i] (zcw (ks.take i)) = true then (zcw (ks.take i)).length else (zcw (ks.take i)).length + 1) = (zcw (ks.take (i + 1))).length := by rw [hk, onceK_snoc, addK_len]
  rw [e1, e2] at hS
  exact hS
 ·intro h' tk ph k
  have I2 : Inv X pins σ H1 { s1 with heap := h', toks := tk } := I1.kept k
  obtain ⟨o, es, ep, t, ho, hex, hd, _, _, hb, hf, hn2⟩ := ph
  rw [List.take_of_length_le (by simp [hn])] at hn2
  exact args_nil (call_len_set ho hex hd hf (by have : es.size < 4096 := hb; omega) ⟨.int Yco, H1, I2.tok _, ⟨_, by rw [hn2]⟩, q1⟩)⟩
end
/-- texts and ints as keys -/
def keysOf : List W → Option (List Key)
 | [] => some []
 | .t (.str x) :: r => (keysOf r).map (Sum.inr x :: ·)
 | .t (.int x) :: r => (keysOf r).map (Sum.inl x :: ·)
 | _ => none
def mLenSet (F : M W) : M W := fun eta hp => (F eta hp).bind fun w h => match (litems h w).bind keysOf with
 | some ks => if ks.length ≤ 4000 then .ok (.t (.int Yco)) h else .bad
 | none => .bad
section
variable {X : Cx} {Wx : WX} {a : Expr} {F : M W} {p p2 q pos : Pos}
theorem keys_rw {K : PySem.W.Frag} {s : S4} : ∀ {ws : List W} {vs : List V} {ks : List Key}, keysOf ws = some ks → RwL K s ws vs → vs = ks.map kV := by
 intro ws
 induction ws with
 | nil =>
  intro vs ks h r
  simp only [keysOf, Option.some.injEq] at h
  subst h
  exact r
 | cons w ws ih =>
  intro vs ks h r
  obtain ⟨v, t, e, a, b⟩ := r
  unfold keysOf at h
  split at h
  ·rename_i e2
   cases e2
  ·rename_i x r' e2
   cases e2
   obtain ⟨zs, h1, h2⟩ := Option.map_eq_some_iff.mp h
   simp only [Rw, Rf] at a
   rw [← h2, e, a, ih h1 b]
   rfl
  ·rename_i x r' e2
   cases e2
   obtain ⟨zs, h1, h2⟩ := Option.map_eq_some_iff.mp h
   simp only [Rw, Rf] at a
   rw [← h2, e, a, ih h1 b]
   rfl
  ·cases h
theorem ie_lenSet (hc : X.calm = true) (hm : X.mg "len" = none) (hm2 : X.mg "set" = none) (ha : IE X Wx a F) (hg : Gl X "len" := by rfl) (hg2 : Gl X "set" := by rfl)
  (na : starEach [a] X.env = (false, eval a X.env) :: starEach [] X.env := by rfl) : IE X Wx Ya4 (mLenSet F) :=
 PE.imp (pe_lenSetK hc hg hm hg2 hm2 ha na) fun σ H Q h =>
  tM.bind1 (R := fun (x : V) (H1 : Hp) => ∃ (l : Addr) (ks : List Key), x = .ref l ∧ SqL X.K H1 l (ks.map kV) ∧ ks.length ≤ 4000 ∧ Q (.int Yco) H1)
   (k := fun (w : W) _ h => match (litems h w).bind keysOf with | some ks => (if ks.length ≤ 4000 then .ok (.t (.int Yco)) h else .bad : Res W) | none => .bad) h fun s eta w v R1 S1 f1 g => by
   split at g
   ·rename_i ks hk
    split at g
    ·rename_i hz
     obtain ⟨ws, h1, h2⟩ := Option.bind_eq_some_iff.mp hk
     obtain ⟨l, xs, e, sq, rl⟩ := litems_sq R1 h1 f1
     subst e
     have ev := keys_rw h2 rl
     subst ev
     exact ⟨l, ks, rfl, sq, hz, g _ s rfl Ye R1 Yd⟩
    ·exact g.elim
   ·exact g.elim
end
section
variable {X : Cx} {Wx : WX} {x : Str} {pos : Pos}
theorem ie_globS {v : Str} {t : Tok} (hm : X.mg x = some (.str v t)) (hg : Gl X x := by rfl) (hd : (x == ("__debug__" : Str)) = false := by decide) : IE X Wx Yf3 (mC (.str v)) :=
 ie_glob hg hm (v := .str v) ⟨_, rfl⟩ Yaf hd
/-- a tuple of texts -/
theorem ie_globT {a : Addr} {o : Obj} {us : List Value} {vs : List Str} {n : Nat} (hm : X.mg x = some (.ref a)) (hl : X.K.lookup a = some o) (hc : o.cls = .type "tuple") (hdn : o.dict = none) (hd : o.data = .seq us.toArray n) (hr : Vals (vs.map V.str) us) (hz : us.length ≤ 1000) (hg : Gl X x := by rfl) (hdb : (x == ("__debug__" : Str)) = false := by decide) : IE X Wx Yf3 (mC (.tup (vs.map T.str))) :=
 ie_glob hg hm (v := .ref a) rfl (fun s => by
  simp only [Rw, Rf]
  exact ⟨a, vs.map V.str, rfl, .inr ⟨o, us.toArray, n, hl, hc, hdn, hd, by rw [sizeLine_eq, List.size_toArray]; omega, by simpa using hr⟩, strs_rf vs⟩) hdb
/-- an own class -/
theorem zbj {c : Str} {C : Addr} (cn : CN X.K c C) (hm : X.mg x = some (.ref C)) (hg : Gl X x := by rfl) (hdb : (x == ("__debug__" : Str)) = false := by decide) : IE X Wx Yf3 (mC (.cls c)) :=
 ie_glob hg hm (v := .ref C) rfl (fun s => by
  simp only [Rw, Rf]
  exact ⟨C, rfl, cn⟩) hdb
/-- a built-in type -/
theorem ie_ty {n : String} (hm : X.mg x = none) (hb : bootBuiltins x = some (.type n)) (hg : Gl X x := by rfl) (hn : x ≠ "__name__" := by decide) (hdb : (x == ("__debug__" : Str)) = false := by decide) : IE X Wx Yf3 (mC (.ty n)) := ⟨fun pins s σ H Q I h => by
 refine ld_blt I hg hm hb ⟨.ty n, H, I, rfl, ?_⟩ hn hdb
 obtain ⟨s0, eta, e1, R1, S1, g⟩ := h
 subst e1
 exact g _ s0 rfl (Aft.refl s0) R1 Yd⟩
end
structure ClsF (K : PySem.W.Frag) (mg : Str → Option Value) (c : Str) (C : Addr) : Prop where
 cn : CN K c C
 mg : mg c = some (.ref C)
 cl : Cls K C
structure XF (P : Program) (w : World) (K : PySem.W.Frag) (mg : Str → Option Value) (base : Heap) (c : Str) (C fI : Addr) (fd : FuncData) (ps : List Str) (fld : Str) : Prop where
 T : OexC K C
 iC : PySem.W.findIn K (.ref C) "__init__" = some (some (.ref fI))
 tI : PySem.W.typeIn K (.ref fI) = some Ydu
 cn : CN K c C
 ok : FnOk P w K mg base Yf 1 fI fd ps (spI C fld)
 hot : L2H.FnH P w K mg base Yf 1 fI fd ps (spI C fld)
 mg : mg c = some (.ref C)
 bd : Binds K fd ps []
 em : PySem.W.exmOne K (.ref C) (.ref C) = some true
def hitC (c : Str) : Str → Option Bool := fun x => if x = c then some true else none
section
variable {P : Program} {w : World} {K : PySem.W.Frag} {mg : Str → Option Value} {base : Heap} {c : Str} {C fI : Addr} {fd : FuncData} {ps : List Str} {fld : Str}
theorem XF.hit (x : XF P w K mg base c C fI fd ps fld) : HitOk K (.ref C) (hitC c) := fun c' C' b h n => by
 unfold hitC at h
 split at h
 ·rename_i e
  cases h
  subst e
  cases n.inj x.cn
  exact x.em
 ·cases h
theorem XF.sub (x : XF P w K mg base c C fI fd ps fld) : ∀ (c' : Str) (C' : Addr), hitC c c' = some true → CN K c' C' → PySem.W.subIn K (.ref C') Ydb = some true := fun c' C' h n => by
 unfold hitC at h
 split at h
 ·rename_i e
  subst e
  cases n.inj x.cn
  exact x.T.exC
 ·cases h
theorem takes_nox {X : Cx} : L2.Takes X.nox W0 := fun u s' x => by
 obtain ⟨_, _, _, _, _, _, _, _, _, _, _, _, _, _, _, _, f⟩ := x
 exact f.elim
end
/-- int(text) -/
def oIntS : OpN := fun ws hp => match ws with
 | [.t (.str a)] => (match PySem.intText? a with | some n => if a.length ≤ 640 then .ok (.t (.int n)) hp else .bad | none => .bad)
 | _ => .bad
theorem ok_intS {K : PySem.W.Frag} {ω : World} {Wx : WX} : OpNOk K ω Wx oIntS (fun xs H Q => ∃ a n, xs = [.str a] ∧ PySem.intText? a = some n ∧ a.length ≤ 640 ∧ Q (.int n) H) := by
 intro s ws xs Q R r go
 unfold oIntS at go
 split at go
 ·obtain ⟨v, e, rv⟩ := RwL.one r
  simp only [Rw, Rf] at rv
  subst rv e
  split at go
  ·rename_i n hn
   split at go
   ·rename_i hz
    exact ⟨_, n, rfl, hn, hz, go _ s rfl Ye R Yd⟩
   ·exact go.elim
  ·exact go.elim
 ·exact go.elim
end Mir
namespace Mir
open PySem PySem.Spec L2
open PyProof.Rows hiding St
end Mir
namespace Mir
open PySem PySem.Spec L2
open PyProof.Rows hiding St
end Mir
namespace Mir
open PySem PySem.Spec L2
open PyProof.Rows hiding St
end Mir
namespace Mir
open PySem PySem.Spec L2
open PyProof.Rows hiding St
section
variable {P : Program} {w : World} {A : Around} {E : Value → Shared → Prop} {s : Shared}
abbrev hK (P : Program) (w : World) (k : List Key) : Int := tupleKeyHash (mixKind P w) k
abbrev IsK (P : Program) (w : World) (h : Heap) (k : List Key) (a : Addr) : Prop := IsTupleKey (mixKind P w) h k a
/-- an int or a text: no class statement of its own, its hash asked for without a step -/
def Leaf (v : Value) : Prop := (∀ n, ofAClassStatement n v = pure false) ∧ ∃ b, ∀ n, hashByValue n v = pure b
theorem leaf_key {k : Key} {v : Value} (h : keyIs k v = true) : Leaf v := by
 rcases keyIs_shape h with ⟨i, t, _, rfl⟩ | ⟨x, t, _, rfl⟩
 ·exact ⟨fun n => by cases n <;> rfl, true, fun n => by cases n <;> rfl⟩
 ·exact ⟨fun n => by cases n <;> rfl, false, fun n => by cases n <;> rfl⟩
theorem leaves {k : List Key} {vs : List Value} (h : ItemsAre (mixKind P w) k vs) : ∀ v ∈ vs, Leaf v := by
 induction h with
 | nil => intro v hv; cases hv
 | cons h1 _ ih =>
  intro v hv
  rcases List.mem_cons.mp hv with rfl | hv
  ·exact leaf_key h1
  ·exact ih v hv
theorem plain_class {k : List Key} {b : Addr} {Q : Bool → Shared → Prop} (hk : IsK P w s.heap k b) (h : Q false s) : wpAny Ycz A (ofAClassStatement 8 (.ref b)) Q E s := by
 have ty := hk.typeIs
 obtain ⟨o, its, n, g, _, dat, it⟩ := hk
 have lv := leaves it
 unfold ofAClassStatement
 refine wpAny_bind (wpAny_typeOf ty ?_)
 have e : (("tuple" : String) == "tuple") = true := by decide
 simp only [e, if_true, Bool.not_true, Bool.false_eq_true, if_false]
 show wpAny _ _ (seqItems? (.ref b) >>= _) _ _ s
 refine wpAny_bind (wpAny_seqItems g dat (wpAny_bind ?_))
 show wpAny _ _ (forIn its _ _) _ _ s
 rw [← Array.forIn_toList]
 refine wpAny_forIn_list _ (fun l r z => r.1 = none ∧ z = s ∧ ∀ v ∈ l, Leaf v) _ ?_ ?_ _ _ ⟨rfl, rfl, lv⟩
 ·rintro v l r z ⟨h1, rfl, all⟩
  rw [(all v List.mem_cons_self).1]
  refine wpAny_bind (wpAny_pure ?_)
  simp only [Bool.false_eq_true, if_false]
  exact wpAny_pure ⟨rfl, rfl, fun u hu => all u Ydk⟩
 ·rintro ⟨r1, r2⟩ z ⟨h1, rfl, _⟩
  cases h1
  exact wpAny_pure h
theorem plain_hash {k : List Key} {b : Addr} {Q : Bool → Shared → Prop} (hk : IsK P w s.heap k b) (h : ∀ b, Q b s) : wpAny Ycz A (hashByValue 8 (.ref b)) Q E s := by
 have ty := hk.typeIs
 obtain ⟨o, its, n, g, _, dat, it⟩ := hk
 have lv := leaves it
 unfold hashByValue
 refine wpAny_bind (wpAny_specialOf ty F.slot_tuple_hash.lookup ?_)
 show wpAny _ _ (seqItems? (.ref b) >>= _) _ _ s
 refine wpAny_bind (wpAny_seqItems g dat (wpAny_bind ?_))
 show wpAny _ _ (forIn its _ _) _ _ s
 rw [← Array.forIn_toList]
 refine wpAny_forIn_list _ (fun l r z => r.1 = none ∧ z = s ∧ ∀ v ∈ l, Leaf v) _ ?_ ?_ _ _ ⟨rfl, rfl, lv⟩
 ·rintro v l r z ⟨h1, rfl, all⟩
  obtain ⟨c, hc⟩ := (all v List.mem_cons_self).2
  rw [hc]
  refine wpAny_bind (wpAny_pure ?_)
  cases c with
  | true =>
   simp only [Bool.not_true, Bool.false_eq_true, if_false]
   exact wpAny_pure ⟨rfl, rfl, fun u hu => all u Ydk⟩
  | false =>
   simp only [Bool.not_false, if_true]
   exact wpAny_pure (wpAny_pure (h false))
 ·rintro ⟨r1, r2⟩ z ⟨h1, rfl, _⟩
  cases h1
  exact wpAny_pure (h true)
/-- looking among such tuples shows nothing of the table -/
theorem unseen {k : List Key} {b : Addr} {Q : Bool → Shared → Prop} (hk : IsK P w s.heap k b) {ys : List Value} (hy : ∀ y ∈ ys, ∃ k' c, y = Value.ref c ∧ IsK P w s.heap k' c) (h : Q false s) :
  wpAny Ycz A (searchCouldBeSeen (.ref b) ys) Q E s := by
 unfold searchCouldBeSeen
 refine wpAny_bind (wpAny_forIn_list _ (fun l r z => r.1 = none ∧ z = s ∧ ∀ y ∈ l, ∃ k' c, y = Value.ref c ∧ IsK P w s.heap k' c) _ ?_ ?_ _ _ ⟨rfl, rfl, hy⟩)
 ·rintro v l r z ⟨h1, rfl, all⟩
  obtain ⟨k', c, rfl, hc⟩ := all v List.mem_cons_self
  have all' := fun u hu => all u Ydk
  dsimp only
  by_cases q : (b == c || (carriedByValue (.ref b) && carriedByValue (.ref c))) = true
  ·exact wp_if_pos q (wpAny_pure ⟨rfl, rfl, all'⟩)
  ·refine wp_if_neg q (wpAny_bind (wpAny_eqIsQuiet_tuple hk ?_))
   simp only [Bool.not_true, Bool.false_eq_true, if_false]
   refine wpAny_bind (wpAny_eqIsQuiet_tuple hc ?_)
   simp only [Bool.not_true, Bool.false_eq_true, if_false]
   refine wpAny_bind (plain_class hk ?_)
   simp only [Bool.false_eq_true, if_false]
   refine wpAny_bind (plain_class hc ?_)
   simp only [Bool.false_eq_true, if_false]
   exact wpAny_pure ⟨rfl, rfl, all'⟩
 ·rintro ⟨r1, r2⟩ z ⟨h1, rfl, _⟩
  cases h1
  exact wpAny_pure h
/-- at a stands the set of the tuples L, with room to spare -/
structure SetM (P : Program) (w : World) (h : Heap) (a : Addr) (L : List Ycg) (es : Array (Int × Value)) (ep : Nat) (t : SetTable) : Prop where
 ob : ∃ o, h.get? a = some o ∧ o.ExactSet ∧ o.data = .set es ep t
 rows : es.toList = L.map fun p => (hK P w p.2, Value.ref p.1)
 tab : TabOk t (L.map fun p => hK P w p.2)
 nd : (L.map (·.2)).Nodup
 tup : ∀ p ∈ L, IsK P w h p.2 p.1
 m7 : t.mask = 7
 few : L.length ≤ 4
variable {a : Addr} {L : List Ycg} {es : Array (Int × Value)} {ep : Nat} {t : SetTable}
theorem SetM.size (R : SetM P w s.heap a L es ep t) : es.size = L.length := by
 rw [← Array.length_toList, R.rows, List.length_map]
theorem SetM.psize (R : SetM P w s.heap a L es ep t) : t.place.size = L.length := by rw [R.tab.sz, List.length_map]
theorem SetM.fits (R : SetM P w s.heap a L es ep t) : t.fits es.size = true := by
 have h1 := R.psize
 have h2 := R.size
 have h3 := R.few
 unfold SetTable.fits SetTable.fill
 rw [R.tab.dm, Bool.and_eq_true, beq_iff_eq, decide_eq_true_eq, R.m7]
 show t.place.size = es.size ∧ t.place.size + 0 ≤ 7
 omega
theorem SetM.at_ (R : SetM P w s.heap a L es ep t) {i : Nat} {p : Addr × List Key} (h : L[i]? = some p) : es[i]? = some (hK P w p.2, Value.ref p.1) := by
 rw [← Array.getElem?_toList, R.rows, List.getElem?_map, h]
 rfl
theorem nth_dummy {m : Nat} : ∀ (n : Nat) (p : SetTable.Probe), p.dummy = none → (nth m p n).dummy = none
 | 0, _, h => h
 | n + 1, p, h => by
  refine nth_dummy n (adv m p) ?_
  unfold adv
  split <;> exact h
/-- the looking for a tuple, from the c-th place of its way on -/
theorem look (R : SetM P w s.heap a L es ep t) {x : Addr} {k : List Key} (hx : IsK P w s.heap k x) (hu : A.units < cLine) {n : Nat} (hn : n < 10 * SetTable.turns t.mask)
  (free : way t.mask Yav n ∉ t.place.toList) (full : ∀ c, c < n → way t.mask Yav c ∈ t.place.toList) {Q : SetFound → Shared → Prop}
  (yes : k ∈ L.map (·.2) → Q (.there none) s) (no : k ∉ L.map (·.2) → Q (.free Yga false) s) :
  ∀ (f c : Nat) (stand : Option SetTable.Probe), stand.getD (t.probeStart Yav) = nth t.mask (runAt t.mask (SetTable.bits Yav % (t.mask + 1)) (SetTable.bits Yav)) c → c ≤ n → n - c < f →
   (∀ (i : Nat) p, L[i]? = some p → p.2 = k → ∃ c', c ≤ c' ∧ c' < n ∧ t.place.toList[i]? = some (way t.mask Yav c')) →
   wpAny Ycz A (setSearchFrom a (.ref x) Yav true f stand) Q E s := by
 intro f
 induction f with
 | zero => intro c stand _ _ h; omega
 | succ f ih =>
  intro c stand st hc hf there
  obtain ⟨o, ho, _, hd⟩ := R.ob
  let W0 : SetTable.Probe := runAt t.mask (SetTable.bits Yav % (t.mask + 1)) (SetTable.bits Yav)
  have step : ∀ q, nth t.mask (nth t.mask W0 c) q = nth t.mask W0 (c + q) := fun q => (nth_add t.mask c _ q).symm
  have jw : ∀ q, (nth t.mask (nth t.mask W0 c) q).j = way t.mask Yav (c + q) := fun q => congrArg SetTable.Probe.j (step q)
  have entry : ∀ (i : Nat) p, L[i]? = some p → (es[i]?.map (·.1)).getD 0 = hK P w p.2 := fun i p hp => by rw [R.at_ hp]; rfl
  have gone : ¬ t.gaveWay = true := by
   unfold SetTable.gaveWay
   rw [mask_odd R.tab.mok]
   decide
  rw [setSearchFrom_succ]
  refine wpAny_bind (wpAny_setState_of ho hd R.fits ?_)
  dsimp only
  refine wp_if_neg gone ?_
  rcases go_spec t R.tab.ris R.tab.dm (fun i => (es[i]?.map (·.1)).getD 0) (hK P w k) (10 * SetTable.turns t.mask) (n - c) (nth t.mask W0 c) (nth_dummy c _ rfl) (by omega)
   (fun q hq => by rw [jw]; exact full (c + q) Ym) (by rw [jw, show c + (n - c) = n by omega]; exact free) with ⟨q, i, hq, hi, _, before, pr⟩ | ⟨before, pr⟩
  ·have pr2 : t.probe (fun i => (es[i]?.map (·.1)).getD 0) Yav (stand.getD (t.probeStart Yav)) = some (.candidate (way t.mask Yav (c + q)) i (nth t.mask W0 (c + (q + 1)))) := by
    rw [st, ← jw, ← step]
    exact pr
   rw [pr2]
   dsimp only
   rw [jw] at hi
   have li : i < L.length := by
    have := (List.getElem?_eq_some_iff.mp hi).1
    rw [Array.length_toList, R.psize] at this
    exact this
   obtain ⟨p, hp⟩ : ∃ p, L[i]? = some p := ⟨L[i], List.getElem?_eq_getElem li⟩
   have mp : p ∈ L := List.mem_of_getElem? hp
   have rest : wpAny Ycz A (searchRest a (.ref x) Yav true f es t (way t.mask Yav (c + q)) i (nth t.mask W0 (c + (q + 1)))) Q E s := by
    unfold searchRest
    rw [R.at_ hp]
    dsimp only
    refine wpAny_bind (wpAny_holding (wpAny_eqBool_tuple hu (R.tup p mp) hx ?_))
    refine wpAny_bind (wpAny_setState_of ho hd R.fits ?_)
    dsimp only
    by_cases same : p.2 = k
    ·refine wp_if_pos (by simp [same]) ?_
     exact wpAny_pure (yes (List.mem_map.mpr ⟨p, mp, same⟩))
    ·have live : t.slot (way t.mask Yav (c + q)) = .live i := slot_live R.tab.ris hi
     refine wp_if_neg (by simp [same]) ?_
     rw [sameMem]
     dsimp only
     simp only [if_true, live, R.at_ hp]
     refine wpAny_bind (wpAny_isSame_ref_self (wpAny_bind (wpAny_pure ?_)))
     simp only [if_true]
     refine wp_if_neg (by simp [same]) ?_
     refine ih (c + (q + 1)) _ rfl Ym Ym fun i0 p0 h0 k0 => ?_
     obtain ⟨c', b1, b2, b3⟩ := there i0 p0 h0 k0
     refine ⟨c', ?_, b2, b3⟩
     rcases Nat.lt_trichotomy c' (c + q) with z | z | z
     ·exact absurd ((entry i0 p0 h0).trans (congrArg (hK P w) k0)) (before (c' - c) i0 Ym (by rw [jw, show c + (c' - c) = c' by omega]; exact b3))
     ·exfalso
      rw [z] at b3
      have e := slot_live R.tab.ris b3
      rw [live] at e
      injection e with e
      rw [← e, hp] at h0
      exact same ((congrArg Prod.snd (Option.some.inj h0)).trans k0)
     ·omega
   by_cases led : t.led = true
   ·exact wp_if_neg (by simp [led]) rest
   ·refine wp_if_pos (by simp [led]) (wpAny_bind (unseen hx (fun y hy => ?_) ?_))
    ·obtain ⟨e, he, rfl⟩ := List.mem_map.mp hy
     have he1 : e ∈ es ∧ e.1 = hK P w k := by simpa using he
     have he2 : e ∈ es.toList := by simpa using he1.1
     rw [R.rows] at he2
     obtain ⟨p2, hp2, rfl⟩ := List.mem_map.mp he2
     exact ⟨p2.2, p2.1, rfl, R.tup p2 hp2⟩
    ·exact wp_if_neg Ybo rest
  ·have pr2 : t.probe (fun i => (es[i]?.map (·.1)).getD 0) Yav (stand.getD (t.probeStart Yav)) = some (.empty Yga none) := by
    have e : way t.mask Yav n = (nth t.mask (nth t.mask W0 c) (n - c)).j := by rw [jw, show c + (n - c) = n by omega]
    rw [st, e]
    exact pr
   rw [pr2]
   dsimp only
   refine wpAny_pure (no fun hm => ?_)
   obtain ⟨p0, m0, k0⟩ := List.mem_map.mp hm
   obtain ⟨i0, h0⟩ := List.mem_iff_getElem?.mp m0
   obtain ⟨c', b1, b2, b3⟩ := there i0 p0 h0 k0
   exact before (c' - c) i0 Ym (by rw [jw, show c + (c' - c) = c' by omega]; exact b3) ((entry i0 p0 h0).trans (congrArg (hK P w) k0))
theorem look_at (R : SetM P w s.heap a L es ep t) {x : Addr} {k : List Key} (hx : IsK P w s.heap k x) (hu : A.units < cLine) {Q : SetFound → Shared → Prop} (yes : k ∈ L.map (·.2) → Q (.there none) s)
  (no : ∀ n, k ∉ L.map (·.2) → way t.mask Yav n ∉ t.place.toList → (∀ c, c < n → way t.mask Yav c ∈ t.place.toList) → Q (.free Yga false) s) :
  wpAny Ycz A (setSearch a (.ref x) Yav true) Q E s := by
 have few := R.few
 obtain ⟨n, hn, free, full⟩ := R.tab.first (by rw [List.length_map, R.m7]; omega) Yav
 have big : n < 100000 := by
  have : 10 * SetTable.turns t.mask ≤ 1420 := by
   unfold SetTable.turns
   rw [R.m7]
   decide
  omega
 unfold setSearch
 refine look R hx hu hn free full yes (fun h => no n h free full) 100000 0 none rfl (Nat.zero_le _) Ym fun i p hp e => ?_
 have hi : (L.map fun p => hK P w p.2)[i]? = some Yav := by rw [List.getElem?_map, hp, ← e]; rfl
 have lt : i < t.place.toList.length := by
  rw [Array.length_toList, R.psize]
  exact (List.getElem?_eq_some_iff.mp hp).1
 obtain ⟨c, hc, e⟩ := R.tab.before free hi (List.getElem?_eq_getElem lt)
 exact ⟨c, Nat.zero_le _, hc, by rw [List.getElem?_eq_getElem lt, e]⟩
end
section
variable {P : Program} {w : World} {A : Around} {E : Value → Shared → Prop} {s : Shared} {a : Addr} {L : List Ycg} {es : Array (Int × Value)} {ep : Nat} {t : SetTable}
theorem isK_but {h h' : Heap} {k : List Key} {b : Addr} {o : Obj} (hb : IsK P w h k b) (ho : h.get? a = some o) (hd : o.data = .set es ep t) (hs : Heap.SameBut a h h') : IsK P w h' k b := by
 obtain ⟨o', its, n, g, c, d, it⟩ := hb
 have ne : b ≠ a := by
  rintro rfl
  rw [ho] at g
  cases g
  rw [hd] at d
  cases d
 exact ⟨o', its, n, (hs.2 b ne).trans g, c, d, it⟩
/-- one more put in -/
theorem add_in (R : SetM P w s.heap a L es ep t) {x : Addr} {k : List Key} (hx : IsK P w s.heap k x) (hu : A.units < cLine) (few : L.length < 4) {Q : Bool → Shared → Prop}
  (hQ : ∀ b h' L' es' ep' t', Heap.SameBut a s.heap h' → SetM P w h' a L' es' ep' t' → (k ∈ L.map (·.2) → L' = L) → (k ∉ L.map (·.2) → L'.Perm ((x, k) :: L)) → Q b { s with heap := h' }) :
  wpAny Ycz A (setAddHashed a (.ref x) Yav) Q E s := by
 obtain ⟨o, ho, hex, hd⟩ := R.ob
 unfold setAddHashed
 refine wpAny_holding ?_
 rw [show (100000 : Nat) = 99999 + 1 from rfl, setAddHashedIn_succ]
 refine wpAny_bind (wpAny_setState_of ho hd R.fits ?_)
 dsimp only
 refine wp_if_neg (by simp [byScan, Value.scannable]) ?_
 refine wpAny_bind (look_at R hx hu (fun hm => ?_) fun n hm free full => ?_)
 ·dsimp only
  exact wpAny_pure (hQ false s.heap L es ep t (Heap.SameBut.refl a s.heap) R (fun _ => rfl) fun z => absurd hm z)
 ·dsimp only
  refine wpAny_bind (wpAny_setState_of ho hd R.fits ?_)
  dsimp only
  obtain ⟨q1, _, q3, q4, _, _, _, _, q9⟩ := R.tab.put free full
  generalize hpt : t.put Yga = pt at q1 q3 q4 q9 ⊢
  obtain ⟨t1, p⟩ := pt
  dsimp only at q1 q3 q4 q9 ⊢
  subst q1
  generalize hj : SetTable.below t.place Yga = j at q3 ⊢
  let L1 := L.take j ++ (x, k) :: L.drop j
  have pm : L1.Perm ((x, k) :: L) := by
   have h : L1.Perm ((x, k) :: (L.take j ++ L.drop j)) := List.perm_middle
   rwa [List.take_append_drop] at h
  have l1 : L1.length = L.length + 1 := pm.length_eq
  have rows1 : (SetTable.insertAt es j (hK P w k, Value.ref x)).toList = L1.map fun p => (hK P w p.2, Value.ref p.1) := by
   rw [SetTable.toList_insertAt, R.rows]
   simp only [L1, List.map_append, List.map_cons, List.map_take, List.map_drop]
  have z1 : (SetTable.insertAt es j (hK P w k, Value.ref x)).size = L.length + 1 := by rw [← Array.length_toList, rows1, List.length_map, l1]
  have tab1 : TabOk t1 (L1.map fun p => hK P w p.2) := by
   have e : L1.map (fun p => hK P w p.2) = (L.map fun p => hK P w p.2).take j ++ hK P w k :: (L.map fun p => hK P w p.2).drop j := by
    simp only [L1, List.map_append, List.map_cons, List.map_take, List.map_drop]
   rw [e]
   exact q3
  have nd1 : (L1.map (·.2)).Nodup := by
   refine (pm.map (·.2)).nodup_iff.mpr ?_
   rw [List.map_cons]
   exact List.nodup_cons.mpr ⟨hm, R.nd⟩
  have fill1 : ¬ (t1.fill * 5 ≥ t1.mask * 3) := by
   rw [q9, q4, R.m7, List.length_map]
   omega
  have go : ∀ t2 : SetTable, t2.place = t1.place → t2.dummies = t1.dummies → t2.mask = t1.mask →
    wpAny Ycz A (do
     storeSet a Yb2 t2
     if !false && t2.tooFull then setRelay a (SetTable.grown (es.size + 1))
     return true) Q E s := fun t2 e1 e2 e3 => by
   refine wpAny_bind (wpAny_storeSet_of ho hd ?_ (by rw [z1, sizeLine_eq]; omega))
   have sb : Heap.SameBut a s.heap (s.heap.update a (Obj.putSet Yb2 t2)) := Heap.SameBut.update ..
   have full1 : t2.tooFull = false := by
    unfold SetTable.tooFull
    rw [decide_eq_false_iff_not]
    have : t2.fill = t1.fill := by unfold SetTable.fill; rw [e1, e2]
    rw [this, e3]
    exact fill1
   have done : ∀ b, Q b { s with heap := s.heap.update a (Obj.putSet Yb2 t2) } := fun b =>
    hQ b _ L1 _ (ep + 1) t2 sb ⟨⟨_, store_at ho hd, ⟨hex.1, hex.2.1, hex.2.2⟩, rfl⟩, rows1, ⟨by rw [e1]; exact tab1.ris, by rw [e2]; exact tab1.dm, by rw [e1]; exact tab1.sz, by rw [e3]; exact tab1.mok, by rw [e1, e3]; exact tab1.bd, by rw [e1, e3]; exact tab1.reach⟩, nd1, fun p hp => (by
     rcases List.mem_cons.mp (pm.mem_iff.mp hp) with rfl | hp
     ·exact isK_but hx ho hd sb
     ·exact isK_but (R.tup p hp) ho hd sb), by rw [e3, q4, R.m7], by rw [l1]; omega⟩ (fun z => absurd z hm) fun _ => pm
   rw [full1]
   first
    | exact wpAny_pure (done true)
    | exact wpAny_bind (wpAny_pure (wpAny_pure (done true)))
    | (simp only [Bool.not_false, Bool.and_false, Bool.false_eq_true, if_false]; exact wpAny_bind (wpAny_pure (wpAny_pure (done true))))
    | (simp only [Bool.not_false, Bool.and_false, Bool.false_eq_true, if_false]; exact wpAny_pure (done true))
  by_cases pl : t1.plain = true
  ·have br : ∀ b : Bool, wpAny Ycz A (do
     storeSet a Yb2 (if b = true then t1 else { t1 with plain := false })
     if !false && (if b = true then t1 else { t1 with plain := false }).tooFull then setRelay a (SetTable.grown (es.size + 1))
     return true) Q E s := fun b => by
    cases b with
    | true => exact go t1 rfl rfl rfl
    | false => exact go { t1 with plain := false } rfl rfl rfl
   first
    | (refine wpAny_bind ?_; refine wp_if_pos pl ?_; refine plain_hash hx ?_; exact br)
    | (refine wp_if_pos pl (wpAny_bind (plain_hash hx ?_)); exact br)
  ·first
    | (refine wpAny_bind ?_; refine wp_if_neg pl ?_; refine wpAny_pure ?_; exact go t1 rfl rfl rfl)
    | (refine wp_if_neg pl ?_; refine wpAny_bind (wpAny_pure ?_); exact go t1 rfl rfl rfl)
    | (refine wp_if_neg pl ?_; exact go t1 rfl rfl rfl)
end
def memT (k : List Key) (l : List (List Key)) : Bool := l.any fun j => decide (j = k)
theorem memT_iff {k : List Key} {l : List (List Key)} : memT k l = true ↔ k ∈ l := by simp [memT]
def onceT (ks : List (List Key)) : List (List Key) := ks.foldl Ygm []
theorem onceT_snoc (ks : List (List Key)) (k : List Key) : onceT (ks ++ [k]) = if memT k (onceT ks) = true then onceT ks else onceT ks ++ [k] := by
 unfold onceT
 rw [List.foldl_append]
 rfl
theorem onceT_le : ∀ (ks acc : List (List Key)), (ks.foldl Ygm acc).length ≤ acc.length + ks.length
 | [], acc => by simp
 | k :: r, acc => by
  have h := onceT_le r (if memT k acc = true then acc else acc ++ [k])
  have h2 : (if memT k acc = true then acc else acc ++ [k]).length ≤ acc.length + 1 := by split <;> simp
  simp only [List.foldl_cons, List.length_cons]
  omega
section
variable {X : Cx}
/-- the set behind the first i of the tuples ents -/
structure PhM (P : Program) (w : World) (S n0 : Addr) (ents : List Ycg) (i : Nat) (h : Heap) : Prop where
 tup : ∀ e ∈ ents, IsK P w h e.2 e.1 ∧ e.1 < n0
 st : ∃ L es ep t, SetM P w h S L es ep t ∧ (∀ p ∈ L, p ∈ ents) ∧ (∀ k, k ∈ L.map (·.2) ↔ k ∈ onceT ((ents.map (·.2)).take i)) ∧ L.length = (onceT ((ents.map (·.2)).take i)).length
def tLenSetM (K : PySem.W.Frag) (ta : TE) : TE := fun σ H Q => ta σ H fun x H1 => ∃ (l : Addr) (es : List Ycg), x = .ref l ∧ SqL K H1 l ((es.map (·.1)).map V.ref) ∧ (∀ e ∈ es, SqT K H1 e.1 (e.2.map kV)) ∧ es.length ≤ 4 ∧ Q (.int (((onceT (es.map (·.2))).length : Nat) : Int)) H1
theorem pe_lenSetM {a : Expr} {ta : TE} {p p2 q pos : Pos} (hc : X.calm = true) (hu : X.A.units + 64 < cLine) (hg : Gl X "len") (hm : X.mg "len" = none) (hg2 : Gl X "set") (hm2 : X.mg "set" = none) (ha : PE X a ta)
  (na : starEach [a] X.env = (false, eval a X.env) :: starEach [] X.env := by rfl) : PE X Ya4 (tLenSetM X.K ta) := ⟨fun pins s σ H Q I h => by
 refine Call_ (ld_blt I hg hm boot_len (callWith_builtin1 (args_cons (Call_ (ld_blt I hg2 hm2 boot_set (callWith_type1 (args_cons (thn (ha.run pins s σ H _ I h) ?_) na) na rfl))) rfl) rfl rfl))
 rintro v s1 ⟨x, H1, I1, r1, l, es, rfl, hq, ht, hz, q1⟩
 cases r1
 obtain ⟨its, rv, pl, _⟩ := I1.list hq
 have ei := refs_at rv
 subst ei
 have tp : ∀ e ∈ es, IsK X.prog X.w s1.heap e.2 e.1 ∧ e.1 < s1.heap.objs.size := fun e he => by
  obtain ⟨us, ru, tu, _⟩ := I1.tuple (ht e he)
  obtain ⟨o, g, c, n, d⟩ := tu
  exact ⟨⟨o, us.toArray, n, g, c, d, by simpa using items_are ru⟩, Heap.lt_size g⟩
 have hn : ((es.map (·.1)).map Value.ref).toArray.size = es.length := by simp
 refine args_nil (call_setL (items := ((es.map (·.1)).map Value.ref).toArray) (I1.ok.hd hc) pl.isList (PhM X.prog X.w s1.heap.objs.size s1.heap.objs.size es) ?_ ?_ ?_ ?_)
 ·intro led h g k
  refine ⟨fun e he => ?_, [], #[], 0, _, ⟨⟨_, g, ⟨rfl, rfl, rfl⟩, rfl⟩, rfl, ⟨List.Pairwise.nil, rfl, rfl, .inl rfl, fun x hx => (by cases hx), fun i h j hi => (by simp at hi)⟩, List.nodup_nil, fun p hp => (by cases hp), rfl, Nat.zero_le _⟩, fun p hp => (by cases hp), fun k => by simp [onceT], by simp [onceT]⟩
  obtain ⟨⟨o, us, n, g1, c, d, it⟩, lt⟩ := tp e he
  exact ⟨⟨o, us, n, k _ _ g1, c, d, it⟩, lt⟩
 ·rintro i h h' ⟨tup, L, e1, ep, t, R, sub, mem, len⟩ k
  have keep : ∀ e ∈ es, IsK X.prog X.w h' e.2 e.1 := fun e he => by
   obtain ⟨⟨o, us, n, g1, c, d, it⟩, lt⟩ := tup e he
   exact ⟨o, us, n, k _ _ (Nat.ne_of_lt (Nat.lt_succ_of_lt lt)) g1, c, d, it⟩
  obtain ⟨o, ho, r⟩ := R.ob
  exact ⟨fun e he => ⟨keep e he, (tup e he).2⟩, L, e1, ep, t, ⟨⟨o, k _ _ (Nat.ne_of_lt Yfj) ho, r⟩, R.rows, R.tab, R.nd, fun p hp => keep p (sub p hp), R.m7, R.few⟩, sub, mem, len⟩
 ·intro A' i v s2 Q2 E2 hA hAu hv ph k
  have hi : i < es.length := by
   have := (Array.getElem?_eq_some_iff.mp hv).1
   rwa [hn] at this
  obtain ⟨tup, L, e1, ep, t, R, sub, mem, len⟩ := ph
  have ev : v = .ref es[i].1 := by
   have e3 : ((es.map (·.1)).map Value.ref)[i]? = some v := by simpa using hv
   rw [List.getElem?_map, List.getElem?_map, List.getElem?_eq_getElem hi] at e3
   exact (Option.some.inj e3).symm
  subst ev
  have me : es[i] ∈ es := List.getElem_mem hi
  have tk : (es.map (·.2)).take (i + 1) = (es.map (·.2)).take i ++ [es[i].2] := by
   rw [List.take_succ, List.getElem?_map, List.getElem?_eq_getElem hi]
   rfl
  have fw : L.length < 4 := by
   have h1 := onceT_le ((es.map (·.2)).take i) []
   have h2 : ((es.map (·.2)).take i).length ≤ i := by rw [List.length_take]; omega
   rw [len]
   simp only [List.length_nil] at h1
   unfold onceT
   omega
  have hu' : A'.units < cLine := by omega
  unfold setAdd
  refine wpAny_holding (wpAny_bind (wpAny_pyHash_tuple (knd := mixKind X.prog X.w) hu' (tup _ me).1 ?_))
  refine add_in (s := { s2 with toks := s2.toks + (es[i].2.length + 1) }) (L := L) R (tup _ me).1 hu' fw fun b h' L' es' ep' t' sb R' same more => ?_
  have keep : ∀ e ∈ es, IsK X.prog X.w h' e.2 e.1 := fun e he => by
   obtain ⟨o, ho, _, hd⟩ := R.ob
   exact isK_but (tup e he).1 ho hd sb
  refine k b h' _ sb (Nat.le_add_right _ _) ⟨fun e he => ⟨keep e he, (tup e he).2⟩, L', es', ep', t', R', ?_⟩
  by_cases hm : es[i].2 ∈ L.map (·.2)
  ·have eL := same hm
   subst eL
   have hm2 := (mem _).mp hm
   rw [tk, onceT_snoc, if_pos (memT_iff.mpr hm2)]
   exact ⟨sub, mem, len⟩
  ·have pm := more hm
   have hm2 : ¬ es[i].2 ∈ onceT ((es.map (·.2)).take i) := fun z => hm ((mem _).mpr z)
   rw [tk, onceT_snoc, if_neg fun z => hm2 (memT_iff.mp z)]
   refine ⟨fun p hp => ?_, fun kk => ?_, by rw [pm.length_eq, List.length_cons, len, List.length_append]; rfl⟩
   ·rcases List.mem_cons.mp (pm.mem_iff.mp hp) with rfl | hp
    ·exact me
    ·exact sub p hp
   ·rw [(pm.map (·.2)).mem_iff, List.map_cons, List.mem_cons, List.mem_append, List.mem_singleton, mem]
    exact Or.comm
 ·intro h' tk ph k
  have I2 : Inv X pins σ H1 { s1 with heap := h', toks := tk } := I1.kept k
  obtain ⟨_, L, e1, ep, t, R, _, _, len⟩ := ph
  obtain ⟨o, ho, hex, hd⟩ := R.ob
  have sz := SetM.size (s := { s1 with heap := h', toks := tk }) R
  have fw := R.few
  rw [hn] at len
  rw [List.take_of_length_le Ycc] at len
  exact args_nil (call_len_set ho hex hd (SetM.fits (s := { s1 with heap := h', toks := tk }) R) Ym ⟨.int (((onceT (es.map (·.2))).length : Nat) : Int), H1, I2.tok _, ⟨_, by rw [sz, len]⟩, q1⟩)⟩
end
def tupsT : List T → Option (List (List Key))
 | [] => some []
 | .tup xs :: r => match keysT xs, tupsT r with
  | some k, some ks => some (k :: ks)
  | _, _ => none
 | _ => none
/-- len(set(tuples)) -/
def mLenSetT (F : M W) : M W := fun eta hp => (F eta hp).bind fun w h => match w with
 | .t (.lst ts) => match tupsT ts with
  | some ks => if ks.length ≤ 4 then .ok (.t (.int (((onceT ks).length : Nat) : Int))) h else .bad
  | none => .bad
 | _ => .bad
section
variable {X : Cx} {Wx : WX} {a : Expr} {F : M W} {p p2 q pos : Pos}
theorem tups_rf {K : PySem.W.Frag} {fz : Addr → Prop} {H : Hp} : ∀ {ts : List T} {vs : List V} {ks : List (List Key)}, tupsT ts = some ks → RfL K fz H ts vs → ∃ es : List Ycg, vs = (es.map (·.1)).map V.ref ∧ es.map (·.2) = ks ∧ ∀ e ∈ es, SqT K H e.1 (e.2.map kV)
 | [], vs, ks, h, r => by
  simp only [tupsT, Option.some.injEq] at h
  simp only [RfL] at r
  exact ⟨[], r, h, fun e he => by simp at he⟩
 | t :: ts, vs, ks, h, r => by
  unfold tupsT at h
  split at h
  ·rename_i e; cases e
  ·rename_i xs r' e
   cases e
   split at h
   ·rename_i k ks' h1 h2
    cases h
    simp only [RfL, Rf] at r
    obtain ⟨v, r', rfl, ⟨b, us, rfl, ft, l⟩, rr⟩ := r
    obtain ⟨es, e1, e2, e3⟩ := tups_rf h2 rr
    have eu := keys_rf h1 l
    subst eu
    refine ⟨(b, k) :: es, by rw [e1]; rfl, by rw [← e2]; rfl, fun e he => ?_⟩
    rcases List.mem_cons.mp he with rfl | he
    ·exact ft.sq
    ·exact e3 e he
   ·cases h
  ·cases h
theorem ie_lenSetT (hc : X.calm = true) (hu : X.A.units + 64 < cLine) (hm : X.mg "len" = none) (hm2 : X.mg "set" = none) (ha : IE X Wx a F) (hg : Gl X "len" := by rfl) (hg2 : Gl X "set" := by rfl)
  (na : starEach [a] X.env = (false, eval a X.env) :: starEach [] X.env := by rfl) : IE X Wx Ya4 (mLenSetT F) :=
 PE.imp (pe_lenSetM hc hu hg hm hg2 hm2 ha na) fun σ H Q h =>
  tM.bind1 (R := fun (x : V) (H1 : Hp) => ∃ (l : Addr) (es : List Ycg), x = .ref l ∧ SqL X.K H1 l ((es.map fun e : Addr × List Key => e.1).map V.ref) ∧ (∀ e ∈ es, SqT X.K H1 e.1 (e.2.map kV)) ∧ es.length ≤ 4 ∧ Q (.int (((onceT (es.map fun e : Addr × List Key => e.2)).length : Nat) : Int)) H1)
   (k := fun (w : W) _ h => match w with | .t (.lst ts) => (match tupsT ts with | some ks => (if ks.length ≤ 4 then .ok (.t (.int (((onceT ks).length : Nat) : Int))) h else .bad : Res W) | none => .bad) | _ => .bad) h fun s eta w v R1 S1 f1 g => by
   split at g
   ·rename_i ts
    split at g
    ·rename_i ks hk
     split at g
     ·rename_i hz
      simp only [Rw, Rf] at f1
      obtain ⟨b, vs, rfl, fl, l⟩ := f1
      obtain ⟨es, e1, e2, e3⟩ := tups_rf hk l
      subst e1
      refine ⟨b, es, rfl, .inl (.inl fl.2), e3, ?_, ?_⟩
      ·rw [← e2, List.length_map] at hz
       exact hz
      ·rw [e2]
       exact g _ s rfl Ye R1 Yd
     ·exact g.elim
    ·exact g.elim
   ·exact g.elim
end
end Mir
namespace Mir
open PySem PySem.Spec L2
open PyProof.Rows hiding St
/-- a tuple or list whose object has no dict -/
def PSq (K : PySem.W.Frag) (fz : Addr → Prop) (H : Hp) : Kd → Addr → List V → Prop
 | .l => fun a xs => SqL K H a xs
 | .t => fun a xs => FTup K fz H a xs
section
variable {X : Cx} {pins : List Ybt} {σ : St} {H : Hp} {s : Shared}
theorem plainT (I : Inv X pins σ H s) {fz : Addr → Prop} {a : Addr} {xs : List V} (h : FTup X.K fz H a xs) : ∃ its : List Value, Vals xs its ∧ PlainSeq "tuple" s.heap a its.toArray ∧ xs.length ≤ sizeLine := by
 obtain ⟨its, rv, tp, hz⟩ := I.tuple h.sq
 refine ⟨its, rv, ?_, hz⟩
 obtain ⟨o, ho, hc, n, hd⟩ := tp
 refine ⟨o, n, ho, hc, ?_, hd⟩
 rcases h with ⟨_, ob, hk, hdn⟩ | ⟨ob, _, _, hk, _, hdn, _⟩
 ·obtain ⟨e1, _⟩ := I.hok a _ hk
  rw [ho] at e1
  cases e1
  exact hdn
 ·have e1 := I.kIn a ob hk
  rw [ho] at e1
  cases e1
  exact hdn
theorem plainQ (I : Inv X pins σ H s) {fz : Addr → Prop} {kd : Kd} {a : Addr} {xs : List V} (h : PSq X.K fz H kd a xs) : ∃ its : List Value, Vals xs its ∧ PlainSeq (match kd with | .l => "list" | .t => "tuple") s.heap a its.toArray ∧ xs.length ≤ sizeLine := by
 cases kd with
 | l =>
  obtain ⟨its, rv, ⟨o, n, h1, h2, h3, h4⟩, hz⟩ := I.list h
  exact ⟨its, rv, ⟨o, n, h1, h2, h3, h4⟩, hz⟩
 | t => exact plainT I h
end
def sqT2 : W → Option (List T)
 | .t (.tup ts) => some ts
 | .t (.lst ts) => some ts
 | _ => none
section
variable {K : PySem.W.Frag} {ω : World} {s : S4}
theorem psq_of (R : Rel K ω s) {w : W} {v : V} {ts : List T} (h : sqT2 w = some ts) (r : Rw K s w v) : ∃ (kd : Kd) (a : Addr) (vs : List V), v = .ref a ∧ PSq K s.fz s.H kd a vs ∧ RfL K s.fz s.H ts vs := by
 unfold sqT2 at h
 split at h
 ·cases h
  obtain ⟨a, vs, e, t, l⟩ : ∃ a vs, v = .ref a ∧ FTup K s.fz s.H a vs ∧ RfL K s.fz s.H ts vs := by simpa only [Rw, Rf] using r
  exact ⟨.t, a, vs, e, t, l⟩
 ·cases h
  obtain ⟨a, vs, e, t, l⟩ : ∃ a vs, v = .ref a ∧ FLst s.fz s.H a vs ∧ RfL K s.fz s.H ts vs := by simpa only [Rw, Rf] using r
  exact ⟨.l, a, vs, e, t.sq, l⟩
 ·cases h
variable {Wx : WX}
end
def rSorted1 (K : PySem.W.Frag) : List V → Hp → VK → Prop := fun vs H Q => ∃ (fz : Addr → Prop) (kd : Kd) (a : Addr) (xs : List V), vs = [V.ref a] ∧ PSq K fz H kd a xs ∧ xs.length ≤ 1 ∧
 ∀ (p : Addr), H p = none → Q (.ref p) (upd H p Ye2)
theorem perm_one {A : Type} {l m : List A} (h : l.Perm m) (z : m.length ≤ 1) : l = m := by
 match m, z with
 | [], _ => exact h.eq_nil
 | [a], _ => exact List.perm_singleton.mp h
theorem cr_sorted1 {X : Cx} : CallR X Ycn (rSorted1 X.K) := by
 intro pins s σ H vs us Q J r h
 obtain ⟨fz, kd, a, xs, rfl, hs, h1, q⟩ := h
 rw [Vals.ref1 r]
 have key : ∀ T : String, (T = "list" ∨ T = "tuple") → (∃ its : List Value, Vals xs its ∧ PlainSeq T s.heap a its.toArray ∧ xs.length ≤ sizeLine) → wpAny Yx X.A (call Ycn [.ref a]) (EP X pins σ Q) X.xe s := fun T hT ⟨its, rv, ⟨o, n, ho, hc, _, hd⟩, hz⟩ => by
  have hl : its.length = xs.length := rv.length.symm
  refine MirS.sorted_seqO SrtO.swo_int hT ho hc hd (by rw [hl]; exact hz) (fun h2 => by omega) fun h2 p out ep g1 g2 lp kp hp => ?_
  have e : out = its := perm_one g2.perm Ym
  subst e
  exact ⟨.ref p, upd H p Ye2, J.laid (t' := s.toks) kp lp ⟨hz, out, ep, rv, hp⟩, rfl, q _ (J.hok.fresh lp)⟩
 cases kd with
 | l => exact key "list" (.inl rfl) (plainQ (kd := .l) J hs)
 | t => exact key "tuple" (.inr rfl) (plainQ (kd := .t) J hs)
def oSort1 : OpN := fun ws hp => match ws with
 | [x] => match sqT2 x with
  | some ts => if ts.length ≤ 1 then .ok Yad hp else .bad
  | none => .bad
 | _ => .bad
theorem ok_sort1 {K : PySem.W.Frag} {ω : World} {Wx : WX} : OpNOk K ω Wx oSort1 (rSorted1 K) := by
 intro s ws xs Q R r go
 unfold oSort1 at go
 split at go
 ·rename_i x
  split at go
  ·rename_i ts ht
   split at go
   ·rename_i hz
    obtain ⟨v, rfl, rx⟩ := RwL.one r
    obtain ⟨kd, a, vs, rfl, q, l⟩ := psq_of R ht rx
    exact ⟨s.fz, kd, a, vs, rfl, q, by rw [← RfL.length l]; exact hz, fun p np => go (.ref p) (s.addF p Yfm) rfl (za0 R np) (za8 R np) (zbq R np l)⟩
   ·exact go.elim
  ·exact go.elim
 ·exact go.elim
end Mir
namespace Mir
open PySem PySem.Spec L2
open PyProof.Rows hiding St
def zcb (x : Str) (i : Int) : PyData := .tuple [.str x, .int i]
theorem pair_lt {x y : Str} {i j : Int} (h : x ≠ y) : PySem.W.dataLt (zcb x i) (zcb y j) = ltCps x.cps.toList y.cps.toList := by
 unfold zcb
 rw [PySem.W.dataLt_tuple, PySem.W.dataLt_all_no (by simp [PySem.W.alike]) (by simp [PyData.eqv, h]), PySem.W.dataLt_str, ltCps_eq]
def prLe (a b : V × PyData) : Bool := PySem.W.dataLe false (fun b : V × PyData => b.2) a b
theorem prLe_eq (a b : V × PyData) : prLe a b = !PySem.W.dataLt b.2 a.2 := rfl
theorem mergeP {a b : V × PyData} (h1 : prLe a b = true) (h2 : prLe b a = false) : [a, b].mergeSort prLe = [a, b] ∧ [b, a].mergeSort prLe = [a, b] := by
 constructor <;> simp [List.mergeSort, List.MergeSort.Internal.splitInTwo, List.merge, h1, h2]
/-- what sorted asks of two pairs -/
def rSortP (K : PySem.W.Frag) : List V → Hp → VK → Prop := fun vs H Q => ∃ (a : Addr) (u v : V) (x y : Str) (i j : Int), vs = [V.ref a] ∧ SqL K H a [u, v] ∧ Dp K H u (zcb x i) ∧ Dp K H v (zcb y j) ∧ x ≠ y ∧
 ∀ p : Addr, H p = none → Q (.ref p) (upd H p (.lst Yw))
theorem ltCps_tot {x y : Str} (h : x ≠ y) (g : ¬ ltCps x.cps.toList y.cps.toList = true) : ltCps y.cps.toList x.cps.toList = true := by
 rw [ltCps_eq, decide_eq_true_eq] at g ⊢
 rcases Std.lt_trichotomy x.cps.toList y.cps.toList with a | a | a
 ·exact absurd a g
 ·exact absurd (Str.ext' (Array.toList_inj.mp a)) h
 ·exact a
theorem ltCps_as {x y : Str} (g : ltCps x.cps.toList y.cps.toList = true) : ltCps y.cps.toList x.cps.toList = false := by
 rw [ltCps_eq, decide_eq_true_eq] at g
 rw [ltCps_eq, decide_eq_false_iff_not]
 exact fun z => absurd (List.lt_trans g z) (List.lt_irrefl _)
theorem each_items0 {h : Heap} : ∀ {bs : List (V × PyData)} {us : List Value}, Vals (bs.map (·.1)) us → (∀ b ∈ bs, ∀ u, RelV b.1 u → ∃ as, Reads h u b.2 as) → PySem.W.EachIs Yew us bs
 | [], _, h, _ => by cases h; exact .nil
 | b :: bs, _, h, k => by cases h with | cons a c => exact .cons ⟨a, k b Yf7 _ a⟩ (each_items0 c fun x hx => k x (List.mem_cons_of_mem _ hx))
theorem items_each0 {h : Heap} : ∀ {us : List Value} {bs : List (V × PyData)}, PySem.W.EachIs Yew us bs → Vals (bs.map (·.1)) us
 | _, _, .nil => .nil
 | _, _, .cons a b => .cons a.1 (items_each0 b)
theorem cr_sortP {X : Cx} (hu : X.A.units + 64 < cLine) : CallR X Ycn (rSortP X.K) := by
 intro pins s σ H vs us Q I r h
 obtain ⟨a, u, v, x, y, i, j, rfl, hs, d1, d2, ne, q⟩ := h
 obtain rfl := Vals.ref1 r
 obtain ⟨its, rv, hl, hz⟩ := I.list hs
 let bs : List (V × PyData) := [(u, zcb x i), (v, zcb y j)]
 have hd : ∀ b ∈ bs, Dp X.K H b.1 b.2 := fun b hb => by
  simp only [bs, List.mem_cons, List.not_mem_nil, or_false] at hb
  rcases hb with rfl | rfl
  ·exact d1
  ·exact d2
 have al : PySem.W.AllAlike (bs.map (·.2)) := fun d hd d' hd' => by
  simp only [bs, List.map_cons, List.map_nil, List.mem_cons, List.not_mem_nil, or_false] at hd hd'
  rcases hd with rfl | rfl <;> rcases hd' with rfl | rfl <;> simp [zcb, PySem.W.alike, PySem.W.alikeAll]
 have so : PySem.W.Sortable (bs.map (·.2)) := .inl fun d hd => by
  simp only [bs, List.map_cons, List.map_nil, List.mem_cons, List.not_mem_nil, or_false] at hd
  rcases hd with rfl | rfl <;> exact ⟨_, _, rfl⟩
 have e0 := each_items0 (h := s.heap) (bs := bs) rv fun b hb u hu => (hd b hb).reads I b.2 b.1 u hu
 have e1 : PySem.W.EachIs Yfr its bs := e0.mono fun _ _ z => z.2
 refine PySem.W.sorted_data (β := V × PyData) (R := fun (v : Value) (b : V × PyData) => RelV b.1 v ∧ ∃ as, Reads s.heap v b.2 as) (enc := fun b => b.2) (bs := bs) hl.isList e0 e1 al so (by simp [bs, sizeLine_eq]) (fun b hb => ?_) fun out hlen er => ?_
 ·have : b.2.depth ≤ 10 := by
   simp only [bs, List.mem_cons, List.not_mem_nil, or_false] at hb
   rcases hb with rfl | rfl <;> simp [zcb, PyData.depth, PyData.depthAll]
  omega
 ·have e : bs.mergeSort (PySem.W.dataLe false fun b : V × PyData => b.2) = if ltCps x.cps.toList y.cps.toList = true then [(u, zcb x i), (v, zcb y j)] else [(v, zcb y j), (u, zcb x i)] := by
   show bs.mergeSort prLe = _
   split
   ·rename_i c
    exact (mergeP (by rw [prLe_eq, pair_lt (Ne.symm ne), ltCps_as c]; rfl) (by rw [prLe_eq, pair_lt ne, c]; rfl)).1
   ·rename_i c
    have c' := ltCps_tot ne c
    exact (mergeP (by rw [prLe_eq, pair_lt ne, ltCps_as c']; rfl) (by rw [prLe_eq, pair_lt (Ne.symm ne), c']; rfl)).2
  rw [e] at er
  have er2 : Vals Yw out := by
   have z := items_each0 er
   split
   ·rename_i c
    rw [if_pos c] at z
    exact z
   ·rename_i c
    rw [if_neg c] at z
    exact z
  have l2 : (if ltCps x.cps.toList y.cps.toList = true then [u, v] else [v, u]).length = 2 := by split <;> rfl
  have old : ∀ b o, s.heap.get? b = some o → (sortedAll s.heap its out.toArray).get? b = some o := fun b o e => sortedAll_old e
  exact ⟨.ref _, upd H Ya1 (.lst Yw), I.laid (t' := s.toks) old (Nat.le_succ _) ⟨by rw [l2, sizeLine_eq]; decide, out, _, er2, (sortedAll_at s.heap its out.toArray).choose_spec⟩, rfl, q _ (I.hok.fresh (Nat.le_succ _))⟩
/-- a pair of a text and an int -/
def siT : T → Option (Str × Int)
 | .tup [.str x, .int i] => some (x, i)
 | _ => none
/-- sorted of at most two pairs -/
def oSortR : OpN := fun ws hp => match ws with
 | [.t (.lst [t, u])] => (match siT t, siT u with
  | some p, some q => if p.1 ≠ q.1 then .ok Yeh hp else .bad
  | _, _ => .bad)
 | ws => oSort1 ws hp
theorem siT_eq {t : T} {p : Str × Int} (h : siT t = some p) : t = .tup [.str p.1, .int p.2] := by
 unfold siT at h
 split at h
 ·cases h
  rfl
 ·cases h
theorem dat_si (p : Str × Int) : dat (.tup [.str p.1, .int p.2]) = zcb p.1 p.2 := by simp [dat, datL, zcb]
theorem dp_si {K : PySem.W.Frag} {ω : World} {s : S4} (R : Rel K ω s) {p : Str × Int} {v : V} (r : Rf K s.fz s.H (.tup [.str p.1, .int p.2]) v) : Dp K s.H v (zcb p.1 p.2) := by
 have := asT_dp (n := 10) (w := .t (.tup [.str p.1, .int p.2])) R rfl r (by simp [fit, fitL])
 rw [dat_si] at this
 exact this
theorem ok_sortR {K : PySem.W.Frag} {ω : World} {Wx : WX} : OpNOk K ω Wx oSortR (fun xs H Q => rSorted1 K xs H Q ∨ rSortP K xs H Q) := by
 intro s ws xs Q R r go
 unfold oSortR at go
 split at go
 ·rename_i t u
  refine .inr ?_
  split at go
  ·rename_i p q hp hq
   split at go
   ·rename_i ne
    obtain ⟨v, rfl, rv⟩ := RwL.one r
    obtain ⟨a, vs, ev, tt, l⟩ : ∃ a vs, v = .ref a ∧ FLst s.fz s.H a vs ∧ RfL K s.fz s.H [t, u] vs := by simpa only [Rw, Rf] using rv
    subst ev
    obtain ⟨v1, r1, e1, f1, l1⟩ := l
    obtain ⟨v2, r2, e2, f2, l2⟩ := l1
    have : r2 = [] := l2
    subst this e2 e1
    have f1' := f1
    have f2' := f2
    rw [siT_eq hp] at f1'
    rw [siT_eq hq] at f2'
    refine ⟨a, v1, v2, p.1, q.1, p.2, q.2, rfl, tt.sq, dp_si R f1', dp_si R f2', ne, fun z nz => ?_⟩
    split
    ·rename_i c
     rw [if_pos c] at go
     exact go (.ref z) (s.addF z (.lst [v1, v2])) rfl (za0 R nz) (za8 R nz) (zbq R nz ⟨v1, [v2], rfl, f1, v2, [], rfl, f2, rfl⟩)
    ·rename_i c
     rw [if_neg c] at go
     exact go (.ref z) (s.addF z (.lst [v2, v1])) rfl (za0 R nz) (za8 R nz) (zbq R nz ⟨v2, [v1], rfl, f2, v1, [], rfl, f1, rfl⟩)
   ·exact go.elim
  ·exact go.elim
 ·exact .inl (ok_sort1 s _ xs Q R r go)
theorem cr_sortR {X : Cx} (hu : X.A.units + 64 < cLine) : CallR X Ycn (fun xs H Q => rSorted1 X.K xs H Q ∨ rSortP X.K xs H Q) := CallR.or cr_sorted1 (cr_sortP hu)
def slL (a : W) (lo hi : Option Int) (hp : IH) : Res W := match litems hp a with
 | some ws => .ok Ycs (hp ++ [some (.lst (cutL ws lo hi))])
 | none => .bad
def mSlL (Fa : M W) (Fl Fh : MO) : M W := fun eta hp => (Fa eta hp).bind fun a h1 => (Fl eta h1).bind fun l h2 => (Fh eta h2).bind fun h h3 => slL a l h h3
end Mir
namespace Mir
open PySem PySem.Spec L2
open PyProof.Rows hiding St
end Mir
namespace Mir
open PySem PySem.Spec L2
open PyProof.Rows hiding St
end Mir
namespace Mir
open PySem PySem.Spec L2
open PyProof.Rows hiding St
/-- the lists that live -/
def LiveL (s : S4) (a : Addr) : Prop := ∃ (i : Nat) (ws : List W), getL s.hp i = some ws ∧ s.rho[i]? = some a
section
variable {K : PySem.W.Frag} {ω : World} {s s2 : S4}
theorem LiveL.live {a : Addr} (h : LiveL s a) : Live s a := by
 obtain ⟨i, ws, g, r⟩ := h
 exact ⟨i, _, ⟨zbv g, True.intro⟩, r⟩
theorem LiveL.H (R : Rel K ω s) {a : Addr} (h : LiveL s a) : ∃ vs, s.H a = some Yfm := by
 obtain ⟨i, ws, g, r⟩ := h
 obtain ⟨vs, e, _⟩ := R.cell i _ a (zbv g) r
 exact ⟨vs, e⟩
theorem Live.some (R : Rel K ω s) {a : Addr} (h : Live s a) : s.H a ≠ none := by
 obtain ⟨i, c, g, r⟩ := h
 exact R.trk a (List.mem_of_getElem? r)
end
end Mir
namespace Mir
open PySem PySem.Spec L2
open PyProof.Rows hiding St
end Mir
namespace Mir
open PySem PySem.Spec L2
open PyProof.Rows hiding St
section
variable {P : Program} {w : World}
/-- the set of the texts ks at a; its table can be walked -/
def SetS (P : Program) (w : World) (h : Heap) (a : Addr) (ks : List Str) : Prop :=
 ks.Nodup ∧ ∃ D : PySem.Froz.SD, h.get? a = some (PySem.Froz.sObj "set" D) ∧ PySem.Froz.TxOk P w D ks ∧ Ris D.2.2.place.toList ∧ (w.params.followText "set-order" = true ∨ D.2.2.led = true)
theorem SetS.at {h h' : Heap} {a : Addr} {ks : List Str} (z : SetS P w h a ks) (k : ∀ o, h.get? a = some o → h'.get? a = some o) : SetS P w h' a ks := by
 obtain ⟨nd, D, g, r⟩ := z
 exact ⟨nd, D, k _ g, r⟩
variable {A : Around} {E : Value → Shared → Prop} {s : Shared}
end
end Mir
namespace Mir
open PySem PySem.Spec L2
open PyProof.Rows hiding St
end Mir
namespace Mir
open PySem PySem.Spec L2
open PyProof.Rows hiding St
end Mir
namespace Mir
open PySem PySem.Spec L2
open PyProof.Rows hiding St
abbrev bare (kvs : List Yd5) : List Ydt := kvs.map fun p => (Str.empty, p.2)
section
variable {K : PySem.W.Frag} {ω : World}
theorem RwK.bare {s : S4} : ∀ {ks : List (Key × W)} {vs : List (Key × V)}, RwK K s ks vs → RwF K s (bare ks) (vs.map fun p => (Str.empty, p.2))
 | [], _, h => by rw [show _ = [] from h]; rfl
 | x :: ks, vs, h => by
  obtain ⟨v, r, rfl, a, b⟩ := h
  exact ⟨v, _, rfl, a, RwK.bare b⟩
end
end Mir
namespace Mir
open PySem PySem.Spec L2
open PyProof.Rows hiding St
end Mir
namespace Mir
open PySem PySem.Spec L2
open PyProof.Rows hiding St
def getT (hp : IH) (i : Nat) : Option (List (T × W)) := match hp[i]? with
 | some (some (.dit kvs)) => some kvs
 | _ => none
def valT (kvs : List (T × W)) (k : NestedKey) : Option W := (kvs.find? fun kv => decide (nkT kv.1 = some k)).map (·.2)
def putT (kvs : List (T × W)) (t : T) (k : NestedKey) (w : W) : List (T × W) :=
 if (kvs.any fun kv => decide (nkT kv.1 = some k)) = true then kvs.map (fun kv => if nkT kv.1 = some k then (kv.1, w) else kv) else kvs ++ [(t, w)]
theorem getT_eq {hp : IH} {i : Nat} {ws : List (T × W)} (h : getT hp i = some ws) : hp[i]? = some (some (.dit ws)) := by
 unfold getT at h
 split at h
 ·rename_i kvs e
  simp only [Option.some.injEq] at h
  rw [e, h]
 ·cases h
/-- what the entries hold at a key -/
def valN (xs : List Y2) (k : NestedKey) : Option V := (xs.find? fun x => decide (x.1 = k)).map (·.2.2)
def putN (xs : List Y2) (k : NestedKey) (a : Addr) (v : V) : List Y2 :=
 if (xs.find? fun x => decide (x.1 = k)).isSome = true then xs.map (fun x => if x.1 = k then (x.1, x.2.1, v) else x) else xs ++ [(k, a, v)]
section
variable {K : PySem.W.Frag} {ω : World} {s : S4}
theorem RwD.length : ∀ {ws : List (T × W)} {vs : List (NestedKey × Addr × V)}, RwD K s ws vs → ws.length = vs.length
 | [], _, r => by rw [show _ = [] from r]; rfl
 | x :: ws, _, r => by
  obtain ⟨k, b, v, r', rfl, _, _, _, _, h⟩ := r
  simp [RwD.length h]
theorem RwD.val (k : NestedKey) : ∀ {ws : List (T × W)} {vs : List (NestedKey × Addr × V)} {w : W}, RwD K s ws vs → valT ws k = some w → ∃ v, valN vs k = some v ∧ Rw K s w v
 | [], _, _, _, h => by simp [valT] at h
 | x :: ws, _, w, r, h => by
  obtain ⟨k', b, v, r', rfl, h1, h2, h3, h4, h5⟩ := r
  by_cases q : k' = k
  ·subst q
   have : x.2 = w := by simpa [valT, List.find?_cons, h1] using h
   exact ⟨v, by simp [valN, List.find?_cons], this ▸ h4⟩
  ·have h' : valT ws k = some w := by simpa [valT, List.find?_cons, h1, q] using h
   obtain ⟨u, e1, e2⟩ := RwD.val k h5 h'
   exact ⟨u, by simpa [valN, List.find?_cons, q] using e1, e2⟩
theorem RwD.no (k : NestedKey) : ∀ {ws : List (T × W)} {vs : List (NestedKey × Addr × V)}, RwD K s ws vs → valT ws k = none → valN vs k = none
 | [], _, r, _ => by rw [show _ = [] from r]; rfl
 | x :: ws, _, r, h => by
  obtain ⟨k', b, v, r', rfl, h1, h2, h3, h4, h5⟩ := r
  by_cases q : k' = k
  ·subst q
   simp [valT, List.find?_cons, h1] at h
  ·have h' : valT ws k = none := by simpa [valT, List.find?_cons, h1, q] using h
   have := RwD.no k h5 h'
   simpa [valN, List.find?_cons, q] using this
theorem RwD.any (k : NestedKey) : ∀ {ws : List (T × W)} {vs : List (NestedKey × Addr × V)}, RwD K s ws vs → (ws.any fun kv => decide (nkT kv.1 = some k)) = (vs.find? fun x => decide (x.1 = k)).isSome
 | [], _, r => by rw [show _ = [] from r]; rfl
 | x :: ws, _, r => by
  obtain ⟨k', b, v, r', rfl, h1, h2, h3, h4, h5⟩ := r
  by_cases q : k' = k
  ·subst q
   simp [h1, List.find?_cons]
  ·simp [h1, List.find?_cons, q, RwD.any k h5]
theorem RwD.mapPut (k : NestedKey) {w : W} {v : V} (rw_ : Rw K s w v) : ∀ {ws : List (T × W)} {vs : List (NestedKey × Addr × V)}, RwD K s ws vs → RwD K s (ws.map fun kv => if nkT kv.1 = some k then (kv.1, w) else kv) (vs.map fun x => if x.1 = k then (x.1, x.2.1, v) else x)
 | [], _, r => by rw [show _ = [] from r]; rfl
 | x :: ws, _, r => by
  obtain ⟨k', b, u, r', rfl, h1, h2, h3, h4, h5⟩ := r
  have ih := RwD.mapPut k rw_ h5
  simp only [List.map_cons, h1, Option.some.injEq]
  by_cases q : k' = k
  ·rw [if_pos q, if_pos q]
   exact ⟨k', b, v, _, rfl, h1, h2, h3, rw_, ih⟩
  ·rw [if_neg q, if_neg q]
   exact ⟨k', b, u, _, rfl, h1, h2, h3, h4, ih⟩
theorem RwD.snoc {t : T} {k : NestedKey} {b : Addr} {w : W} {v : V} (h1 : nkT t = some k) (h2 : k.depth ≤ 8) (h3 : Rf K s.fz s.H t (.ref b)) (h4 : Rw K s w v) : ∀ {ws : List (T × W)} {vs : List (NestedKey × Addr × V)}, RwD K s ws vs → RwD K s (ws ++ [(t, w)]) (vs ++ [(k, b, v)])
 | [], _, r => by
  rw [show _ = [] from r]
  exact ⟨k, b, v, [], rfl, h1, h2, h3, h4, rfl⟩
 | x :: ws, _, r => by
  obtain ⟨k', b', u, r', rfl, g1, g2, g3, g4, g5⟩ := r
  exact ⟨k', b', u, _, rfl, g1, g2, g3, g4, RwD.snoc h1 h2 h3 h4 g5⟩
theorem RwD.put {t : T} {k : NestedKey} {b : Addr} {w : W} {v : V} (h1 : nkT t = some k) (h2 : k.depth ≤ 8) (h3 : Rf K s.fz s.H t (.ref b)) (h4 : Rw K s w v) {ws : List (T × W)} {vs : List Y2} (r : RwD K s ws vs) : RwD K s (putT ws t k w) (putN vs k b v) := by
 unfold putT putN
 rw [r.any k]
 split
 ·exact r.mapPut k h4
 ·exact r.snoc h1 h2 h3 h4
/-- where a live dict lies -/
theorem Rel.dit (R : Rel K ω s) {i : Nat} {v : V} {ws : List (T × W)} (g : getT s.hp i = some ws) (r : Rw K s (.r i) v) : ∃ a xs, v = .ref a ∧ s.rho[i]? = some a ∧ s.H a = some (DitO ω a xs) ∧ RwD K s ws xs ∧ ¬ s.fz a := by
 obtain ⟨a, e1, e2⟩ := r
 obtain ⟨xs, h1, h2⟩ := R.cell i _ a (getT_eq g) e1
 exact ⟨a, xs, e2, e1, h1, h2, R.fz a ⟨i, _, ⟨getT_eq g, True.intro⟩, e1⟩⟩
end
abbrev RelN : List Y2 → List Ya8 → Prop := Paired fun (p : NestedKey × Addr × V) (q : NestedKey × Addr × Value) => p.1 = q.1 ∧ p.2.1 = q.2.1 ∧ RelV p.2.2 q.2.2
theorem RelN.len {xs : List Y2} {ys : List Ya8} (r : RelN xs ys) : xs.length = ys.length := Paired.length r
theorem RelN.val (k : NestedKey) {xs : List Y2} {ys : List Ya8} (r : RelN xs ys) : RelO (valN xs k) ((atKey ys k).map (·.2)) := by
 induction r with
 | nil => exact True.intro
 | @cons p q ps qs h t ih =>
  obtain ⟨h1, h2, h3⟩ := h
  by_cases e : q.1 = k
  ·have e' : p.1 = k := h1.trans e
   simp only [valN, atKey, List.find?_cons, e, e', decide_true, Option.map_some]
   exact h3
  ·have e' : ¬ p.1 = k := fun z => e (h1 ▸ z)
   simp only [valN, atKey, List.find?_cons, e, e', decide_false]
   exact ih
theorem RelN.mapPut (k : NestedKey) {v : V} {u : Value} (rv : RelV v u) {xs : List Y2} {ys : List Ya8} (r : RelN xs ys) : RelN (xs.map fun x => if x.1 = k then (x.1, x.2.1, v) else x) (ys.map (putAt k u)) := by
 induction r with
 | nil => exact .nil
 | @cons p q ps qs h t ih =>
  obtain ⟨h1, h2, h3⟩ := h
  simp only [List.map_cons]
  refine .cons ?_ ih
  unfold putAt
  by_cases e : q.1 = k
  ·rw [if_pos e, if_pos (h1.trans e)]
   exact ⟨h1, h2, rv⟩
  ·rw [if_neg e, if_neg (fun z => e (h1 ▸ z))]
   exact ⟨h1, h2, h3⟩
theorem RelN.snoc {k : NestedKey} {a : Addr} {v : V} {u : Value} (rv : RelV v u) {xs : List Y2} {ys : List Ya8} (r : RelN xs ys) : RelN (xs ++ [(k, a, v)]) (ys ++ [(k, a, u)]) := by
 induction r with
 | nil => exact .cons ⟨rfl, rfl, rv⟩ .nil
 | cons h t ih => exact .cons h ih
theorem RelN.some (k : NestedKey) {xs : List Y2} {ys : List Ya8} (r : RelN xs ys) : (xs.find? fun x => decide (x.1 = k)).isSome = (atKey ys k).isSome := by
 induction r with
 | nil => rfl
 | @cons p q ps qs h t ih =>
  by_cases e : q.1 = k
  ·have e' : p.1 = k := h.1.trans e
   simp [atKey, List.find?_cons, e, e']
  ·have e' : ¬ p.1 = k := fun z => e (h.1 ▸ z)
   simp only [atKey, List.find?_cons, e, e', decide_false] at ih ⊢
   exact ih
theorem RelN.put {k : NestedKey} {a : Addr} {v : V} {u : Value} (rv : RelV v u) {xs : List Y2} {ys : List Ya8} (r : RelN xs ys) : RelN (putN xs k a v) (storedH ys k a u) := by
 unfold putN storedH
 rw [r.some k]
 split
 ·exact r.mapPut k rv
 ·exact r.snoc rv
end Mir
namespace Mir
open PySem PySem.Spec L2
open PyProof.Rows hiding St
section
variable {K : PySem.W.Frag} {ω : World} {s : S4}
theorem RwD.isSome (k : NestedKey) {ws : List (T × W)} {vs : List Y2} (r : RwD K s ws vs) : (valN vs k).isSome = (valT ws k).isSome := by
 cases h : valT ws k with
 | none => rw [r.no k h]; rfl
 | some w => obtain ⟨v, e, _⟩ := r.val k h; rw [e]; rfl
end
end Mir
namespace Mir
open PySem PySem.Spec L2
open PyProof.Rows hiding St
end Mir
namespace Mir
open PySem PySem.Spec L2
open PyProof.Rows hiding St
section
variable {X : Cx} {k : Nat} {f C : Addr} {fd : FuncData} {ps : List Str} {sp : Sp} {E : XK}
theorem str_ins {CX : CXT} {pins : List Ybt} {σ : L2.St} {H : Hp} {s : Shared} {a dx : Addr} {fs : List Ycy} {Q : VK} (I : Inv X pins σ H s) (ea : H a = some (.ins C dx fs)) (hm : Meth X.K C "__str__" f)
  (F : FnG X.prog X.w X.K X.mg X.base CX k f fd ps sp) (hr : Room (k + 2) X.A) (hgd : X.A.guards = some []) (hb : Binds X.K fd ps []) (hx : Passes CX X.nox E)
  (h : sp [.ref a] H (fun z H' => ∃ t : Str, z = .str t ∧ Q z H') E) {E' : Value → Shared → Prop} : wpAny Yx X.A (call Ycu [.ref a]) (EP X pins σ Q) E' s := by
 obtain ⟨mA, O, _, _, _, _⟩ := ins_get I.hok ea
 obtain ⟨od, J, _⟩ := O.look
 have el : ([Value.ref a] ++ []).length = ps.length := F.len _ _ _ _ h
 refine PySem.W.kso_call (K := X.K) (by have := hr.units; show X.A.units + 1 + 1 < cLine; omega) I.kIn J hm.at_ hm.fn ?_
 refine wpAny_call (codeAny_mono (F.run X.A.in1.in1 X.stack s H ⟨[.ref a], []⟩ [.ref a] [.ref a] _ E hr.in1.in1 hgd I.env0.in1.in1 (hb s [.ref a] I.kIn el) (.cons rfl .nil) h) ?_)
 rintro (er | fl) s' q
 ·exact (hx pins σ H s er s' (I.wish _) q).elim
 ·cases fl with
  | ret u =>
   obtain ⟨v, H', I3, rv, t, ev, q3⟩ := I.after q
   subst ev
   obtain ⟨tk, e⟩ := (show ∃ tk, u = Value.str t tk from rv)
   cases e
   exact ⟨V.str t, H', I3, ⟨_, rfl⟩, q3⟩
  | next => exact (show False from q).elim
  | brk => exact (show False from q).elim
  | cont => exact (show False from q).elim
end
/-- str(o): an alternative for each class -/
structure StrAlt (X : Cx) (c : Str) (m : OpN) : Prop where
 ex : ∃ (C f : Addr) (fd : FuncData) (ps : List Str) (k n : Nat), CN X.K c C ∧ Meth X.K C "__str__" f ∧ FnG X.prog X.w X.K X.mg X.base Ycd k f fd ps Yd7 ∧ Room (k + 2) X.A ∧ Binds X.K fd ps [] ∧ ∀ ws hp, ws.length ≠ n → m ws hp = .bad
theorem StrAlt.mk' {X : Cx} {c : Str} {m : OpN} {C f : Addr} {fd : FuncData} {ps : List Str} {k n : Nat} (cn : CN X.K c C) (hm : Meth X.K C "__str__" f) (F : FnG X.prog X.w X.K X.mg X.base Ycd k f fd ps Yd7) (hr : Room (k + 2) X.A) (hb : Binds X.K fd ps []) (hl : ∀ ws hp, ws.length ≠ n → m ws hp = .bad) : StrAlt X c m :=
 ⟨C, f, fd, ps, k, n, cn, hm, F, hr, hb, hl⟩
def AltsOk (X : Cx) : List Yee → Prop
 | [] => True
 | p :: r => StrAlt X p.1 p.2 ∧ AltsOk X r
def oStrO (alts : List Yee) : OpN := fun ws hp => match ws with
 | [o] => (match insOf hp o with
  | some (c, _) => (match alts.find? fun p => decide (p.1 = c) with
   | some p => (noEr (p.2 [o] hp)).bind fun w h2 => (match w with | .t (.str t) => .ok (.t (.str t)) h2 | _ => .bad)
   | none => .bad)
  | none => .bad)
 | _ => .bad
theorem AltsOk.get {X : Cx} : ∀ {alts : List (Str × OpN)} {p : Str × OpN}, AltsOk X alts → p ∈ alts → StrAlt X p.1 p.2
 | [], _, _, h => nomatch h
 | q :: r, p, ok, h => by
  rcases List.mem_cons.mp h with rfl | h
  ·exact ok.1
  ·exact AltsOk.get ok.2 h
def rStrO (X : Cx) (alts : List Yee) : List V → Hp → VK → Prop := fun vs H Q => ∃ (a C dx : Addr) (fs : List Ycy) (p : Str × OpN) (n : Nat), vs = [.ref a] ∧ H a = some (.ins C dx fs) ∧ CN X.K p.1 C ∧ p ∈ alts ∧
 ∀ n, (∀ ws hp, ws.length ≠ n → p.2 ws hp = .bad) → spM X.K X.w p.2 n [.ref a] H (fun z H' => ∃ t : Str, z = .str t ∧ Q z H') E0
theorem cr_strO {X : Cx} {alts : List Yee} (ok : AltsOk X alts) (hgd : X.A.guards = some []) : CallR X Ycu (rStrO X alts) := by
 intro pins s σ H xs us Q I r h
 obtain ⟨a, C, dx, fs, p, _, rfl, ea, cn, hp, hs⟩ := h
 rw [Vals.ref1 r]
 obtain ⟨C', f, fd, ps, k, n, cn', hm, F, hr, hb, hl⟩ := (ok.get hp).ex
 cases cn.inj cn'
 exact str_ins I ea hm F hr hgd hb (passL (X := X.nox)) (hs n hl)
theorem ok_strO {X : Cx} {Wx : WX} {alts : List Yee} : OpNOk X.K X.w Wx (oStrO alts) (rStrO X alts) := by
 intro s ws xs Q R r go
 unfold oStrO at go
 split at go
 ·rename_i o
  split at go
  ·rename_i c fs hi
   split at go
   ·rename_i p hf
    obtain ⟨v, rfl, rx⟩ := RwL.one r
    obtain ⟨a, C, dx, vs, rfl, hH, cn, l⟩ := ins_at R hi rx
    have e : p.1 = c := by simpa using List.find?_some hf
    refine ⟨a, C, dx, vs, p, 0, rfl, hH, e ▸ cn, List.mem_of_find?_eq_some hf, fun n hl => ?_⟩
    refine ⟨s, [o], rfl, R, ⟨.ref a, [], rfl, rx, rfl⟩, ?_, ?_⟩
    ·by_cases q : [o].length = n
     ·exact q
     ·rw [hl _ _ q] at go; exact go.elim
    ·cases hq : p.2 [o] s.hp with
     | ok b h =>
      rw [hq] at go
      intro v' s' e1 e2 e3 e4
      simp only [noEr, Res.bind] at go
      split at go
      ·rename_i t
       have ev : v' = .str t := by simpa only [Rw, Rf] using e4
       exact ⟨t, ev, go v' s' e1 e2 e3 e4⟩
      ·exact go.elim
     | er _ _ _ => rw [hq] at go; exact go.elim
     | bad => rw [hq] at go; exact go.elim
   ·exact go.elim
  ·exact go.elim
 ·exact go.elim
end Mir
namespace Mir
open PySem PySem.Spec L2
open PyProof.Rows hiding St
end Mir
namespace Mir
open PySem PySem.Spec L2
open PyProof.Rows hiding St
end Mir
namespace MirS
open PySem PySem.Spec L2 PySem.W
open PyProof.Rows hiding St
section
variable {prog : Program} {w : World} {A : Around} {E : Value → Shared → Prop} {s : Shared} {β : Type} {bs : List β} {enc : β → PyData} {R : Value → β → Prop}
/-- sorted of a list or a tuple of things that read as data -/
theorem sorted_seqD {l : Addr} {T : String} {o : Obj} {vs : List Value} {n : Nat} {Q : Value → Shared → Prop} (hT : T = "list" ∨ T = "tuple") (ho : s.heap.get? l = some o) (hc : o.cls = .type T) (hd : o.data = .seq vs.toArray n) (hz : vs.length ≤ sizeLine)
  (e : EachIs R vs bs) (er : EachIs (fun v b => ∃ as, Reads s.heap v (enc b) as) vs bs) (hal : AllAlike (bs.map enc)) (hk : Sortable (bs.map enc)) (hu : ∀ b, b ∈ bs → A.units + 2 + (enc b).depth < cLine)
  (h : ∀ (h2 : Heap) (p : Addr) (out : List Value) (ep : Nat), out.length = bs.length → EachIs R out (bs.mergeSort (dataLe false enc)) → s.heap.objs.size ≤ p → (∀ b o, s.heap.get? b = some o → h2.get? b = some o) → h2.get? p = some (seqObj "list" out.toArray ep) → Q (.ref p) { s with heap := h2 }) :
  wpAny Ydx A (call Ycn [.ref l]) Q E s := by
 refine Calls.call_function_entry kind_sorted plain_sorted entry_sorted (args_sorted1 _) ?_
 unfold Builtin.«sorted»
 refine wpAny_bind (m := checkCount "sorted" 1 1 _) (wpAny_pure ?_)
 refine wpAny_bind (collect_sq l hT ho hc hd (fun h1 z1 k1 => ?_) (by rw [List.size_toArray]; exact hz))
 rw [show vs.toArray.toList = vs by simp]
 refine wpAny_bind (wpAny_newList ?_ hz)
 have hoL : (h1.push Yu).get? h1.objs.size = some Yu := Heap.get?_push_size _ rfl
 have lt1 : ∀ b o, s.heap.get? b = some o → b < h1.objs.size := fun b o q => Heap.lt_size (k1 b o q)
 have keep : ∀ b o, s.heap.get? b = some o → b ≠ h1.objs.size ∧ (h1.push Yu).get? b = some o := fun b o q =>
  ⟨Nat.ne_of_lt (lt1 b o q), Heap.get?_push_of_some _ (k1 b o q)⟩
 show wpAny _ _ _ _ _ { s with heap := h1.push Yu }
 have er' : EachIs (fun v b => ∃ as, Reads Yck v (enc b) as) vs bs := er.mono fun _ _ ⟨as, r⟩ => ⟨as, PyProof.Rows.Reads.keeps (fun b o q => sortingHeap_old (keep b o q).1 (keep b o q).2) r⟩
 refine wpAny_bind (wpAny_holding (wpAny_call_entry slot_list_sort ⟨_, hoL, rfl⟩ entry_list_sort (list_sort_vals (κ := dataKind Yck (bs.map enc)) hoL (SortsAt.data (s := { s with heap := sortingHeap (h1.push Yu) h1.objs.size vs }) (each_map (R := fun v d => ∃ as, Reads Yck v d as) enc er') hal hk (bound_map hu)) (by exact hz) ⟨.none, rfl, ?_⟩) (args_list_sort _)))
 obtain ⟨ep, he⟩ := sortedHeap_at (vs := vs) (n := 0) (out := (sortVals (dataKind Yck (bs.map enc)) false vs vs).toArray) hoL
 refine wpAny_pure ⟨_, rfl, h _ h1.objs.size _ ep (by rw [sortVals_length false rfl]; exact e.length) (sortVals_data false e er' hal) z1 (fun b o q => ?_) he⟩
 rw [sortedHeap_old (keep b o q).1 (by rw [size_push']; exact Nat.lt_succ_of_lt (lt1 b o q))]
 exact (keep b o q).2
end
end MirS
namespace Mir
open PySem PySem.Spec L2
open PyProof.Rows hiding St
/-- what sorted asks of a tuple of two pairs -/
def rSortQ (K : PySem.W.Frag) : List V → Hp → VK → Prop := fun vs H Q => ∃ (a : Addr) (u v : V) (x y : Str) (i j : Int), vs = [V.ref a] ∧ SqT K H a [u, v] ∧ Dp K H u (zcb x i) ∧ Dp K H v (zcb y j) ∧ x ≠ y ∧
 ∀ p : Addr, H p = none → Q (.ref p) (upd H p (.lst Yw))
theorem cr_sortQ {X : Cx} (hu : X.A.units + 64 < cLine) : CallR X Ycn (rSortQ X.K) := by
 intro pins s σ H vs us Q I r h
 obtain ⟨a, u, v, x, y, i, j, rfl, hs, d1, d2, ne, q⟩ := h
 obtain rfl := Vals.ref1 r
 obtain ⟨its, rv, hl, hz⟩ := I.tuple hs
 obtain ⟨o, ho, hc, n, hd'⟩ := hl
 have hz' : its.length ≤ sizeLine := by rw [← rv.length]; exact hz
 let bs : List (V × PyData) := [(u, zcb x i), (v, zcb y j)]
 have hd : ∀ b ∈ bs, Dp X.K H b.1 b.2 := fun b hb => by
  simp only [bs, List.mem_cons, List.not_mem_nil, or_false] at hb
  rcases hb with rfl | rfl
  ·exact d1
  ·exact d2
 have al : PySem.W.AllAlike (bs.map (·.2)) := fun d hd d' hd' => by
  simp only [bs, List.map_cons, List.map_nil, List.mem_cons, List.not_mem_nil, or_false] at hd hd'
  rcases hd with rfl | rfl <;> rcases hd' with rfl | rfl <;> simp [zcb, PySem.W.alike, PySem.W.alikeAll]
 have so : PySem.W.Sortable (bs.map (·.2)) := .inl fun d hd => by
  simp only [bs, List.map_cons, List.map_nil, List.mem_cons, List.not_mem_nil, or_false] at hd
  rcases hd with rfl | rfl <;> exact ⟨_, _, rfl⟩
 have e0 := each_items0 (h := s.heap) (bs := bs) rv fun b hb u hu => (hd b hb).reads I b.2 b.1 u hu
 have e1 : PySem.W.EachIs Yfr its bs := e0.mono fun _ _ z => z.2
 refine MirS.sorted_seqD (β := V × PyData) (R := fun (v : Value) (b : V × PyData) => RelV b.1 v ∧ ∃ as, Reads s.heap v b.2 as) (enc := fun b => b.2) (bs := bs) (.inr rfl) ho hc hd' hz' e0 e1 al so (fun b hb => ?_) fun h2 p out ep hlen er lp kp hp => ?_
 ·have : b.2.depth ≤ 10 := by
   simp only [bs, List.mem_cons, List.not_mem_nil, or_false] at hb
   rcases hb with rfl | rfl <;> simp [zcb, PyData.depth, PyData.depthAll]
  omega
 ·have e : bs.mergeSort (PySem.W.dataLe false fun b : V × PyData => b.2) = if ltCps x.cps.toList y.cps.toList = true then [(u, zcb x i), (v, zcb y j)] else [(v, zcb y j), (u, zcb x i)] := by
   show bs.mergeSort prLe = _
   split
   ·rename_i c
    exact (mergeP (by rw [prLe_eq, pair_lt (Ne.symm ne), ltCps_as c]; rfl) (by rw [prLe_eq, pair_lt ne, c]; rfl)).1
   ·rename_i c
    have c' := ltCps_tot ne c
    exact (mergeP (by rw [prLe_eq, pair_lt ne, ltCps_as c']; rfl) (by rw [prLe_eq, pair_lt (Ne.symm ne), c']; rfl)).2
  rw [e] at er
  have er2 : Vals Yw out := by
   have z := items_each0 er
   split
   ·rename_i c
    rw [if_pos c] at z
    exact z
   ·rename_i c
    rw [if_neg c] at z
    exact z
  have l2 : (if ltCps x.cps.toList y.cps.toList = true then [u, v] else [v, u]).length = 2 := by split <;> rfl
  exact ⟨.ref p, upd H p (.lst Yw), I.laid (t' := s.toks) kp lp ⟨by rw [l2, sizeLine_eq]; decide, out, ep, er2, hp⟩, rfl, q _ (I.hok.fresh lp)⟩
/-- sorted of at most two pairs, a list or a tuple -/
def oSortQ : OpN := fun ws hp => match ws with
 | [.t (.tup [t, u])] => (match siT t, siT u with
  | some p, some q => if p.1 ≠ q.1 then .ok Yeh hp else .bad
  | _, _ => .bad)
 | ws => oSortR ws hp
theorem ok_sortQ {K : PySem.W.Frag} {ω : World} {Wx : WX} : OpNOk K ω Wx oSortQ (fun xs H Q => (rSorted1 K xs H Q ∨ rSortP K xs H Q) ∨ rSortQ K xs H Q) := by
 intro s ws xs Q R r go
 unfold oSortQ at go
 split at go
 ·rename_i t u
  refine .inr ?_
  split at go
  ·rename_i p q hp hq
   split at go
   ·rename_i ne
    obtain ⟨v, rfl, rv⟩ := RwL.one r
    obtain ⟨a, vs, ev, tt, l⟩ : ∃ a vs, v = .ref a ∧ FTup K s.fz s.H a vs ∧ RfL K s.fz s.H [t, u] vs := by simpa only [Rw, Rf] using rv
    subst ev
    obtain ⟨v1, r1, e1, f1, l1⟩ := l
    obtain ⟨v2, r2, e2, f2, l2⟩ := l1
    have : r2 = [] := l2
    subst this e2 e1
    have f1' := f1
    have f2' := f2
    rw [siT_eq hp] at f1'
    rw [siT_eq hq] at f2'
    refine ⟨a, v1, v2, p.1, q.1, p.2, q.2, rfl, tt.sq, dp_si R f1', dp_si R f2', ne, fun z nz => ?_⟩
    split
    ·rename_i c
     rw [if_pos c] at go
     exact go (.ref z) (s.addF z (.lst [v1, v2])) rfl (za0 R nz) (za8 R nz) (zbq R nz ⟨v1, [v2], rfl, f1, v2, [], rfl, f2, rfl⟩)
    ·rename_i c
     rw [if_neg c] at go
     exact go (.ref z) (s.addF z (.lst [v2, v1])) rfl (za0 R nz) (za8 R nz) (zbq R nz ⟨v2, [v1], rfl, f2, v1, [], rfl, f1, rfl⟩)
   ·exact go.elim
  ·exact go.elim
 ·exact .inl (ok_sortR s _ xs Q R r go)
theorem cr_sortRQ {X : Cx} (hu : X.A.units + 64 < cLine) : CallR X Ycn (fun xs H Q => (rSorted1 X.K xs H Q ∨ rSortP X.K xs H Q) ∨ rSortQ X.K xs H Q) := CallR.or (cr_sortR hu) (cr_sortQ hu)
end Mir
namespace Mir
open PySem PySem.Spec L2
open PyProof.Rows hiding St
end Mir
namespace Mir
open PySem PySem.Spec L2
open PyProof.Rows hiding St
end Mir
namespace Mir
open PySem PySem.Spec L2
open PyProof.Rows hiding St
/-- o == p: an alternative for each class -/
structure EqAlt (X : Cx) (c : Str) (m : OpN) : Prop where
 ex : ∃ (C f : Addr) (fd : FuncData) (ps : List Str) (k n : Nat), CN X.K c C ∧ Meth X.K C "__eq__" f ∧ FnG X.prog X.w X.K X.mg X.base Ycd k f fd ps Yd7 ∧ Room (k + 2) X.A ∧ Binds X.K fd ps [] ∧ (∀ ws hp, ws.length ≠ n → m ws hp = .bad) ∧
  PySem.W.findIn X.K (.ref C) "__ne__" = some (some (.builtin "object.__ne__")) ∧ PySem.W.mroIn X.K C Yem = some true
theorem EqAlt.mk' {X : Cx} {c : Str} {m : OpN} {C f : Addr} {fd : FuncData} {ps : List Str} {k n : Nat} (cn : CN X.K c C) (hm : Meth X.K C "__eq__" f) (F : FnG X.prog X.w X.K X.mg X.base Ycd k f fd ps Yd7) (hr : Room (k + 2) X.A) (hb : Binds X.K fd ps []) (hl : ∀ ws hp, ws.length ≠ n → m ws hp = .bad)
  (hne : PySem.W.findIn X.K (.ref C) "__ne__" = some (some (.builtin "object.__ne__"))) (ho : PySem.W.mroIn X.K C Yem = some true) : EqAlt X c m :=
 ⟨C, f, fd, ps, k, n, cn, hm, F, hr, hb, hl, hne, ho⟩
def EqAlts (X : Cx) : List Yee → Prop
 | [] => True
 | p :: r => EqAlt X p.1 p.2 ∧ EqAlts X r
theorem EqAlts.get {X : Cx} : ∀ {alts : List (Str × OpN)} {p : Str × OpN}, EqAlts X alts → p ∈ alts → EqAlt X p.1 p.2
 | [], _, _, h => nomatch h
 | q :: r, p, ok, h => by
  rcases List.mem_cons.mp h with rfl | h
  ·exact ok.1
  ·exact EqAlts.get ok.2 h
end Mir
namespace Mir
open PySem PySem.Spec L2
open PyProof.Rows hiding St
end Mir
namespace Mir
open PySem PySem.Spec L2
open PyProof.Rows hiding St
end Mir
namespace Mir
open PySem PySem.Spec L2
open PyProof.Rows hiding St
/-- o == p and o in (..): an alternative for each class -/
structure InAlt (X : Cx) (c : Str) (m : OpN) : Prop where
 ex : ∃ (C f : Addr) (fd : FuncData) (ps : List Str) (k n : Nat), CN X.K c C ∧ Meth X.K C "__eq__" f ∧ FnG X.prog X.w X.K X.mg X.base Ycd k f fd ps Yd7 ∧ Room (k + 4) X.A ∧ Binds X.K fd ps [] ∧ (∀ ws hp, ws.length ≠ n → m ws hp = .bad) ∧
  PySem.W.subIn X.K (.ref C) Ycu = some false ∧ PySem.W.subIn X.K (.ref C) Yce = some false ∧ PySem.W.subIn X.K (.ref C) Yex = some false
theorem InAlt.mk' {X : Cx} {c : Str} {m : OpN} {C f : Addr} {fd : FuncData} {ps : List Str} {k n : Nat} (cn : CN X.K c C) (hm : Meth X.K C "__eq__" f) (F : FnG X.prog X.w X.K X.mg X.base Ycd k f fd ps Yd7) (hr : Room (k + 4) X.A) (hb : Binds X.K fd ps []) (hl : ∀ ws hp, ws.length ≠ n → m ws hp = .bad)
  (h1 : PySem.W.subIn X.K (.ref C) Ycu = some false) (h2 : PySem.W.subIn X.K (.ref C) Yce = some false) (h3 : PySem.W.subIn X.K (.ref C) Yex = some false) : InAlt X c m :=
 ⟨C, f, fd, ps, k, n, cn, hm, F, hr, hb, hl, h1, h2, h3⟩
def InAlts (X : Cx) : List Yee → Prop
 | [] => True
 | p :: r => InAlt X p.1 p.2 ∧ InAlts X r
theorem InAlts.get {X : Cx} : ∀ {alts : List (Str × OpN)} {p : Str × OpN}, InAlts X alts → p ∈ alts → InAlt X p.1 p.2
 | [], _, _, h => nomatch h
 | q :: r, p, ok, h => by
  rcases List.mem_cons.mp h with rfl | h
  ·exact ok.1
  ·exact InAlts.get ok.2 h
end Mir
namespace Mir
open PySem PySem.Spec L2
end Mir
namespace Mir
open PySem PySem.Spec L2
open PyProof.Rows hiding St
end Mir
namespace Mir
open PySem PySem.Spec L2
open PyProof.Rows hiding St
end Mir
namespace Mir
open PySem PySem.Spec L2
open PyProof.Rows hiding St
def getTl (hp : IH) (i : Nat) : Option (List (T × W)) := match hp[i]? with
 | some (some (.dil kvs)) => some kvs
 | _ => none
theorem getTl_eq {hp : IH} {i : Nat} {ws : List (T × W)} (h : getTl hp i = some ws) : hp[i]? = some (some (.dil ws)) := by
 unfold getTl at h
 split at h
 ·rename_i kvs e
  simp only [Option.some.injEq] at h
  rw [e, h]
 ·cases h
theorem Rel.dil {K : PySem.W.Frag} {ω : World} {s : S4} (R : Rel K ω s) {i : Nat} {v : V} {ws : List (T × W)} (g : getTl s.hp i = some ws) (r : Rw K s (.r i) v) : ∃ a ob xs, v = .ref a ∧ s.rho[i]? = some a ∧ s.H a = some (.frz ob (DitO ω a xs)) ∧ RwD K s ws xs ∧ ¬ Live s a := by
 obtain ⟨a, e1, e2⟩ := r
 obtain ⟨ob, xs, h1, h2⟩ := R.cell i _ a (getTl_eq g) e1
 refine ⟨a, ob, xs, e2, e1, h1, h2, ?_⟩
 rintro ⟨j, c, ⟨q1, q2⟩, q3⟩
 have : i = j := (List.getElem?_inj (List.getElem?_eq_some_iff.mp e1).1 R.nd).mp (e1.trans q3.symm)
 subst this
 rw [getTl_eq g] at q1
 cases q1
 exact q2
end Mir
namespace Mir
open PySem PySem.Spec L2
open PyProof.Rows hiding St
end Mir
namespace Mir
open PySem PySem.Spec L2
open PyProof.Rows hiding St
/-- the pairs laid so far -/
structure ZLaid (Rel : Nat → Value → Value → Prop) (lo : Nat) (h : Heap) (as : List Addr) : Prop where
 rise : as.Pairwise (· < ·)
 above : ∀ a ∈ as, lo ≤ a
 pairs : ∀ (j : Nat) (a : Addr), as[j]? = some a → ∃ x y, Rel j x y ∧ IsTupOf2 h a x y
theorem ZLaid.there {Rel : Nat → Value → Value → Prop} {lo : Nat} {h : Heap} {as : List Addr} (g : ZLaid Rel lo h as) {a : Addr} (ha : a ∈ as) : a < h.objs.size := by
 obtain ⟨j, hj⟩ := List.mem_iff_getElem?.mp ha
 obtain ⟨_, _, _, e⟩ := g.pairs j a hj
 exact Heap.lt_size e
end Mir
namespace Mir
open PySem PySem.Spec L2
open PyProof.Rows hiding St
/-- what a suite asks of the class of its exception -/
structure XcF (K : PySem.W.Frag) (C : Addr) : Prop where
 ga : PySem.W.findIn K (.ref C) "__getattribute__" = some (some (.builtin "BaseException.__getattribute__"))
 gg : PySem.W.findIn K (.ref C) "__getattr__" = some none
 exC : PySem.W.subIn K (.ref C) Ydb = some true
 hd : PySem.W.hasDictIn K C = true
 ha : PySem.W.findIn K (.ref C) "__class__" = some (some Y7)
 hn : PySem.W.specialIn K Y7 "__get__" = some Yd8
 ht : PySem.W.takesIn K Y7 = some true
 hm : PySem.W.mroIn K C Yem = some true
theorem XcF.xf {K : PySem.W.Frag} {C : Addr} (x : XcF K C) : L2.XfC K C := ⟨x.ga, x.gg, x.exC, x.hd⟩
theorem XcF.cl {K : PySem.W.Frag} {C : Addr} (x : XcF K C) : (PySem.W.clsIn K C).isSome = true := by
 obtain ⟨cd, hc, _⟩ := PySem.W.any_some x.hd
 rw [hc]; rfl
/-- a reading in a suite: slot i holds the exception, of class c -/
def tXM {A B : Type} (K : PySem.W.Frag) (ω : World) (Fam : S4 → A → B → Prop) (a : Addr) (cls : Value) (d : Option Addr) (i : Nat) (c : Str) (F : Ex → M A) : L2.St → Hp → (B → Hp → Prop) → Prop := fun σ H Q =>
 σ[i]? = some Ye5 ∧ ∃ (ex : Ex) (s : S4) (eta : IS), s.H = H ∧ Rel K ω s ∧ Sl K s eta σ ∧ ex.cls = c ∧ ExR K s ex cls d ∧ Go K ω W0 Fam s (F ex eta s.hp) Q
theorem ExR.aft {K : PySem.W.Frag} {ω : World} {s s' : S4} {e : Ex} {cls : Value} {d : Option Addr} (h : ExR K s e cls d) (A : Aft s s') (R : Rel K ω s) (nl : ∀ x, d = some x → ¬ Live s x) : ExR K s' e cls d := by
 obtain ⟨C, e1, cn, h⟩ := h
 refine ⟨C, e1, cn, ?_⟩
 rcases h with h | ⟨dd, vs, e2, e3, r⟩
 ·exact .inl h
 ·exact .inr ⟨dd, vs, e2, A.keep dd _ e3 (nl dd e2), RwF.aft A R _ _ r⟩
theorem ExR.nl {K : PySem.W.Frag} {ω : World} {s : S4} {e : Ex} {cls : Value} {d : Option Addr} (h : ExR K s e cls d) (R : Rel K ω s) : ∀ x, d = some x → ¬ Live s x := fun x ex l => by
 obtain ⟨C, _, _, h⟩ := h
 rcases h with ⟨_, h⟩ | ⟨dd, vs, e2, e3, _⟩
 ·rw [h] at ex; cases ex
 ·obtain rfl : dd = x := by rw [e2] at ex; exact Option.some.inj ex
  obtain ⟨i, c, ⟨hc, _⟩, hr⟩ := l
  have := R.cell i c dd hc hr
  rw [e3] at this
  cases c with
  | lst ws => obtain ⟨vs, e, _⟩ := this; cases e
  | dic kvs => obtain ⟨vs, e, _⟩ := this; cases e
  | ins c fs => obtain ⟨C, dx, vs, e, _⟩ := this; cases e
  | dit kvs => obtain ⟨vs, e, _⟩ := this; unfold DitO at e; cases e
  | tpl ws => obtain ⟨ob, vs, e, _⟩ := this; cases e
  | dil kvs => obtain ⟨ob, vs, e, _⟩ := this; cases e
  | tab q => obtain ⟨lt, ps, e, _⟩ := this; cases e
section
variable {X : Cx} {a : Addr} {oe : Obj} {cls : Value} {d : Option Addr} {pn : List Ybt} {i : Nat} {c : Str}
theorem tXM.bind1 {A B C D : Type} {K : PySem.W.Frag} {ω : World} {Fam : S4 → A → B → Prop} {Gam : S4 → C → D → Prop} {Fa : Ex → M A} {k : Ex → A → IS → IH → Res C} {σ : L2.St} {H : Hp} {Q : D → Hp → Prop} {R : B → Hp → Prop}
  (h : tXM K ω Gam a cls d i c (fun ex eta hp => (Fa ex eta hp).bind fun a h1 => k ex a eta h1) σ H Q)
  (n : ∀ (ex : Ex) (s : S4) (eta : IS) (x : A) (b : B), Rel K ω s → Sl K s eta σ → ex.cls = c → ExR K s ex cls d → Fam s x b → Go K ω W0 Gam s (k ex x eta s.hp) Q → R b s.H) : tXM K ω Fam a cls d i c Fa σ H R := by
 obtain ⟨e0, ex, s, eta, e1, R1, S1, ec, er, g⟩ := h
 refine ⟨e0, ex, s, eta, e1, R1, S1, ec, er, Go.bind g fun x b s' A' R' f _ g' => n ex s' eta x b R' (S1.aft A' R1) ec (er.aft A' R1 (er.nl R1)) f g'⟩
theorem tXM.of {A B : Type} {K : PySem.W.Frag} {ω : World} {Fam : S4 → A → B → Prop} {F : M A} {σ : L2.St} {H : Hp} {Q : B → Hp → Prop} (h : tXM K ω Fam a cls d i c (fun _ => F) σ H Q) : tM K ω W0 Fam F σ H Q := by
 obtain ⟨e0, ex, s, eta, e1, R1, S1, ec, er, g⟩ := h
 exact ⟨s, eta, e1, R1, S1, g⟩
def XE (X : Cx) (a : Addr) (oe : Obj) (cls : Value) (d : Option Addr) (pn : List Ybt) (i : Nat) (c : Str) (e : Expr) (F : Ex → M W) : Prop := PE Y5 e (tXM X.K X.w (Rw X.K) a cls d i c F)
def XT (X : Cx) (a : Addr) (oe : Obj) (cls : Value) (d : Option Addr) (pn : List Ybt) (i : Nat) (c : Str) (e : Expr) (F : Ex → M Bool) : Prop := PT Y5 e (tXM X.K X.w Yen a cls d i c F)
def XW (X : Cx) (a : Addr) (oe : Obj) (cls : Value) (d : Option Addr) (pn : List Ybt) (i : Nat) (c : Str) (e : Expr) (F : Ex → M Bool) : Prop := PW Y5 e (tXM X.K X.w Yen a cls d i c F)
def XSs (X : Cx) (a : Addr) (oe : Obj) (cls : Value) (d : Option Addr) (pn : List Ybt) (i : Nat) (c : Str) (st : List Stmt) (F : Ex → M Fl) : Prop := PSs Y5 st (fun D σ H => tXM X.K X.w (RFl X.K) a cls d i c F σ H (endQ D))
variable {e e2 e3 : Expr} {es : List Expr} {F G L : Ex → M W} {Fs : Ex → M (List W)} {U V' : Ex → M Bool} {pos p p2 : Pos} {n : Str}
theorem xe_of {F : M W} (h : IE Y5 W0 e F) : XE X a oe cls d pn i c e (fun _ => F) := PE.imp h fun σ H Q h => h.of
/-- e.f -/
def mXF (f : Str) : Ex → M W := fun ex _ hp => match ex.fs.lookup f with
 | some w => .ok w hp
 | none => .bad
theorem xe_fld {C : Addr} {f : Str} (cn : CN X.K c C) (x : XcF X.K C) (hno : PySem.W.findIn X.K (.ref C) f = some none) (hz : Zc cls d oe) (hf : ∃ vs, oe.data = .fields vs)
  (hN : X.N[i]? = some n := by rfl) (hv : Vis X.env.scope n := by first | exact Or.inl rfl | exact Or.inr (Or.inl rfl) | exact Or.inr (Or.inr rfl)) (hd : (n == ("__debug__" : Str)) = false := by decide) (hcd : (n == ("__classdict__" : Str)) = false := by decide)
  (hb : attributeBase (.Name n p) f X.env (eval (.Name n p) X.env) = eval (.Name n p) X.env := by rfl) : XE X a oe cls d pn i c (.Attribute (.Name n p) f pos) (mXF f) :=
 PE.imp (pe_xf (C := C) (d := d) x.xf hno hz hf Ych hb) fun σ H Q h => by
  obtain ⟨e0, ex, s, eta, e1, R1, S1, ec, er, g⟩ := h
  subst e1
  obtain ⟨C', eC, cn', er⟩ := er
  rw [ec] at cn'
  cases cn'.inj cn
  unfold mXF at g
  split at g
  ·rename_i w hw
   rcases er with ⟨z, _⟩ | ⟨dd, vs, ed, eH, rf⟩
   ·rw [z] at hw; simp at hw
   obtain ⟨v, h1, h2⟩ := (RwF.look f rf).1 w hw
   exact ⟨.ref a, e0, rfl, eC, dd, vs, v, ed, eH, h1, g v s rfl Ye R1 h2⟩
  ·exact g.elim
def rIsX (K : PySem.W.Frag) (a C : Addr) (d : Option Addr) : List V → Hp → VK → Prop := fun xs H Q => ∃ (c : V) (cv : Value) (b : Bool), xs = [.ref a, c] ∧ (∀ u, RelV c u → u = cv) ∧ PySem.W.kitOne K (.ref C) cv = some b ∧ (d = none ∨ ∃ dd fs, d = some dd ∧ H dd = some (.xd fs)) ∧ Q (.bl b) H
theorem call_isX {C : Addr} (x : XcF X.K C) (hz : Zc (.ref C) d oe) (hf : ∃ vs, oe.data = .fields vs) : CallR Y5 Yf9 (rIsX X.K a C d) := by
 intro pins s σ H xs us Q I r h
 obtain ⟨c, cv, b, rfl, hcv, e, hd, q⟩ := h
 cases r with
 | cons rx rr =>
  cases rr with
  | cons rt rr =>
   cases rr
   cases rx
   have ec := hcv _ rt
   subst ec
   obtain ⟨hget, _⟩ := I.pin (a, oe) (List.mem_append.mpr (.inl List.mem_cons_self))
   obtain ⟨vs, hv⟩ := hf
   have J : ∃ od, PySem.W.InstAt s.heap a oe C od := by
    rcases hd with hd | ⟨dd, fs, ed, eH⟩
    ·subst hd
     refine ⟨none, ?_⟩
     obtain ⟨oc, od, oda, osl⟩ := oe
     obtain ⟨h1, h2⟩ := hz
     dsimp only at h1 h2 hv
     subst h1 h2 hv
     exact ⟨hget, rfl, rfl, trivial⟩
    ·subst ed
     have hx : ObjOk X.prog X.w H s.heap dd (.xd fs) := I.hok dd _ eH
     obtain ⟨mA, hns, hr⟩ := hx
     obtain ⟨od, ho, hl⟩ := lookIn_ns hns
     exact ⟨some od, hget, hz.1, by unfold PySem.W.notCls; rw [hv] <;> rfl, by rw [hz.2]; exact ho⟩
   obtain ⟨od, J⟩ := J
   exact PySem.W.kia_one (PySem.W.kitx_exc x.cl x.ga x.gg x.exC x.ha x.hn x.ht x.hm) I.kIn J e (fun z => nomatch z) fun tk => ⟨.bl b, H, I.kept (t' := tk) fun _ _ z => z, rfl, q⟩
/-- .. of an exception of class c: the class asked for is an own one or a built-in one -/
theorem xe_isi {C : Addr} {t : T} {ct : CT} {b : Bool} (cn : CN X.K c C) (x : XcF X.K C) (hz : Zc cls d oe) (hf : ∃ vs, oe.data = .fields vs) (hcl : clC t = some ct) (htab : ∀ cv, CVal X.K ct cv → PySem.W.kitOne X.K (.ref C) cv = some b)
  (h2 : IE Y5 W0 e2 (mC t)) (hm : X.mg "isinstance" = none) (hN : X.N[i]? = some n := by rfl) (hv : Vis X.env.scope n := by first | exact Or.inl rfl | exact Or.inr (Or.inl rfl) | exact Or.inr (Or.inr rfl)) (hd : (n == ("__debug__" : Str)) = false := by decide) (hcd : (n == ("__classdict__" : Str)) = false := by decide)
  (hg : Gl Y5 "isinstance" := by rfl)
  (he : starEach [.Name n p, e2] X.env = (false, eval (.Name n p) X.env) :: starEach [e2] X.env := by rfl) (he2 : starEach [e2] X.env = (false, eval e2 X.env) :: starEach [] X.env := by rfl) (hpl : (backTo pos (starEach [e2] X.env)).any (·.1) = false := by rfl) :
  XE X a oe cls d pn i c (.Call (.Name "isinstance" p2) [.Name n p, e2] [] pos) (fun _ => mC (.bl b)) := by
 refine ⟨fun pins s σ H Q I h => ?_⟩
 obtain ⟨e0, ex, s0, eta, e1, R1, S1, ec, er, g⟩ := h
 subst e1
 obtain ⟨C', eC, cn', er'⟩ := id er
 rw [ec] at cn'
 cases cn'.inj cn
 subst eC
 refine (pe_callB (X := X.suite a ((a, oe) :: pn)) (call_isX (d := d) x hz hf) hg hm Yaq (pa_cons Ych (pa_cons h2 pa_nil he2) he) Ybo Ybo he hpl).run pins s σ s0.H Q I ⟨_, e0, s0, eta, rfl, R1, S1, fun v s' q1 q2 q3 q4 => ?_⟩
 obtain ⟨cv, c1, c2⟩ := cl_at hcl (by simpa only [Rw] using q4)
 have hrel : ∀ u, RelV v u → u = cv := fun u hu => by
  cases c2 with
  | ty n => cases hu; rfl
  | own C => cases hu; rfl
 have nl := er.nl R1
 have er2 := er.aft q2 R1 nl
 refine ⟨_, cv, b, rfl, hrel, htab cv c1, ?_, ?_⟩
 ·obtain ⟨_, _, _, h⟩ := er2
  rcases h with ⟨_, h⟩ | ⟨dd, vs, h1, h2, _⟩
  ·exact .inl h
  ·exact .inr ⟨dd, vs, h1, h2⟩
 ·exact Go.aft g q2 (.bl b) s' q1 (Aft.refl s') q3 Yd
theorem zcq (h : XE X a oe cls d pn i c e F) (he : ∀ whole, isTrue e X.env whole = (do let v ← whole; standAt e.pos; holding [v] (truthy v)) := by intro _; rfl) : XT X a oe cls d pn i c e (fun ex => zal asB (F ex)) :=
 PT.imp (pt_val h he) fun σ H Q h => tXM.bind1 (R := fun (x : V) (H1 : Hp) => ∃ c, x = .bl c ∧ Q c H1) (k := fun _ (a : W) _ hp => asB a hp) h fun ex s eta a b R1 _ _ _ f1 g => go_asB R1 f1 g
theorem xt_cond {R : Bool → Hp → Prop} {C D : Type} {Gam : S4 → C → D → Prop} {k : Ex → Bool → IS → IH → Res C} {σ : L2.St} {H : Hp} {Q : D → Hp → Prop}
  (h : tXM X.K X.w Gam a cls d i c (fun ex eta hp => (U ex eta hp).bind fun b h1 => k ex b eta h1) σ H Q) (n : ∀ (ex : Ex) (s : S4) (eta : IS) (b : Bool), Rel X.K X.w s → Sl X.K s eta σ → ex.cls = c → ExR X.K s ex cls d → Go X.K X.w W0 Gam s (k ex b eta s.hp) Q → R b s.H) : tXM X.K X.w Yen a cls d i c U σ H R :=
 tXM.bind1 (R := R) h fun ex s eta a b R1 S1 ec er f1 g => by subst f1; exact n ex s eta a R1 S1 ec er g
theorem XW.t (h : XW X a oe cls d pn i c e U) : XT X a oe cls d pn i c e U := PW.pt h
theorem xw_and1 (ha : XT X a oe cls d pn i c e U) : XW X a oe cls d pn i c (.BoolOp .And [e] pos) U := pw_and1 ha
theorem xw_and {rest : List Expr} (ha : XT X a oe cls d pn i c e U) (hb : XW X a oe cls d pn i c (.BoolOp .And (e2 :: rest) pos) V') : XW X a oe cls d pn i c (.BoolOp .And (e :: e2 :: rest) pos) (fun ex => mAnd (U ex) (V' ex)) :=
 PW.imp (pw_and ha hb) fun σ H Q h => by
  have e0 := h.1
  exact xt_cond (R := fun c1 H1 => if c1 = true then tXM X.K X.w Yen a cls d i c V' σ H1 Q else Q false H1) (k := fun ex a eta h1 => if a then V' ex eta h1 else .ok false h1) h fun ex s eta b R1 S1 ec er g => by
   cases b with
   | true => exact ⟨e0, ex, s, eta, rfl, R1, S1, ec, er, g⟩
   | false => exact g false s rfl Ye R1 rfl
theorem xt_not (ha : XT X a oe cls d pn i c e U) : XT X a oe cls d pn i c (.UnaryOp .Not e pos) (fun ex => mNot (U ex)) :=
 PT.imp (pt_not ha) fun σ H Q h => xt_cond (R := fun c H1 => Q (!c) H1) (k := fun _ a eta h1 => .ok (!a) h1) h fun ex s eta b R1 S1 _ _ g => g (!b) s rfl Ye R1 rfl
theorem xe_if (hc : XT X a oe cls d pn i c e U) (ha : XE X a oe cls d pn i c e2 F) (hb : XE X a oe cls d pn i c e3 G) : XE X a oe cls d pn i c (.IfExp e e2 e3 pos) (fun ex => mIf (U ex) (F ex) (G ex)) :=
 PE.imp (pe_ifExp hc ha hb) fun σ H Q h => by
  have e0 := h.1
  exact xt_cond (R := fun c1 H1 => if c1 = true then tXM X.K X.w (Rw X.K) a cls d i c F σ H1 Q else tXM X.K X.w (Rw X.K) a cls d i c G σ H1 Q) (k := fun ex b eta h1 => if b then F ex eta h1 else G ex eta h1) h fun ex s eta b R1 S1 ec er g => by
   cases b with
   | true => exact ⟨e0, ex, s, eta, rfl, R1, S1, ec, er, g⟩
   | false => exact ⟨e0, ex, s, eta, rfl, R1, S1, ec, er, g⟩
variable {x : Str} {rest suite : List Stmt} {Gs : Ex → M Fl} {j : Nat}
theorem xss_nil : XSs X a oe cls d pn i c [] (fun _ => zbc) := PSs.imp (pss_nil (X := X.suite a ((a, oe) :: pn))) fun D σ H h => by
 obtain ⟨e0, ex, s, eta, e1, R1, S1, ec, er, g⟩ := h
 subst e1
 exact Go.nx R1 S1 g
theorem xss_set (j : Nat) {pos' : Pos} (hij : j ≠ i) (hN : X.N.Nodup) (he : XE X a oe cls d pn i c e F) (hr : XSs X a oe cls d pn i c rest Gs) (hi : X.N[j]? = some x := by rfl) (hx : Loc X.env.scope x := by first | exact Or.inl rfl | exact Or.inr rfl) (hs : swapsWith e (some (.Name x pos')) pos.line X.env = pure false := by rfl) (hf : (X.suite a ((a, oe) :: pn)).fn x = true ∨ X.env.scope.names.lookup x = some .local := by first | exact .inl rfl | exact .inr rfl | assumption) :
  XSs X a oe cls d pn i c (.Assign [.Name x pos'] e pos :: rest) (fun ex => mSeq (mSet j (F ex)) (Gs ex)) := PSs.imp (pss_cons (ps_set (X := X.suite a ((a, oe) :: pn)) hN hi hx he hs hf) hr) fun D σ H h => by
 have e0 := h.1
 have h' : tXM X.K X.w (RFl X.K) a cls d i c (fun ex eta hp => (F ex eta hp).bind fun w h1 => thenF (Gs ex) (Fl.nx (eta.set j (some w))) h1) σ H (endQ D) := by
  obtain ⟨e0, ex, s, eta, e1, R1, S1, ec, er, g⟩ := h
  refine ⟨e0, ex, s, eta, e1, R1, S1, ec, er, ?_⟩
  have : (mSeq (mSet j (F ex)) (Gs ex)) eta s.hp = (F ex eta s.hp).bind fun w h1 => thenF (Gs ex) (Fl.nx (eta.set j (some w))) h1 := by
   show ((F ex eta s.hp).bind _).bind _ = _
   rw [Res.bind_assoc]
   rfl
  have g : Go X.K X.w W0 (RFl X.K) s ((mSeq (mSet j (F ex)) (Gs ex)) eta s.hp) (endQ D) := g
  rw [this] at g
  exact g
 exact tXM.bind1 (R := fun (y : V) (H1 : Hp) => tXM X.K X.w (RFl X.K) a cls d i c Gs (σ.set j (some y)) H1 (endQ D)) (k := fun ex (w : W) eta hp => thenF (Gs ex) (Fl.nx (eta.set j (some w))) hp) h' fun ex s eta w v R1 S1 ec er f1 g =>
  ⟨by rw [List.getElem?_set_ne hij]; exact e0, ex, s, eta.set j (some w), rfl, R1, S1.set j f1, ec, er, g⟩
end
/-- what the clauses wish of an exception of the body -/
def wManyA (K : PySem.W.Frag) (i : Nat) (Wout : WX) (D : Ends) : List Ya2 → WX
 | [] => Wout
 | (c, ts) :: r => fun cls d σ H => ∃ b, PySem.W.exmOne K cls c = some b ∧ (b = true → ∀ a, H a = none → ts a cls d { nx := fun σ' H' => D.nx (σ'.set i none) H', rt := D.rt, bk := fun σ' H' => D.bk (σ'.set i none) H', ct := fun σ' H' => D.ct (σ'.set i none) H' } (σ.set i Ye5) H) ∧ (b = false → wManyA K i Wout D r cls d σ H)
inductive HdsA (X : Cx) (n : Str) : List ExceptHandler → List Ya2 → Prop
 | nil : HdsA X n [] []
 | cons {x : Str} {c : Value} {ts : Addr → Value → Option Addr → TS} {b₀ : Stmt} {suite : List Stmt} {np pos' : Pos} {hds : List ExceptHandler} {l : List (Value × (Addr → Value → Option Addr → TS))} (hc : Names X x c)
   (hsu : ∀ (a : Addr) (oe : Obj) (cls : Value) (d : Option Addr) (pn : List (Addr × Obj)), Zc cls d oe → (∃ vs, oe.data = .fields vs) → PSs Y5 (b₀ :: suite) (ts a cls d)) (r : HdsA X n hds l) :
   HdsA X n Yfa ((c, ts) :: l)
section
variable {X : Cx} {body : List Stmt} {h₀ : ExceptHandler} {hds : List ExceptHandler} {l : List Ya2} {pos : Pos} {tb : WX → TS} {Wout : WX} {i : Nat} {n : Str}
theorem ps_try_manyA (hs : X.stack = X.env :: X.outer) (hf : X.env.frame = some X.env.locals) (hN : X.N.Nodup) (hi : X.N[i]? = some n) (hln : X.env.kindOf n = some .local) (tk : L2.Takes X Wout)
  (hb : ∀ (W : WX) (pn : List (Addr × Obj)) (xe : Value → Shared → Prop), L2.Takes (X.tr pn xe) W → PassesOwn Yx X.A X.env xe → PSs (X.tr pn xe) body (tb W))
  (hh : HdsA X n (h₀ :: hds) l) : PS X (.Try body (h₀ :: hds) [] [] pos) (fun D σ H => tb (wManyA X.K i Wout D l) D σ H) := by
 refine ⟨fun pins s σ H D I h => ?_⟩
 have ok := I.ok
 have hfr : X.A.frames = some (X.env :: X.outer) := by rw [ok.frames, hs]
 have hloc : Loc X.env.scope n := .inl hln
 refine wpAny_Try_except ?_
 refine wpAny_mono ((hb (wManyA X.K i Wout D l) (X.pn ++ pins) (fun e s₁ => wpAny Yx X.A (noteFrame e X.env) (fun _ s₂ => wpAny Yx X.A (setFlight e none) (fun _ s₃ =>
  wpAny Yx X.A (handleBy e X.env (h₀ :: hds)) (SP X pins D) X.xe s₃) X.xe s₂) X.xe s₁) (fun u s' xx => ?_) PassesOwn.looking).run [] s σ H D (I.toTry _) h) (fun f s1 hsp => ?_) (fun e s1 he => he)
 ·obtain ⟨a, B, sI, pins', σ', H', cls, d, rfl, J', nb, up, sky, na, os, ag, w⟩ := xx
  have J : Inv X pins σ' H' sI := J'.ofTry ok
  have sky' : Sky B (X.env :: X.outer) a (Zc cls d) X.env.locals s'.heap := by rw [← hs]; exact sky
  show wpAny Yx X.A (noteFrame (.ref a) X.env) _ _ _
  refine Sky.land Zc.steady hfr hf sky' fun h3 fl3 up3 => ?_
  have J3 : Inv X pins σ' H' { s' with heap := h3 } := J.landed nb fl3.1 (up.trans up3) os ag
  obtain ⟨oe3, vs3, he3, hz3, hd3⟩ := fl3.there
  have notFr : ∀ {h : Heap} {o : Obj} {vs : Array Value}, h.FunFrames B (X.env :: X.outer) → h.get? a = some o → o.data = .fields vs → a ∉ frs (X.env :: X.outer) := fun {h o vs} ff e dd hm => by
   obtain ⟨_, o', e', hnf⟩ := ff.mem hm
   rw [e] at e'; cases e'
   exact hnf _ dd
  have nfr := notFr fl3.2.2.1 he3 hd3
  have nL : a ≠ X.env.locals := fun z => nfr (List.mem_filterMap.mpr ⟨X.env, List.mem_cons_self, by rw [hf, z]⟩)
  have nF : a ∉ X.fs := fun hm => by
   obtain ⟨e, he, q⟩ := List.mem_filterMap.mp hm
   exact nfr (List.mem_filterMap.mpr ⟨e, List.mem_cons_of_mem _ he, q⟩)
  have S3 := J3.suite he3 hd3 na nL nF
  have go : ∀ {hds' : List ExceptHandler} {l' : List (Value × (Addr → Value → Option Addr → TS))}, HdsA X n hds' l' → wManyA X.K i Wout D l' cls d σ' H' →
    wpAny Yx X.A (handleBy (.ref a) X.env hds') (SP X pins D) X.xe { s' with heap := h3 } := by
   intro hds' l' hk
   induction hk with
   | nil =>
    intro w
    refine wpAny_handleBy_nil ?_
    obtain ⟨k1, k2, k3, oe, vs, T, oT, ts', he, hz, hd, h1, hr⟩ := id fl3
    unfold PySem.passOn
    refine wpAny_bind (wpAny_field he hd h1 ?_)
    rw [if_neg (show ¬ ((Value.ref T == Value.none) = true) from by simp)]
    have fin : wpAny Yx X.A (setFlight (.ref a) X.env.frame) (fun _ s4 => wpAny Yx X.A (throw (.ref a) : Sem Flow) (SP X pins D) X.xe s4) X.xe { s' with heap := h3 } := by
     rw [hf]
     refine HandSPX.setFlight_upZ fl3 fun h4 hh4 up4 => wpAny_throw (tk _ _ ?_)
     exact ⟨a, B, sI, pins, σ', H', cls, d, rfl, J, nb, (up.trans up3).trans up4, .inr (.inr (by rw [hs]; exact hh4)), na, os, ag, w⟩
    first
     | exact wpAny_bind (wpAny_pure (wpAny_bind fin))
     | exact wpAny_bind fin
   | @cons x c ts b₀ suite np pos' hds2 l2 hc hsu r ih =>
    intro w
    obtain ⟨b, hb1, hyes, hno⟩ := w
    refine wpAny_handleBy_cons (codeAny_handlers_test ?_) (by intro q; cases q)
    have LT : PySem.W.Looks Yx h3 (typeOf (.ref a)) cls := fun A Q E s k q => wpAny_typeOf_ref (k _ _ he3) (by rw [hz3.1]; exact q)
    have LM := PySem.W.exm_one (M := model X.prog X.w) (J3.kIn) LT hb1
    have test : ∀ {Q : Value → Shared → Prop} {E : Value → Shared → Prop}, Q c { s' with heap := h3 } → wpAny Yx (X.A.mark Ye5) (eval (.Name x np) X.env) Q E { s' with heap := h3 } := fun {Q E} q => by
     obtain ⟨hg, hdbg, hm | ⟨hm, hv, hnn⟩⟩ := hc
     ·exact ld_glob (X := X.suite a ((a, oe3) :: (X.pn ++ pins))) S3 hg hm q hdbg
     ·exact ld_blt (X := X.suite a ((a, oe3) :: (X.pn ++ pins))) S3 hg hm hv q hnn hdbg
    refine test (LM.here ?_)
    cases b with
    | true =>
     refine codeAny_handlers_suite_as ?_
     refine HandSPX.lands_againZ fl3 fun h4 fl4 up4 => ?_
     have J4 : Inv X pins σ' H' { s' with heap := h4 } := J.landed nb fl4.1 ((up.trans up3).trans up4) os ag
     obtain ⟨oe4, vs4, he4, hz4, hd4⟩ := fl4.there
     have S4 := J4.suite he4 hd4 na nL nF
     refine store_ok (X := X.suite a ((a, oe4) :: (X.pn ++ pins))) (v := .ref a) S4 hN hi hloc rfl (fun s5 S5 => ?_) (.inr hln)
     refine wpAny_mono ((hsu a oe4 cls d (X.pn ++ pins) hz4 ⟨_, hd4⟩).run [] s5 _ H' _ S5 (hyes rfl a na)) (fun f s6 hsp => ?_) (fun _ _ z => False.elim z)
     have end_ : ∀ {σ6 : L2.St} {H6 : Hp} {Q : Shared → Prop}, Inv (X.suite a ((a, oe4) :: (X.pn ++ pins))) [] σ6 H6 s6 → (∀ s7, Inv X pins (σ6.set i none) H6 s7 → Q s7) →
       wpAny Yx X.A (do bindName X.env n .none; unbindBehindTheSuite X.env n pos') (fun _ s7 => Q s7) X.xe s6 := fun {σ6 H6 Q} S6 hq => gone_ok (S6.unsuite ok) hN hi hln hq
     cases f with
     | next =>
      obtain ⟨σ6, H6, S6, q6⟩ := hsp
      exact end_ S6 fun s7 J7 => ⟨_, _, J7, q6⟩
     | brk =>
      obtain ⟨σ6, H6, S6, q6⟩ := hsp
      exact end_ S6 fun s7 J7 => ⟨_, _, J7, q6⟩
     | cont =>
      obtain ⟨σ6, H6, S6, q6⟩ := hsp
      exact end_ S6 fun s7 J7 => ⟨_, _, J7, q6⟩
     | ret u =>
      obtain ⟨v6, σ6, H6, S6, r6, q6⟩ := hsp
      exact end_ S6 fun s7 J7 => ⟨_, _, _, J7, r6, q6⟩
    | false =>
     show wpAny _ X.A (handleBy (.ref a) X.env hds2) _ _ _
     exact ih (hno rfl)
  exact go hh w
 ·cases f with
  | next =>
   obtain ⟨σ', H', J', q⟩ := hsp
   exact wpAny_execs_nil ⟨σ', H', J'.ofTry ok, q⟩
  | brk =>
   obtain ⟨σ', H', J', q⟩ := hsp
   exact ⟨σ', H', J'.ofTry ok, q⟩
  | cont =>
   obtain ⟨σ', H', J', q⟩ := hsp
   exact ⟨σ', H', J'.ofTry ok, q⟩
  | ret u =>
   obtain ⟨v, σ', H', J', r, q⟩ := hsp
   exact ⟨v, σ', H', J'.ofTry ok, r, q⟩
end
def unI (i : Nat) : Fl → Fl
 | .nx eta => .nx (eta.set i none)
 | .rt w => .rt w
 | .bk eta => .bk (eta.set i none)
 | .ct eta => .ct (eta.set i none)
/-- clauses: the class whose errors one takes (which other classes it lets by), its suite -/
abbrev Cl := Str × (Str → Option Bool) × (Ex → M Fl)
def clsL (i : Nat) (e : Ex) (eta : IS) (h : IH) : List Cl → Res Fl
 | [] => .er e eta h
 | (c, hit, S) :: r => match hit e.cls with
  | some true => if e.cls = c ∧ i < eta.length then (match S e (eta.set i none) h with | .ok fl h' => .ok (unI i fl) h' | _ => .bad) else .bad
  | some false => clsL i e eta h r
  | none => .bad
inductive ClsA (X : Cx) (n : Str) (i : Nat) : List ExceptHandler → List Cl → List Ya2 → Prop
 | nil : ClsA X n i [] [] []
 | cons {x : Str} {cv : Value} {c : Str} {hit : Str → Option Bool} {S : Ex → M Fl} {b₀ : Stmt} {suite : List Stmt} {np pos' : Pos} {hds : List ExceptHandler} {l : List Cl} {tl : List (Value × (Addr → Value → Option Addr → TS))} (hc : Names X x cv) (ht : HitOk X.K cv hit)
   (hsu : ∀ (a : Addr) (oe : Obj) (cls : Value) (d : Option Addr) (pn : List (Addr × Obj)), Zc cls d oe → (∃ vs, oe.data = .fields vs) → XSs X a oe cls d pn i c (b₀ :: suite) S) (r : ClsA X n i hds l tl) :
   ClsA X n i Yfa ((c, hit, S) :: l) ((cv, fun a cls d => fun D σ H => tXM X.K X.w (RFl X.K) a cls d i c S σ H (endQ D)) :: tl)
theorem ClsA.hds {X : Cx} {n : Str} {i : Nat} : ∀ {hds : List ExceptHandler} {l : List Cl} {tl : List (Value × (Addr → Value → Option Addr → TS))}, ClsA X n i hds l tl → HdsA X n hds tl
 | _, _, _, .nil => .nil
 | _, _, _, .cons hc _ hsu r => .cons hc hsu r.hds
section
variable {X : Cx} {Wx : WX} {n : Str} {i : Nat} {body : List Stmt} {h₀ : ExceptHandler} {hds : List ExceptHandler} {pos : Pos} {B : M Fl} {l : List Cl} {tl : List Ya2}
theorem cls_go {D : Ends} {s s' : S4} {e : Ex} {eta : IS} {σ : L2.St} {h : IH} {cls : Value} {d : Option Addr} (h1 : s'.hp = h) (h2 : Aft s s') (h3 : Rel X.K X.w s') (h4 : Sl X.K s' eta σ) (h5 : ExR X.K s' e cls d) :
  ∀ {hds : List ExceptHandler} {l : List Cl} {tl : List (Value × (Addr → Value → Option Addr → TS))}, ClsA X n i hds l tl → Go X.K X.w Wx (RFl X.K) s (clsL i e eta h l) (endQ D) → wManyA X.K i Wx D tl cls d σ s'.H := by
 intro hds l tl k
 induction k with
 | nil => exact fun g => g s' σ cls d h1 h2 h3 h4 h5
 | @cons x cv c hit S b₀ suite np pos' hds l tl hc ht hsu r ih =>
  intro g
  obtain ⟨C, ec, cn, _⟩ := id h5
  unfold clsL at g
  split at g
  ·rename_i hh
   split at g
   ·rename_i hlt
    refine ⟨true, by rw [ec]; exact ht _ _ _ hh cn, fun _ a na => ⟨by rw [List.getElem?_set_self (by rw [← h4.1]; exact hlt.2)], e, s', eta.set i none, rfl, h3, h4.unset i _, hlt.1, h5, ?_⟩, fun z => by cases z⟩
    rw [h1]
    cases hS : S e (eta.set i none) h with
    | er _ _ _ => rw [hS] at g; exact g.elim
    | bad => rw [hS] at g; exact g.elim
    | ok fl h' =>
     rw [hS] at g
     intro fv s2 q1 q2 q3 q4
     cases fl with
     | nx eta2 =>
      cases fv with
      | nx o => exact g (.nx (o.set i none)) s2 q1 (h2.trans q2) q3 (Sl.unset q4 i none)
      | rt _ => exact q4.elim
      | bk _ => exact q4.elim
      | ct _ => exact q4.elim
     | rt w =>
      cases fv with
      | rt v => exact g (.rt v) s2 q1 (h2.trans q2) q3 q4
      | nx _ => exact q4.elim
      | bk _ => exact q4.elim
      | ct _ => exact q4.elim
     | bk eta2 =>
      cases fv with
      | bk o => exact g (.bk (o.set i none)) s2 q1 (h2.trans q2) q3 (Sl.unset q4 i none)
      | rt _ => exact q4.elim
      | nx _ => exact q4.elim
      | ct _ => exact q4.elim
     | ct eta2 =>
      cases fv with
      | ct o => exact g (.ct (o.set i none)) s2 q1 (h2.trans q2) q3 (Sl.unset q4 i none)
      | rt _ => exact q4.elim
      | bk _ => exact q4.elim
      | nx _ => exact q4.elim
   ·exact g.elim
  ·rename_i hh
   exact ⟨false, by rw [ec]; exact ht _ _ _ hh cn, fun z => (by cases z), fun _ => ih g⟩
  ·exact g.elim
end
section
variable {K : PySem.W.Frag} {C D : Addr} {b : Bool} {c t o : Str} {n : String}
theorem zbp (nX : CN K t D) (kt : PySem.W.kitOne K (.ref C) (.ref D) = some b) : ∀ cv, CVal K (.inr t) cv → PySem.W.kitOne K (.ref C) cv = some b := fun cv ⟨C', e, n⟩ => by
 subst e
 cases n.inj nX
 exact kt
theorem kt_ofb {t : Value} (hd : PySem.W.hasDictIn K C = true) (ty : PySem.W.typeIn K (.ref C) = some Ydy) (s : PySem.W.subIn K t (.ref C) = some b) (ne : (t == .ref C) = false) : PySem.W.kitOne K t (.ref C) = some b := by
 obtain ⟨cd, hc, _⟩ := PySem.W.any_some hd
 unfold PySem.W.kitOne
 rw [ne, if_neg Ybo]
 show (if _ then _ else _) = _
 rw [if_pos (by rw [hc, ty]; rfl)]
 exact s
theorem kt_tyb {T : String} (hm : PySem.W.kitMeta T = true) (s : PySem.W.subIn K (.ref C) (.type T) = some b) : PySem.W.kitOne K (.ref C) (.type T) = some b := by
 unfold PySem.W.kitOne
 rw [show ((Value.ref C) == .type T) = false from rfl, if_neg Ybo]
 exact (if_pos hm).trans s
theorem ne_ofb (h : C ≠ D) : ((Value.ref C) == .ref D) = false := Bool.eq_false_iff.mpr fun q => h (Value.ref.inj (beq_iff_eq.mp q))
end
end Mir
namespace Mir
open PySem PySem.Spec L2
open PyProof.Rows hiding St
section
variable {P : Program} {w : World} {A : Around} {E : Value → Shared → Prop} {s : Shared}
/-- at a stands the set of the tuples L, with room to spare -/
structure SetGr (P : Program) (w : World) (h : Heap) (a : Addr) (L : List Ycg) (es : Array (Int × Value)) (ep : Nat) (t : SetTable) : Prop where
 ob : ∃ o, h.get? a = some o ∧ o.ExactSet ∧ o.data = .set es ep t
 rows : es.toList = L.map fun p => (hK P w p.2, Value.ref p.1)
 tab : TabOk t (L.map fun p => hK P w p.2)
 nd : (L.map (·.2)).Nodup
 tup : ∀ p ∈ L, IsK P w h p.2 p.1
 room : L.length * 5 < t.mask * 3
 few : L.length < 64
variable {a : Addr} {L : List Ycg} {es : Array (Int × Value)} {ep : Nat} {t : SetTable}
theorem SetGr.size (R : SetGr P w s.heap a L es ep t) : es.size = L.length := by
 rw [← Array.length_toList, R.rows, List.length_map]
theorem SetGr.psize (R : SetGr P w s.heap a L es ep t) : t.place.size = L.length := by rw [R.tab.sz, List.length_map]
theorem SetGr.fits (R : SetGr P w s.heap a L es ep t) : t.fits es.size = true := by
 have h1 := R.psize
 have h2 := R.size
 have h3 := R.room
 unfold SetTable.fits SetTable.fill
 rw [R.tab.dm, Bool.and_eq_true, beq_iff_eq, decide_eq_true_eq]
 show t.place.size = es.size ∧ t.place.size + 0 ≤ t.mask
 omega
theorem SetGr.at_ (R : SetGr P w s.heap a L es ep t) {i : Nat} {p : Addr × List Key} (h : L[i]? = some p) : es[i]? = some (hK P w p.2, Value.ref p.1) := by
 rw [← Array.getElem?_toList, R.rows, List.getElem?_map, h]
 rfl
end
end Mir
namespace Mir
open PySem PySem.Spec L2
open PyProof.Rows hiding St
section
variable {X : Cx} {a : Addr} {oe : Obj} {cls : Value} {d : Option Addr} {pn : List Ybt} {i : Nat} {c : Str} {n : Str} {p p2 pos : Pos} {e2 : Expr}
def rIsXT (K : PySem.W.Frag) (a C : Addr) (d : Option Addr) : List V → Hp → VK → Prop := fun xs H Q => ∃ (tp : Addr) (us : List Value) (b : Bool), xs = [.ref a, .ref tp] ∧ ((∃ o cs, H tp = some (.frz o (.tup cs)) ∧ Paired ClsV cs us) ∨ ∃ dd m sl, K.lookup tp = some ⟨.type "tuple", dd, .seq us.toArray m, sl⟩) ∧ PySem.W.kitAny K (.ref C) us = some b ∧ (d = none ∨ ∃ dd fs, d = some dd ∧ H dd = some (.xd fs)) ∧ Q (.bl b) H
theorem call_isXT {C : Addr} (x : XcF X.K C) (hz : Zc (.ref C) d oe) (hf : ∃ vs, oe.data = .fields vs) : CallR Y5 Yf9 (rIsXT X.K a C d) := by
 intro pins s σ H xs us Q I r h
 obtain ⟨tp, ws, b, rfl, ht, e, hd, q⟩ := h
 obtain ⟨u1, u2, rfl, r1, r2⟩ := vals2 r
 cases (show u1 = Value.ref a from r1)
 cases (show u2 = Value.ref tp from r2)
 obtain ⟨hget, _⟩ := I.pin (a, oe) (List.mem_append.mpr (.inl List.mem_cons_self))
 obtain ⟨vs, hv⟩ := hf
 have J : ∃ od, PySem.W.InstAt s.heap a oe C od := by
  rcases hd with hd | ⟨dd, fs, ed, eH⟩
  ·subst hd
   refine ⟨none, ?_⟩
   obtain ⟨oc, od, oda, osl⟩ := oe
   obtain ⟨h1, h2⟩ := hz
   dsimp only at h1 h2 hv
   subst h1 h2 hv
   exact ⟨hget, rfl, rfl, trivial⟩
  ·subst ed
   have hx : ObjOk X.prog X.w H s.heap dd (.xd fs) := I.hok dd _ eH
   obtain ⟨mA, hns, hr⟩ := hx
   obtain ⟨od, ho, hl⟩ := lookIn_ns hns
   exact ⟨some od, hget, hz.1, by unfold PySem.W.notCls; rw [hv] <;> rfl, by rw [hz.2]; exact ho⟩
 obtain ⟨od, J⟩ := J
 have T : ∃ dd m sl, s.heap.get? tp = some ⟨.type "tuple", dd, .seq ws.toArray m, sl⟩ := by
  rcases ht with ⟨o, cs, hT, k⟩ | ⟨dd, m, sl, lk⟩
  ·obtain ⟨_, _, its, rv, o1, h1, h2, m, h3⟩ := (show ObjOk X.prog X.w H s.heap tp (.frz o (.tup cs)) from I.hok tp _ hT)
   have e3 := ClsV.all k rv
   subst e3
   obtain ⟨oc, od, dt, sl⟩ := o1
   simp only at h2 h3
   subst h2 h3
   exact ⟨_, _, _, h1⟩
  ·exact ⟨dd, m, sl, I.kIn _ _ lk⟩
 obtain ⟨dd, m, sl, T⟩ := T
 exact PySem.W.kia_tup (PySem.W.kitx_exc x.cl x.ga x.gg x.exC x.ha x.hn x.ht x.hm) I.kIn J T e (fun z => nomatch z) fun tk => ⟨.bl b, H, I.kept (t' := tk) fun _ _ z => z, rfl, q⟩
/-- isinstance(e, (C, ..)): the classes are known, so is the answer -/
def mXIt (ds : List CT) (b : Bool) (F : M W) : M W := fun eta hp => (F eta hp).bind fun w h => match w with
 | .t (.tup cs) => if clCs cs = some ds then .ok Yde h else .bad
 | _ => .bad
theorem kx_nil {K : PySem.W.Frag} {C : Addr} : ∀ us, Paired (CVal K) [] us → PySem.W.kitAny K (.ref C) us = some false := fun us h => by cases h; rfl
theorem kx_f {K : PySem.W.Frag} {C : Addr} {ct : CT} {ds : List CT} {b : Bool} (h1 : ∀ cv, CVal K ct cv → PySem.W.kitOne K (.ref C) cv = some false) (h2 : ∀ us, Paired (CVal K) ds us → PySem.W.kitAny K (.ref C) us = some b) : ∀ us, Paired (CVal K) (ct :: ds) us → PySem.W.kitAny K (.ref C) us = some b := fun us h => by
 cases h with
 | cons q p =>
  unfold PySem.W.kitAny
  rw [h1 _ q]
  exact h2 _ p
theorem xe_isiT {C : Addr} {ds : List CT} {b : Bool} {F : M W} (cn : CN X.K c C) (x : XcF X.K C) (hz : Zc cls d oe) (hf : ∃ vs, oe.data = .fields vs) (htab : ∀ us, Paired (CVal X.K) ds us → PySem.W.kitAny X.K (.ref C) us = some b)
  (h2 : IE Y5 W0 e2 F) (hm : X.mg "isinstance" = none) (hN : X.N[i]? = some n := by rfl) (hv : Vis X.env.scope n := by first | exact Or.inl rfl | exact Or.inr (Or.inl rfl) | exact Or.inr (Or.inr rfl)) (hd : (n == ("__debug__" : Str)) = false := by decide) (hcd : (n == ("__classdict__" : Str)) = false := by decide)
  (hg : Gl Y5 "isinstance" := by rfl)
  (he : starEach [.Name n p, e2] X.env = (false, eval (.Name n p) X.env) :: starEach [e2] X.env := by rfl) (he2 : starEach [e2] X.env = (false, eval e2 X.env) :: starEach [] X.env := by rfl) (hpl : (backTo pos (starEach [e2] X.env)).any (·.1) = false := by rfl) :
  XE X a oe cls d pn i c (.Call (.Name "isinstance" p2) [.Name n p, e2] [] pos) (fun _ => mXIt ds b F) := by
 refine ⟨fun pins s σ H Q I h => ?_⟩
 obtain ⟨e0, ex, s0, eta, e1, R1, S1, ec, er, g⟩ := h
 subst e1
 obtain ⟨C', eC, cn', er'⟩ := id er
 rw [ec] at cn'
 cases cn'.inj cn
 subst eC
 refine (pe_callB (X := X.suite a ((a, oe) :: pn)) (call_isXT (d := d) x hz hf) hg hm Yaq (pa_cons Ych (pa_cons h2 pa_nil he2) he) Ybo Ybo he hpl).run pins s σ s0.H Q I ⟨_, e0, s0, eta, rfl, R1, S1, Go.bind g fun w v s' q2 q3 q4 _ g' => ?_⟩
 have nl := er.nl R1
 have er2 := er.aft q2 R1 nl
 split at g'
 ·rename_i cs
  split at g'
  ·rename_i hc
   have q5 := g' (.bl b) s' rfl (Aft.refl s') q3 Yd
   simp only [Rw, Rf] at q4
   obtain ⟨tp, vs, rfl, f, l⟩ := q4
   obtain ⟨us, p1, p2⟩ := cls_at hc l
   refine ⟨tp, us, b, rfl, ?_, htab us p2, ?_, ?_⟩
   ·rcases f with ⟨_, o, hH, _⟩ | ⟨o, its, m, k1, k2, _, k3, _, k4⟩
    ·exact .inl ⟨o, vs, hH, p1⟩
    ·have e3 := ClsV.all p1 k4
     obtain ⟨oc, od, dt, sl⟩ := o
     simp only at k2 k3
     subst k2 k3
     exact .inr ⟨od, m, sl, by rw [k1, ← e3]⟩
   ·obtain ⟨_, _, _, h⟩ := er2
    rcases h with ⟨_, h⟩ | ⟨dd, vs, h1, h2, _⟩
    ·exact .inl h
    ·exact .inr ⟨dd, vs, h1, h2⟩
   ·exact q5
  ·exact g'.elim
 ·exact g'.elim
end
end Mir
namespace Mir
open PySem PySem.Spec L2
open PyProof.Rows hiding St
end Mir
namespace Mir
open PySem PySem.Spec L2
open PyProof.Rows hiding St
end Mir
namespace Mir
open PySem PySem.Spec L2
open PyProof.Rows hiding St
end Mir
namespace Mir
open PySem PySem.Spec L2
open PyProof.Rows hiding St
end Mir
namespace Mir
open PySem PySem.Spec PySem.SeqAt GQ
open AutoSeq1 (wpAny_loadPart')
open MeetsSeq MeetsSeq2 MeetsSeq3 SeqRoads2
end Mir
namespace Mir
open PySem PySem.Spec L2
open PyProof.Rows hiding St
/-- one alternative for each class, which leaves all cells as they are -/
def EqAltsP (X : Cx) : List Yee → Prop
 | [] => True
 | p :: r => (EqAlt X p.1 p.2 ∧ ∀ ws hp w h, p.2 ws hp = .ok w h → h = hp) ∧ EqAltsP X r
theorem EqAltsP.get {X : Cx} : ∀ {alts : List (Str × OpN)} {p : Str × OpN}, EqAltsP X alts → p ∈ alts → EqAlt X p.1 p.2 ∧ ∀ ws hp w h, p.2 ws hp = .ok w h → h = hp
 | [], _, _, h => nomatch h
 | q :: r, p, ok, h => by
  rcases List.mem_cons.mp h with rfl | h
  ·exact ok.1
  ·exact EqAltsP.get ok.2 h
end Mir
namespace Mir
open PySem PySem.Spec L2
open PyProof.Rows hiding St
end Mir
namespace Mir
open PySem PySem.Spec L2 LamX
open PyProof.Rows hiding St
section
variable {X : Cx} {pins : List Ybt} {σ : L2.St} {H : Hp} {s : Shared}
/-- how the heap of words grows where a lambda is made: not at all, or by one code object, told in the table -/
def Made (q : Str) (P : Addr) (H H1 : Hp) (c' : Addr) : Prop :=
 (H1 = H ∧ H c' = some (CodeO c' q)) ∨
  ∃ (ps : Array Value) (pos : Pos), H P = some (.tbl ps) ∧ H c' = none ∧ H1 = upd (upd H P Ycv) c' (CodeO c' q)
theorem Made.at {q : Str} {P : Addr} {H1 : Hp} {c' : Addr} (m : Made q P H H1 c') : H1 c' = some (CodeO c' q) := by
 rcases m with ⟨rfl, h⟩ | ⟨ps, pos, _, _, rfl⟩
 ·exact h
 ·exact upd_same
theorem lam_made {c P : Addr} {ps : Array Value} {params : Arguments} {body : Expr} {scope : Scope} {pos : Pos} {E : Value → Shared → Prop} {Q : Value → Shared → Prop} (I : Inv X pins σ H s) (TB : TabB X.base X.mg c P) (hcode : X.env.code = .ref c)
  (hP : H P = some (.tbl ps)) (ht : TriplesOk ps.toList) (ha : ∀ (pos : Pos) (cv : Value), codeAmong pos ps.toList = some cv → ∃ c, cv = .ref c ∧ H c = some (CodeO c Yds))
  (hdef : defaultsOf params X.env = ([], [])) (hfree : ∀ y ∈ scope.names, y.2 = .free → ∃ c, X.env.cells.lookup y.1 = some c)
  (h : ∀ (f c' : Addr) (pm ctv : Value) (H1 : Hp) (s' : Shared), Inv X pins σ H1 s' → Made Yds P H H1 c' →
   s'.heap.get? f = some Yah → H1 f = none → f ∉ frs X.stack → Q (.ref f) s') :
  wpAny Yx X.A (eval (.Lambda params body scope pos) X.env) Q E s := by
 refine PySem.W.kla_eval hdef ?_
 have bP : s.heap.BuiltinsAt X.mg P := TB.bm.keeps I.bk
 have hP' : s.heap.get? P = some { cls := .none, data := .fields ps } := I.hok P _ hP
 have nofr : ∀ f, s.heap.objs.size ≤ f → f ∉ frs X.stack := fun f hf z => by
  rcases List.mem_cons.mp (I.stkSub _ z) with e | e
  ·have z := I.lt
   rw [← e] at z
   exact Nat.lt_irrefl _ (Nat.lt_of_lt_of_le z hf)
  ·exact I.nofs hf e
 cases hc : codeAmong pos ps.toList with
 | some cv =>
  obtain ⟨c', rfl, hco⟩ := ha pos cv hc
  refine PySem.W.kla_makeFunctionHit (mg := X.mg) (c := c) (P := P) (ps := ps) (closure_ok hfree) I.ok.glob (I.mod.glob.keeps I.bk) hcode (TB.code.keeps I.bk) hP' ht hc bP fun ctv h' tk hx hsz => ?_
  exact h h'.objs.size c' _ ctv H _ (I.kept fun b o e => Heap.get?_push_of_some _ (hx b o e)) (.inl ⟨rfl, hco⟩) (Heap.get?_push_size _ rfl) (I.hok.fresh hsz) (nofr _ hsz)
 | none =>
  refine PySem.W.kla_makeFunction (mg := X.mg) (c := c) (P := P) (ps := ps) (closure_ok hfree) I.ok.glob (I.mod.glob.keeps I.bk) hcode (TB.code.keeps I.bk) hP' ht hc TB.gP bP fun c' ctv h' tk hx hge hlt hrec htb => ?_
  obtain ⟨c2, oc, vs, t, e2, hoc, hd, hv⟩ := hrec
  cases e2
  have hsz : s.heap.objs.size ≤ h'.objs.size := by omega
  have nC : H c' = none := I.hok.fresh hge
  have I1 := inv_table (t' := tk) (q := X.env.qual ++ "<lambda>") (more := #[rawInt pos.line, rawInt pos.col, .ref c']) (h' := h'.push (PySem.W.kla_obj "<lambda>" (X.env.qual ++ "<lambda>") params body scope (cloFrom X.env.cells scope.names []) ((X.mg "__name__").getD .none) c' ctv)) I hP
   (fun b o hb e => Heap.get?_push_of_some _ (hx b o hb e)) (Heap.get?_push_of_some _ htb) hge ⟨oc, vs, t, Heap.get?_push_of_some _ hoc, hd, hv⟩
  refine h h'.objs.size c' _ ctv _ _ I1 (.inr ⟨ps, pos, hP, nC, rfl⟩) (Heap.get?_push_size _ rfl) ?_ (nofr _ hsz)
  have n1 : h'.objs.size ≠ c' := Nat.ne_of_gt hlt
  have n2 : h'.objs.size ≠ P := Nat.ne_of_gt (Nat.lt_of_lt_of_le (Heap.lt_size hP') hsz)
  rw [upd_ne n1, upd_ne n2]
  exact I.hok.fresh hsz
end
/-- the state behind the making -/
theorem made_state {K : PySem.W.Frag} {ω : World} {s : S4} {q : Str} {P c' : Addr} {H1 : Hp} {k : Nat} (R : Rel K ω s) (hk : s.hp[k]? = some (some (.tab q))) (hr : s.rho[k]? = some P) (m : Made q P s.H H1 c') : ∃ s1 : S4, s1.H = H1 ∧ s1.hp = s.hp ∧ Aft s s1 ∧ Rel K ω s1 := by
 rcases m with ⟨rfl, _⟩ | ⟨ps, pos, hP, nC, rfl⟩
 ·exact ⟨s, rfl, rfl, Aft.refl s, R⟩
 ·let H1 : Hp := upd (upd s.H P Ycv) c' (CodeO c' q)
  let s1 : S4 := ⟨s.rho, fun a => s.fz a ∨ a = c', s.hp, H1⟩
  have LP : Live s P := ⟨k, _, ⟨hk, trivial⟩, hr⟩
  have nPc : P ≠ c' := fun z => by rw [z, nC] at hP; cases hP
  have at_ : ∀ b, b ≠ P → b ≠ c' → H1 b = s.H b := fun b h1 h2 => by simp only [H1]; rw [upd_ne h2, upd_ne h1]
  have atP : H1 P = some Ycv := by simp only [H1]; rw [upd_ne nPc, upd_same]
  have atC : H1 c' = some (CodeO c' q) := upd_same
  have A : Aft s s1 := by
   refine ⟨⟨[], by simp [s1], by simp⟩, fun a f => .inl f, fun a o e nl => ?_, fun a f => ?_, fun a l => .inl l, fun a e => ?_⟩
   ·show H1 a = some o
    rw [at_ a (fun z => nl (z ▸ LP)) (fun z => by rw [z, nC] at e; cases e)]
    exact e
   ·rcases f with f | rfl
    ·exact .inl f
    ·exact .inr (.inl nC)
   ·show H1 a ≠ none
    by_cases h1 : a = P
    ·rw [h1, atP]; simp
    ·by_cases h2 : a = c'
     ·rw [h2, atC]; simp
     ·rw [at_ a h1 h2]; exact e
  refine ⟨s1, rfl, rfl, A, ⟨R.len, R.nd, fun a m => A.trk a (R.trk a m), fun a f => ?_, fun a l f => ?_, fun i c a e1 e2 => ?_⟩⟩
  ·rcases f with f | rfl
   ·exact A.trk a (R.ftrk a f)
   ·show H1 a ≠ none
    rw [atC]; simp
  ·rcases f with f | rfl
   ·exact R.fz a l f
   ·obtain ⟨i, c, _, e⟩ := l
    exact R.trk _ Yfx nC
  ·have ok := R.cell i c a e1 e2
   have am : a ∈ s.rho := List.mem_of_getElem? e2
   have ac : a ≠ c' := fun z => R.trk a am (z ▸ nC)
   by_cases h1 : a = P
   ·subst h1
    have ik : i = k := (List.getElem?_inj (List.getElem?_eq_some_iff.mp e2).1 R.nd).mp (e2.trans hr.symm)
    subst ik
    have e1' : s.hp[i]? = some (some c) := e1
    rw [hk] at e1'
    cases e1'
    obtain ⟨lt, ps', e, t, l⟩ := ok
    rw [hP] at e
    cases e
    have eL : (ps ++ #[rawInt pos.line, rawInt pos.col, .ref c']).toList = ps.toList ++ [rawInt pos.line, rawInt pos.col, .ref c'] := by simp
    refine ⟨lt, _, atP, by rw [eL]; exact PySem.TriplesOk_snoc _ _ _ _ t, fun p' cv hcv => ?_⟩
    rw [eL] at hcv
    rcases among_app _ t hcv with z | z
    ·obtain ⟨c0, e1, f, e2⟩ := l p' cv z
     exact ⟨c0, e1, .inl f, A.keep c0 _ e2 fun l => R.fz c0 l f⟩
    ·exact ⟨c', z, .inr rfl, atC⟩
   ·have ok' := ok.aft A R
    show CellOk K ω s1 a c (H1 a)
    rw [at_ a h1 ac]
    exact ok'
section
variable {X : Cx} {pins : List Ybt} {σ : L2.St} {H HZ : Hp} {s : Shared}
/-- the call of the lambda in the def that got it: what it raises is wished for at the def's slots as they are -/
theorem pe_work {CXg : CXT} {Eg : XK} {Ng : List Str} {qg : Str} {sg : Scope} {g f c' : Addr} {cdg pm ctv : Value} {params : Arguments} {body : Expr} {scope : Scope} {k i : Nat} {a : Str} {pn : List Ybt} {xe : Value → Shared → Prop} {W : WX} {tb : XK → TE} {p1 p2 : Pos}
  (I : Inv X pins σ H s) (L : LamS X.env.scope scope) (hf : s.heap.get? f = some Yah) (hfn : H f = none) (hfr : f ∉ frs X.stack)
  (hbind : bindArgs (PySem.W.kla_fn "<lambda>" (X.env.qual ++ "<lambda>") params body scope (cloFrom X.env.cells scope.names []) pm (.ref c') ctv) ⟨[], []⟩ = pure [])
  (tk : Takes Yej W) (hr : Room (k + 1) Ydq) (hgd : X.A.guards = some [])
  (hbody : ∀ (A : Around) (outer : List Env) (s : Shared) (H : Hp) (E : XK), Room k (A.deeper (lamEnv X scope s.heap.objs.size f c')) → A.guards = some [] → PE (lamCx X A outer s H E scope f c') body (tb E))
  (hN : Ng[i]? = some a) (hv : Vis sg a) (hd : (a == ("__debug__" : Str)) = false := by decide) (hcd : (a == ("__classdict__" : Str)) = false := by decide) :
  PE Yej (.Call (.Name a p1) [] [] p2)
   (fun σZ HZ Q => σZ[i]? = some (some (.ref f)) ∧ HZ c' = some (CodeO c' Yds) ∧ tb Ygg σ HZ Q) := by
 refine ⟨fun pinsZ sZ σZ HZ Q IZ h => ?_⟩
 obtain ⟨hs, hc, ht⟩ := h
 refine wpAny_Call_Name_kw (thn ((pe_var (pos := p1) (i := i) hN hv hd hcd).run pinsZ sZ σZ HZ (fun v H1 => v = .ref f ∧ H1 = HZ) IZ ⟨.ref f, hs, rfl, rfl⟩) fun u s1 ⟨v, H1, I1, r1, q1⟩ => ?_)
 obtain ⟨ev, eH⟩ := q1
 subst ev
 rw [eH] at I1
 obtain rfl : u = Value.ref f := r1
 have of1 : s1.heap.get? f = some Yah := I1.base.keep f _ hf hfn hfr (fun z => nomatch (show f ∈ ([] : List Addr) from z))
 refine PySem.W.callWith_F0 ⟨_, _, _, _, of1⟩ ?_
 have un : Un (frs X.stack) [] H HZ s.heap s1.heap := I1.base
 obtain ⟨⟨oc, vs, t, hoc, hdc, hvc⟩, _, _⟩ := I1.hok c' _ hc
 have rc : codeAny Yx Ydq (.call (.ref f) ⟨[], []⟩) (CR Ycd (envOfC qg sg s.heap.objs.size g cdg :: X.stack) X.prog X.w HZ s1 Q Ygg) s1 := by
  refine PySem.W.kla_callFunE hr.depth of1 rfl L.co L.gen rfl ⟨c', oc, vs, t, rfl, hoc, hdc, hvc⟩ ?_
  rw [hbind]
  refine wpAny_pure (wpAny_newFunctionEnv (fun y hy => (L.own y hy).2) (fun y hy => absurd hy Ycc) (fun h₁ hns hsb => ⟨I1.nolimit.fresh _ hsb, ?_⟩) L.kind)
  show codeAny _ _ (.expr body (lamEnv X scope s1.heap.objs.size f c')) _ _
  have kp : ∀ b o, s1.heap.get? b = some o → h₁.get? b = some o := fun b o e => hsb.extBut b o (Nat.ne_of_lt (Heap.lt_size e)) (Heap.get?_push_of_some _ e)
  have J : Inv (lamCx X Ydq (envOfC qg sg s.heap.objs.size g cdg :: X.stack) s1 HZ Ygg scope f c') [] σ HZ { s1 with heap := h₁, toks := s1.toks + ([] : List (Str × Value)).length } :=
   lam_start2 I L I1.env0 hr.hd un hns kp
  refine PySem.W.kla_codeExpr (wpAny_mono ((hbody _ _ s1 HZ _ (hr.deeper _) hgd).run [] _ _ HZ Q J ht) (fun v s' hq => ?_) fun e s' hq => hq)
  obtain ⟨w', H', J', rv, q⟩ := hq
  exact ⟨w', H', J'.os, J'.bare, J'.base, J'.hok, rv, q⟩
 refine wpAny_call (codeAny_mono rc fun r s' hq => ?_)
 cases r with
 | error e => exact tk e s' (L2.XE.of_call I1 (fun cls d H' h => h) hq)
 | ok fl =>
  cases fl with
  | ret u => exact I1.after hq
  | next => exact False.elim hq
  | brk => exact False.elim hq
  | cont => exact False.elim hq
end
/-- found = t0 / try: F / except .. as e: found = .. / return found; slots of the def: n, found the j-th, e the i-th -/
def zcg (q : Str) (n j i : Nat) (t0 : T) (F : M W) (l : List Cl) : M W := fun eta hp => match hp[0]? with
 | some (some (Cell.tab q')) => if q' = q then (match F eta hp with
   | .ok _ h => .ok (.t t0) h
   | .er e _ h => (match clsL i e ((List.replicate n none).set j (some (.t t0))) h l with
    | .ok (.nx eta2) h2 => (match eta2[j]? with | some (some w) => .ok w h2 | _ => .bad)
    | _ => .bad)
   | .bad => .bad) else .bad
 | _ => .bad
section
variable {X : Cx} {Wx : WX}
theorem zdc {x a fnd en : Str} {g c P : Addr} {k i j : Nat} {pg : Arguments} {sg : Scope} {Ng : List Str} {t0 : T} {v0 : V} {cst : Expr} {h₀ : ExceptHandler} {hds : List ExceptHandler} {l : List Cl}
  {params : Arguments} {body : Expr} {scope : Scope} {F : M W} {p lpos pos p1 p2 p3 p4 p5 p6 p7 p8 : Pos} {fdg : FuncData} (hg : Gl X x) (hm : X.mg x = some (.ref g))
  (D : FunD X.K x x pg [.Assign [.Name fnd p1] cst p2, .Try [.Expr (.Call (.Name a p3) [] [] p4) p5] (h₀ :: hds) [] [] p6, .Return (some (.Name fnd p7)) p8] sg [] [] g fdg)
  (hb : L2.Binds X.K fdg [a] []) (Sg : FnScope Ng [a] sg)
  (hNd : Ng.Nodup) (hN0 : Ng[0]? = some a) (hva : Vis sg a) (hNj : Ng[j]? = some fnd) (hlj : sg.names.lookup fnd = some .local) (hNi : Ng[i]? = some en) (hli : sg.names.lookup en = some .local) (j0 : j ≠ 0)
  (hc0 : ∀ Y : Cx, PE Y cst (fun _ H Q => Q v0 H)) (r0 : ∀ s : S4, Rw X.K s (.t t0) v0) (hsw : ∀ env : Env, swapsWith cst (some (.Name fnd p1)) p2.line env = pure false)
  (hcls : ∀ (cdv : Value) (s : Shared) (H : Hp), Room (k + 1) (X.A.deeper (envOfC x sg s.heap.objs.size g cdv)) → ∃ tl, ClsA (cxOf C8.CX0 X.prog X.w X.K X.mg X.base Ng x sg g cdv X.A X.stack s H C8.E0).nox en i (h₀ :: hds) l tl)
  (TB : TabB X.base X.mg c P) (hcode : X.env.code = .ref c) (lt : LawTab X.K P) (hr : Room (k + 2) X.A) (hgd : X.A.guards = some []) (L : LamS X.env.scope scope) (hdef : defaultsOf params X.env = ([], []))
  (hbind : ∀ (q : Str) (cl : List (Str × Addr)) (pm cv ctv : Value), bindArgs (PySem.W.kla_fn "<lambda>" q params body scope cl pm cv ctv) ⟨[], []⟩ = pure [])
  (hbody : ∀ (A : Around) (outer : List Env) (s : Shared) (H : Hp) (E : XK) (f c' : Addr), Room k (A.deeper (lamEnv X scope s.heap.objs.size f c')) → A.guards = some [] → IE (lamCx X A outer s H E scope f c') (fun cls d _ H => E cls d H) body F)
  (hdb : (x == ("__debug__" : Str)) = false := by decide) (hd : (a == ("__debug__" : Str)) = false := by decide) (hcd : (a == ("__classdict__" : Str)) = false := by decide) (hd2 : (fnd == ("__debug__" : Str)) = false := by decide) (hcd2 : (fnd == ("__classdict__" : Str)) = false := by decide) :
  IE X Wx (.Call (.Name x p) [.Lambda params body scope lpos] [] pos) (zcg Yds Ng.length j i t0 F l) := by
 refine ⟨fun pins s0 σ H Q I h => ?_⟩
 obtain ⟨oc, od, dV, kV, doc, pm, an, cdv, ct, osl, rfl, lk, hcg, _, _⟩ := D.ex
 have hk := D.2
 obtain ⟨s, eta, e1, R, S, g0⟩ := h
 subst e1
 unfold zcg at g0
 split at g0
 case h_2 => exact g0.elim
 rename_i q' hk0
 split at g0
 case isFalse => exact g0.elim
 rename_i eq'
 subst eq'
 obtain ⟨P', hr0⟩ : ∃ P', s.rho[0]? = some P' := by
  have l0 := (List.getElem?_eq_some_iff.mp hk0).1
  rw [← R.len] at l0
  exact ⟨_, List.getElem?_eq_getElem l0⟩
 obtain ⟨lt', ps, hP, ht, ha⟩ := R.cell 0 _ P' hk0 hr0
 obtain rfl := lt'.inj lt
 refine wpAny_Call_Name_kw (ld_glob I hg hm ?_ hdb)
 refine PySem.W.callWith_K (h₀ := X.base) I.ok.mod.kin hk ?_ (by rfl) (by rfl)
 show wpAny _ _ (spliced ((false, eval (.Lambda params body scope lpos) X.env) :: backTo pos (starEach [] X.env))) _ _ s0
 refine Calls.spliced_cons (lam_made I TB hcode hP ht (fun pos cv hc => let ⟨c, e, _, z⟩ := ha pos cv hc; ⟨c, e, z⟩) hdef (L.has I.ok) fun f c' pm' ctv H1 s' I1 md hf hfn hfr => ?_)
 refine Calls.spliced_nil ⟨I1.kIn, ?_⟩
 have hco := md.at
 obtain ⟨s1, eH1, ehp, A1, R1⟩ := made_state R hk0 hr0 md
 subst eH1
 let Y := cxOf C8.CX0 X.prog X.w X.K X.mg X.base Ng x sg g cdv X.A X.stack s' s1.H C8.E0
 have rc : codeAny Yx X.A (.call (.ref g) ⟨[.ref f], []⟩) (CR C8.CX0 X.stack X.prog X.w s1.H s' Q C8.E0) s' := by
  refine run_ofS (N := Ng) (ps := [a]) (us := [.ref f]) (vs := [.ref f]) lk hcg Sg hr I1.env0 (hb s' [.ref f] I1.kIn rfl) (.cons rfl .nil) rfl fun hr' => ?_
  obtain ⟨tl, cls⟩ := hcls cdv s' s1.H hr'
  have hlj' : Y.nox.env.scope.names.lookup fnd = some .local := hlj
  let tb : WX → TS := fun W D σd H => σd[0]? = some (some (.ref f)) ∧ H c' = some (CodeO c' Yds) ∧ tE X.K X.w (fun cls d _ H' => W cls d σd H') F σ H (fun _ H' => D.nx σd H')
  have body_ : ∀ (W : WX) (pn : List (Addr × Obj)) (xe : Value → Shared → Prop), L2.Takes (Y.nox.tr pn xe) W → PassesOwn Yx Y.nox.A Y.nox.env xe → PSs (Y.nox.tr pn xe) [.Expr (.Call (.Name a p3) [] [] p4) p5] (tb W) := fun W pn xe tk _ =>
   pss_one (PS.imp (ps_expr (pe_work (CXg := C8.CX0) (Eg := C8.E0) (tb := fun E => tE X.K X.w (fun cls d _ H => E cls d H) F) (i := 0) I1 L hf hfn hfr (hbind _ _ _ _ _) tk hr' hgd (fun A outer s H E hr2 hg2 => hbody A outer s H E f c' hr2 hg2) hN0 hva hd hcd)) fun D σd H h => h)
  have tr := ps_try_manyA (X := Y.nox) (pos := p6) (tb := tb) (Wout := fun _ _ _ _ => False) rfl rfl hNd hNi hli L2.takes0 body_ cls.hds
  have st0 := ps_set (X := Y.nox) (pos := p2) hNd hNj (.inl hlj) (hc0 Y.nox) (hsw _) (.inr hlj)
  have st2 := ps_ret (X := Y.nox) (pos := p8) (pe_var (X := Y.nox) (pos := p7) (i := j) hNj (.inl hlj) hd2 hcd2)
  refine ⟨_, PSs.nox (pss_cons st0 (pss_cons tr (pss_one st2))), ?_⟩
  have n0 : 0 < Ng.length := (List.getElem?_eq_some_iff.mp hN0).1
  have nj : j < Ng.length := (List.getElem?_eq_some_iff.mp hNj).1
  let σ1 : L2.St := (L2.start Ng [V.ref f]).set j (some v0)
  let E1 : IS := (List.replicate Ng.length none).set j (some (.t t0))
  have ls : (L2.start Ng [V.ref f]).length = Ng.length := by
   unfold L2.start
   simp
   omega
  have s0' : (L2.start Ng [V.ref f])[0]? = some (some (V.ref f)) := rfl
  have at0 : σ1[0]? = some (some (V.ref f)) := by simp only [σ1]; rw [List.getElem?_set_ne j0]; exact s0'
  have atj : σ1[j]? = some (some v0) := by simp only [σ1]; rw [List.getElem?_set_self (by rw [ls]; exact nj)]
  have SE : ∀ s2 : S4, Sl X.K s2 E1 σ1 := fun s2 => by
   refine ⟨by simp [E1, σ1, ls], fun m w e => ?_⟩
   by_cases hm : j = m
   ·subst hm
    simp only [E1] at e
    rw [List.getElem?_set_self (by simpa using nj)] at e
    cases e
    exact ⟨v0, atj, r0 s2⟩
   ·simp only [E1] at e
    rw [List.getElem?_set_ne hm] at e
    have := List.getElem?_replicate (a := (none : Option W)) (n := Ng.length) (i := m)
    rw [this] at e
    split at e <;> cases e
  show tb _ _ σ1 s1.H
  refine ⟨at0, hco, s1, eta, rfl, R1, S.aft A1 R, ?_⟩
  have ehp' : F eta s1.hp = F eta s.hp := by rw [ehp]
  rw [ehp']
  cases hF : F eta s.hp with
  | bad => rw [hF] at g0; exact g0.elim
  | ok w h =>
   rw [hF] at g0
   intro b s2 h1 h2 h3 h4
   exact ⟨v0, atj, g0 v0 s2 h1 (A1.trans h2) h3 (r0 s2)⟩
  | er e eta' h =>
   rw [hF] at g0
   intro s2 σ2 cls2 d2 h1 h2 h3 h4 h5
   refine cls_go (X := Y.nox) (s := s1) (eta := E1) (σ := σ1) h1 h2 h3 (SE s2) h5 cls ?_
   have g0 : Go X.K X.w Wx (Rw X.K) s (match clsL i e E1 h l with
    | .ok (.nx eta2) h2 => (match eta2[j]? with | some (some w) => .ok w h2 | _ => .bad)
    | _ => .bad) Q := g0
   split at g0
   ·rename_i eta2 h2' hcl
    split at g0
    ·rename_i w hw
     rw [hcl]
     intro b s3 q1 q2 q3 q4
     cases b with
     | nx σ3 =>
      obtain ⟨v, z1, z2⟩ := (show Sl X.K s3 eta2 σ3 from q4).2 j w hw
      exact ⟨v, z1, g0 v s3 q1 (A1.trans q2) q3 z2⟩
     | rt _ => exact q4.elim
     | bk _ => exact q4.elim
     | ct _ => exact q4.elim
    ·exact g0.elim
   ·exact g0.elim
 refine wpAny_call (codeAny_mono rc fun r s2 hq => ?_)
 cases r with
 | error e => exact (show False from hq).elim
 | ok fl =>
  cases fl with
  | ret u => exact I1.after hq
  | next => exact False.elim hq
  | brk => exact False.elim hq
  | cont => exact False.elim hq
end
section
variable {P : Program} {w : World} {K : PySem.W.Frag} {mg : Str → Option Value} {base : Heap} {CX : CXT} {f : Addr} {fd : FuncData} {ps : List Str} {sp : Sp}
theorem Fun.okGc {k : Nat} {x qual : Str} {st : Stmt} {N : List Str} {dvs : List V} {kws : List Ycy} {c : Addr} (F : FunD K x qual (defArgs st) Ydd Y9 dvs kws f fd) (hc : fd.code = .ref c) (S : FnScope N ps Y9) (len : ∀ vs H Q E, sp vs H Q E → vs.length = ps.length)
  (hb : ∀ (A : Around) (outer : List Env) (s : Shared) (H : Hp) (vs : List V) (Q : VK) (E : XK), Room k (A.deeper (envOfC qual Y9 s.heap.objs.size f (.ref c))) → A.guards = some [] → sp vs H Q E →
   ∃ t, PSs (cxOf CX P w K mg base N qual Y9 f (.ref c) A outer s H E) Ydd t ∧ t { nx := fun _ H' => Q .non H', rt := Q } (L2.start N vs) H) : FnG P w K mg base CX (k + 1) f fd ps sp := by
 obtain ⟨oc, od, dV, kV, doc, pm, an, cdv, ct, osl, rfl, lk, hcd, _, _⟩ := F.ex
 obtain rfl : cdv = .ref c := hc
 refine ⟨len, fun A outer s H args us vs Q E hr hgd e0 hbd r hsp => ?_⟩
 have hl := len _ _ _ _ hsp
 have keep : ∀ b o, base.get? b = some o → s.heap.get? b = some o := fun b o e => (e0.bs b o e).1
 have KX : K.In s.heap := e0.mod.kin.keeps keep
 have bound : ∀ y ∈ ps.zip us, (defScope st).names.lookup y.1 = some .local ∨ ((defScope st).names.lookup y.1 = some .cell ∧ ((cellsFrom Ya1 (defScope st).names []).lookup y.1).isSome = true) := by
  rintro ⟨n, v⟩ hy
  refine (S.par n (List.of_mem_zip hy).1).imp id fun q => ⟨q, ?_⟩
  exact PySem.W.cellsFrom_some _ _ _ (.inl q)
 refine codeAny_call_function hr.depth (KX _ _ lk) rfl S.co S.gen rfl (PySem.W.codeRec_of KX hcd) (hbd _ _ _ _ ?_)
 refine wpAny_newFunctionEnv_cells S.kind bound ?_
 rintro env rfl s1 x
 refine ⟨(e0.mod.nolimit.keeps keep).keeps x.toInCall.keep, codeAny_func ?_⟩
 obtain ⟨t, ht, hq⟩ := hb A outer s H vs Q E (hr.deeper _) hgd hsp
 have I := inv_start (CX := CX) (N := N) (E := E) S hr.hd e0 hl r x
 refine wpAny_mono (ht.run [] s1 (L2.start N vs) H _ I hq) ?_ fun e s' hs => hs
 have fin : ∀ {s' : Shared} {σ' : L2.St} {H' : Hp} {v : V} {u : Value}, Inv (cxOf CX P w K mg base N qual Y9 f (.ref c) A outer s H E) [] σ' H' s' → RelV v u → Q v H' → CE outer P w H s Q u s' :=
  fun {s' σ' H' v u} J rv q => ⟨v, H', J.os, J.bare, J.base, J.hok, rv, q⟩
 intro fl s' hs
 cases fl with
 | ret u => obtain ⟨v, σ', H', J, rv, q⟩ := hs; exact fin J rv q
 | next => obtain ⟨σ', H', J, q⟩ := hs; exact fin (v := V.non) (u := Value.none) J rfl q
 | brk => obtain ⟨_, _, _, q⟩ := hs; exact q.elim
 | cont => obtain ⟨_, _, _, q⟩ := hs; exact q.elim
theorem okMc {x qual : Str} {st : Stmt} {N : List Str} {k : Nat} {B : M Fl} {dfs : List V} {kws : List Ycy} {c : Addr} (F : FunD K x qual (defArgs st) Ydd Y9 dfs kws f fd) (hc : fd.code = .ref c) (S : FnScope N ps Y9)
  (hb : ∀ (A : Around) (outer : List Env) (s : Shared) (H : Hp) (E : XK), Room k (A.deeper (envOfC qual Y9 s.heap.objs.size f (.ref c))) → A.guards = some [] → ISs (cxOf Yf P w K mg base N qual Y9 f (.ref c) A outer s H E).nox W0 Ydd B) :
  FnG P w K mg base Yf (k + 1) f fd ps (spM K w (fnM ps.length N.length B) ps.length) := by
 refine Fun.okGc F hc S (fun vs H Q E h => spM_len h) fun A outer s H vs Q E hr hgd h => ⟨_, PSs.nox (hb A outer s H E hr hgd), ?_⟩
 obtain ⟨s0, ws, e1, R1, l, el, g⟩ := h
 refine ⟨s0, _, e1, R1, sl_start l, ?_⟩
 unfold fnM at g
 rw [if_pos el] at g
 rw [el]
 cases hB : B (ws.map some ++ List.replicate (N.length - ps.length) none) s0.hp with
 | ok fl hp =>
  rw [hB] at g
  cases fl with
  | rt wr => exact fun b s' h1 h2 h3 h4 => by cases b <;> first | exact h4.elim | exact g _ s' h1 h2 h3 h4
  | nx e => exact fun b s' h1 h2 h3 h4 => by cases b <;> first | exact h4.elim | exact g .non s' h1 h2 h3 (by simp [Rw, Rf])
  | bk e => exact g.elim
  | ct e => exact g.elim
 | er e eta hp => rw [hB] at g; exact g.elim
 | bad => rw [hB] at g; exact g.elim
end
abbrev tabO : Obj := { cls := .none, data := .fields #[] }
theorem law_callGT {P : Program} {w : World} {K : PySem.W.Frag} {mg mb : Str → Option Value} {CX : CXT} {k : Nat} {fa a c T : Addr} {fd : FuncData} {x : Str} {sp : Sp} {s1 : Shared} {us : List Value} {ns : List Int}
  (KX : K.In s1.heap) (hns : s1.heap.Ns mainGlobals mg) (hb : s1.heap.Ns builtinsNs mb) (hbb : ∀ y : Str, y ≠ "__name__" → mb y = bootBuiltins y) (hlim : s1.heap.NoLimit) (hg : s1.gens = #[])
  (hT : s1.heap.get? T = some tabO) (nT : K.lookup T = none) (C : PySem.W.CodeHd s1.heap c T)
  (hbm : ∃ (bm : Addr) (ob : Obj), mg "__builtins__" = some (.ref bm) ∧ bm ≠ builtinsNs ∧ s1.heap.get? bm = some ob ∧ ob.cls = .type "module" ∧ ob.dict = some builtinsNs ∧ ob.data = .plain)
  (ha : s1.heap.get? a = some { cls := .type "list", data := .seq us.toArray }) (hi : IntsAre us ns) (hl : ns.length ≤ sizeLine) (hr : Room k callerA)
  (F : ∀ base : Heap, K.In base → base.Ns mainGlobals mg → TabB base mg c T → FnG P w K mg base CX k fa fd [x] sp) (hbind : ∀ (s : Shared) (u : Value), BindsTo s fd ⟨[u], []⟩ [(x, u)])
  (hsp : ∀ H : Hp, H T = some (.tbl #[]) → ((∃ o, H a = some Yfv) ∨ (∃ (o : Obj) (its : Array Value) (n : Nat), K.lookup a = some o ∧ o.cls = .type "list" ∧ o.dict = none ∧ o.data = .seq its n ∧ its.size ≤ sizeLine ∧ Vals Yct its.toList)) → sp [.ref a] H (fun v _ => v = .bl true) fun _ _ _ => False)
  (hCX : ∀ H e s', CX [] H s1 Yd3 e s' → False) :
  codeAny Ycz callerA (.call (.ref fa) ⟨[.ref a], []⟩) Yc7 s1 := by
 have rv := vals_ints hi
 have lenV := hi.length
 have aT : a ≠ T := fun z => by
  rw [z, hT] at ha
  cases ha
 have main : ∀ H : Hp, H T = some (.tbl #[]) → (∀ b, b ≠ T → H b = none ∨ ∃ o xs, H b = some (.frz o Ye2)) → ((∃ o, H a = some Yfv) ∨ (∃ (o : Obj) (its : Array Value) (n : Nat), K.lookup a = some o ∧ o.cls = .type "list" ∧ o.dict = none ∧ o.data = .seq its n ∧ its.size ≤ sizeLine ∧ Vals Yct its.toList)) → HOk P w H s1.heap →
   (∀ b, H b ≠ none → b = a ∨ b = T) → (H a ≠ none → K.lookup a = none) →
   codeAny Ycz callerA (.call (.ref fa) ⟨[.ref a], []⟩) Yc7 s1 := by
  intro H hHT hO hS hok hA hK
  have isA : ∀ {b : Addr} {u : HO}, H b = some u → b = a ∨ b = T := fun {b u} q => hA b (by rw [q]; exact Option.some_ne_none u)
  have free : ∀ {b : Addr} {o : Obj}, s1.heap.get? b = some o → (∀ vs n, o.data ≠ .seq vs n) → o.data ≠ .fields #[] → H b = none := fun {b o} e h1 h2 => by
   cases q : H b with
   | none => rfl
   | some u =>
    rcases isA q with rfl | rfl
    ·rw [ha] at e
     cases e
     exact (h1 _ _ rfl).elim
    ·rw [hT] at e
     cases e
     exact (h2 rfl).elim
  have freeD : ∀ {b : Addr} {o : Obj} {es : Array DictEntry} {ep : Nat}, s1.heap.get? b = some o → o.data = .dict es ep → H b = none := fun {b o es ep} e d => free e (fun vs n z => by rw [d] at z; cases z) fun z => by rw [d] at z; cases z
  have nsK : ∀ {b : Addr} {m : Str → Option Value}, s1.heap.Ns b m → (hidT s1.heap H).Ns b m := fun {b m} ⟨o, es, ep, e, d, r⟩ => ⟨o, es, ep, hidT_get e (freeD e d), d, r⟩
  have hKb : K.In (hidT s1.heap H) := fun b o e => hidT_get (KX b o e) (by
   cases q : H b with
   | none => rfl
   | some u =>
    rcases isA q with rfl | rfl
    ·rw [hK (by rw [q]; exact Option.some_ne_none u)] at e
     cases e
    ·rw [nT] at e
     cases e)
  have hM : Mod K mg (hidT s1.heap H) := by
   obtain ⟨mc, m1, m2⟩ := hlim
   exact ⟨hKb, nsK hns, ⟨mb, nsK hb, hbb⟩, mc, nsK m1, m2⟩
  have TB : TabB (hidT s1.heap H) mg c T := by
   refine ⟨?_, ?_, fun z => ?_⟩
   ·obtain ⟨o, vs, file, tf, flags, tg, inF, text, tt, e1, r1, r2, r3, r⟩ := C
    refine ⟨o, vs, file, tf, flags, tg, inF, text, tt, hidT_get e1 (free e1 (fun vs n z => by rw [r2] at z; cases z) fun z => ?_), r1, r2, r3, r⟩
    rw [r2] at z
    cases z
    simp at r3
   ·obtain ⟨bm, ob, b1, b2, b3, b4, b5, b6⟩ := hbm
    have nG : bm ≠ mainGlobals := fun q => by
     obtain ⟨o, es, ep, e, hd, _⟩ := hns
     rw [q, e] at b3
     cases b3
     rw [hd] at b6
     cases b6
    have nP : bm ≠ T := fun q => by
     rw [q, hT] at b3
     cases b3
     cases b6
    exact ⟨bm, ob, b1, b2, nG, nP, hidT_get b3 (free b3 (fun vs n z => by rw [b6] at z; cases z) fun z => by rw [b6] at z; cases z), b4, b5, b6⟩
   ·obtain ⟨o, es, ep, e, hd, _⟩ := hns
    rw [z, hT] at e
    cases e
    cases hd
  have e0 : Env0 P w K mg (hidT s1.heap H) callerA [] s1 H :=
   { frames := rfl, mod := hM, bs := fun b o e => of_hidT e, bsz := Nat.le_of_eq (hidT_size _ _), funs := trivial, frf := fun b q => absurd (show b ∈ ([] : List Addr) from q) Ycc, hok := hok, bare := .of_eq hg }
  refine codeAny_mono ((F _ hKb (nsK hns) TB).run callerA [] s1 H ⟨[.ref a], []⟩ [.ref a] [.ref a] _ _ hr rfl e0 (hbind s1 (.ref a)) (.cons rfl .nil) (hsp H hHT hS)) ?_
  rintro (e | fl) s' h
  ·exact (hCX H e s' h).elim
  ·cases fl with
   | ret u =>
    obtain ⟨v, H', os, bare, un, hok', r', q⟩ := h
    obtain rfl : v = .bl true := q
    obtain rfl : u = Value.bool true := r'
    have key : ∀ b o, b ≠ T → s1.heap.get? b = some o → s'.heap.get? b = some o := fun b o nb e => by
     rcases hO b nb with z | ⟨ob, xs, z⟩
     ·exact un.keep b o e z (fun m => nomatch (show b ∈ ([] : List Addr) from m)) (fun m => nomatch m)
     ·have z2 := un.frzs b ob _ z
      have e1 := (hok b _ z).1
      have e2 := (hok' b _ z2).1
      rw [e] at e1
      cases e1
      exact e2
    obtain ⟨more, z⟩ := un.tbls T #[] hHT
    have hm : s'.heap.get? T = some { cls := .none, data := .fields (#[] ++ more) } := hok' T _ z
    refine ⟨rfl, ⟨fun b o e => ?_, fun b o e => ?_⟩, os, bare⟩
    ·by_cases hb : b = T
     ·subst hb
      rw [hT] at e
      cases e
      exact .inr (.inl ⟨(C.tab hT).isCodeTable, rfl, #[], more, rfl, hm⟩)
     ·exact .inl (key b o hb e)
    ·by_cases hb : b = T
     ·subst hb
      exact ⟨_, hm⟩
     ·exact ⟨o, key b o hb e⟩
   | next => exact (show False from h).elim
   | brk => exact (show False from h).elim
   | cont => exact (show False from h).elim
 cases hk : K.lookup a with
 | some o =>
  have e := KX a o hk
  rw [ha] at e
  cases e
  refine main (fun b => if b = T then some (.tbl #[]) else none) (if_pos rfl) (fun b nb => .inl (if_neg nb)) (.inr ⟨_, us.toArray, _, hk, rfl, rfl, rfl, by rw [List.size_toArray, lenV]; exact hl, by simpa using rv⟩) (fun b u z => ?_) (fun b z => ?_) fun z => absurd (if_neg aT) z
  ·by_cases hb : b = T
   ·cases (if_pos hb).symm.trans z
    rw [hb]
    exact hT
   ·cases (if_neg hb).symm.trans z
  ·by_cases hb : b = T
   ·exact .inr hb
   ·exact absurd (if_neg hb) z
 | none =>
  refine main (fun b => if b = a then some (.frz { cls := .type "list", data := .seq us.toArray } (.lst Yct)) else if b = T then some (.tbl #[]) else none) ((if_neg (Ne.symm aT)).trans (if_pos rfl)) (fun b nb => ?_) (.inl ⟨{ cls := .type "list", data := .seq us.toArray }, if_pos rfl⟩) (fun b u z => ?_) (fun b z => ?_) fun _ => hk
  ·by_cases hb : b = a
   ·exact .inr ⟨_, _, if_pos hb⟩
   ·exact .inl ((if_neg hb).trans (if_neg nb))
  ·by_cases hb : b = a
   ·cases (if_pos hb).symm.trans z
    subst hb
    exact ⟨ha, by rw [List.length_map]; exact hl, us, _, rv, ha⟩
   ·have z1 := (if_neg hb).symm.trans z
    by_cases hb2 : b = T
    ·cases (if_pos hb2).symm.trans z1
     rw [hb2]
     exact hT
    ·cases (if_neg hb2).symm.trans z1
  ·by_cases hb : b = a
   ·exact .inl hb
   ·by_cases hb2 : b = T
    ·exact .inr hb2
    ·exact absurd ((if_neg hb).trans (if_neg hb2)) z
/-- what a law with lambdas promises of itself at the head's heap -/
def LawT (l : PySem.W.OpenLaw) (w : World) (K : PySem.W.Frag) (CX : CXT) (k : Nat) (x : Str) (mg : Str → Option Value) (fa T : Addr) (h : Heap) (sp : Sp) : Prop :=
 ∃ (fd : FuncData) (c : Addr), K.lookup T = none ∧ PySem.W.CodeHd h c T ∧ LawTab K T ∧ (∀ (s : Shared) (u : Value), BindsTo s fd ⟨[u], []⟩ [(x, u)]) ∧
  ∀ base : Heap, K.In base → base.Ns mainGlobals mg → TabB base mg c T → FnG l.prog w K mg base CX k fa fd [x] sp
theorem walkGT {l : PySem.W.OpenLaw} {n k : Nat} {q : Program} {loose : List Str} {XP : (Str → Option Value) → Heap → Prop} {YP : World → Heap → Prop} {d : DefRec} {K : Params → PySem.W.Frag} {CX : World → CXT} {sp : World → Sp} {x : Str} {T : Addr}
  (hn : l.most = some n) (hn2 : n ≤ sizeLine) (hdf : d.params.defaults = []) (hr : Room k callerA) (hY : ∀ (w : World) (h : Heap), YP w h → (K w.params).In h) (hYT : ∀ (w : World) (h : Heap), YP w h → h.get? T = some tabO)
  (F : ∀ (w : World) (mg : Str → Option Value) (fa : Addr) (h : Heap), (K w.params).In h → h.Ns mainGlobals mg → mg d.name = some (.ref fa) → LawT l w (K w.params) (CX w) k x mg fa T h (sp w))
  (hsp : ∀ (w : World) (H : Hp) (a : Addr) (ns : List Int), ns.length ≤ n → LawTab (K w.params) T → H T = some (.tbl #[]) → ((∃ o, H a = some Yfv) ∨ (∃ (o : Obj) (its : Array Value) (m : Nat), (K w.params).lookup a = some o ∧ o.cls = .type "list" ∧ o.dict = none ∧ o.data = .seq its m ∧ its.size ≤ sizeLine ∧ Vals Yct its.toList)) →
   sp w [.ref a] H (fun v _ => v = .bl true) fun _ _ _ => False)
  (hCX : ∀ (w : World) (H : Hp) (s : Shared) (e : Value) (s' : Shared), CX w [] H s Yd3 e s' → False) :
  PySem.W.WalkO q loose XP YP l.row.toRowW d [] (fun f vs => PySem.call f vs) := by
 refine Att.attach_call hn hdf ?_
 intro w s0 s1 mg mb fa o pm cd doc a us ns G Y ho hd hcd hmg hobj hints hlen hg
 have KX := hY w _ Y
 obtain ⟨fd, c, nT, C, lt, hb, hF⟩ := F w mg fa _ KX G.T.g hmg
 exact law_callGT KX G.T.g G.T.b G.T.builtins G.T.nolimit hg (hYT w _ Y) nT C G.T.bmain hobj hints (Nat.le_trans hlen hn2) hr hF hb (fun H hH hS => hsp w H a ns hlen lt hH hS) fun H e s' => hCX w H s1 e s'
theorem law_spT {K : PySem.W.Frag} {w : World} {F : OpN} {H : Hp} {a Tb : Addr} {q : Str} {ns : List Int} (hF : ∃ hp', F [.t Yai] [some (.tab q)] = .ok (.t Ye9) hp') (lt : LawTab K Tb) (hT : H Tb = some (.tbl #[]))
  (h : (∃ o, H a = some Yfv) ∨ (∃ (o : Obj) (its : Array Value) (m : Nat), K.lookup a = some o ∧ o.cls = .type "list" ∧ o.dict = none ∧ o.data = .seq its m ∧ its.size ≤ sizeLine ∧ Vals Yct its.toList)) :
  spM K w F 1 [.ref a] H (fun v _ => v = .bl true) fun _ _ _ => False := by
 obtain ⟨hp', e⟩ := hF
 let s : S4 := ⟨[Tb], fun b => b = a ∧ ∃ o, H a = some Yfv, [some (.tab q)], H⟩
 have lv : ∀ b, Live s b → b = Tb := fun b l => by
  obtain ⟨i, c, ⟨e1, _⟩, e2⟩ := l
  cases i with
  | zero => simpa [s] using e2.symm
  | succ i => simp [s] at e1
 have R : Rel K w s := by
  refine ⟨rfl, by simp [s], fun b m => ?_, fun b f => ?_, fun b l f => ?_, fun i c b e1 e2 => ?_⟩
  ·rw [List.mem_singleton.mp m]
   show H Tb ≠ none
   rw [hT]
   simp
  ·obtain ⟨e1, o, e2⟩ := f
   subst e1
   show H b ≠ none
   rw [e2]
   simp
  ·obtain ⟨e1, o, e2⟩ := f
   have z := lv b l
   rw [← e1, z, hT] at e2
   cases e2
  ·cases i with
   | succ i => simp [s] at e1
   | zero =>
    simp only [s, List.getElem?_cons_zero, Option.some.injEq] at e1 e2
    subst e1
    subst e2
    exact ⟨lt, #[], hT, True.intro, fun pos cv hc => by
     have z : codeAmong pos [] = some cv := hc
     simp [codeAmong] at z⟩
 refine ⟨s, [.t Yai], rfl, R, ?_, rfl, ?_⟩
 ·refine ⟨.ref a, [], rfl, ?_, rfl⟩
  simp only [Rw, Rf]
  refine ⟨a, ns.map V.int, rfl, ?_, ints_rf ns⟩
  rcases h with ⟨o, h⟩ | h
  ·exact .inl ⟨⟨rfl, o, h⟩, o, h⟩
  ·exact .inr h
 ·show Go K w W0 (Rw K) s (noEr (F [.t Yai] [some (.tab q)])) _
  rw [e]
  intro b s' _ _ _ r
  simpa only [Rw, Rf] using r
end Mir
namespace Mir
open PySem PySem.Spec PySem.SeqAt GQ
open AutoSeq1 (wpAny_loadPart')
open MeetsSeq MeetsSeq2 MeetsSeq3 SeqRoads2
end Mir
namespace Mir
open PySem PySem.Spec L2
open PyProof.Rows hiding St
section
variable {X : Cx} {alts : List Yee}
/-- one alternative for each class, which leaves all cells as they are -/
def InAltsP (X : Cx) : List Yee → Prop
 | [] => True
 | p :: r => (InAlt X p.1 p.2 ∧ ∀ ws hp w h, p.2 ws hp = .ok w h → h = hp) ∧ InAltsP X r
theorem InAltsP.get {X : Cx} : ∀ {alts : List (Str × OpN)} {p : Str × OpN}, InAltsP X alts → p ∈ alts → InAlt X p.1 p.2 ∧ ∀ ws hp w h, p.2 ws hp = .ok w h → h = hp
 | [], _, _, h => nomatch h
 | q :: r, p, ok, h => by
  rcases List.mem_cons.mp h with rfl | h
  ·exact ok.1
  ·exact InAltsP.get ok.2 h
end
end Mir
namespace Mir
open PySem PySem.Spec L2
open PyProof.Rows hiding St
/-- the run ends well, with a value and a heap of which Q holds -/
structure Wp {A : Type} (r : Res A) (Q : A → IH → Prop) : Prop where
 out : match r with
  | .ok a h => Q a h
  | _ => False
section
variable {A B : Type} {r : Res A} {k : A → IH → Res B} {P Q : A → IH → Prop} {R : B → IH → Prop} {a : A} {h hp : IH}
theorem Wp.ok (q : Q a h) : Wp (.ok a h) Q := ⟨q⟩
theorem Wp.ex (q : Wp r Q) : ∃ a h, r = .ok a h ∧ Q a h := by
 obtain ⟨q⟩ := q
 cases r <;> first | exact ⟨_, _, rfl, q⟩ | exact q.elim
theorem Wp.bind (q : Wp r fun a h => Wp (k a h) R) : Wp (r.bind k) R := by
 obtain ⟨a, h, rfl, q2⟩ := q.ex
 exact q2
theorem Wp.noEr (q : Wp r Q) : Wp (noEr r) Q := by
 obtain ⟨a, h, rfl, q2⟩ := q.ex
 exact Wp.ok q2
theorem Wp.mono (q : Wp r P) (i : ∀ a h, P a h → Q a h) : Wp r Q := by
 obtain ⟨a, h, rfl, q2⟩ := q.ex
 exact Wp.ok (i _ _ q2)
theorem Wp.of (e : r = .ok a h) (q : Q a h) : Wp r Q := by rw [e]; exact Wp.ok q
theorem Wp.rw {r' : Res A} (e : r = r') (q : Wp r' Q) : Wp r Q := by rw [e]; exact q
end
section
variable {eta : IS} {hp : IH} {Q : W → IH → Prop} {QL : List W → IH → Prop} {QB : Bool → IH → Prop} {QF : Fl → IH → Prop}
theorem vc_var {i : Nat} {w : W} (e : eta[i]? = some (some w)) (q : Q w hp) : Wp (mVar i eta hp) Q := Wp.of (varP e) q
theorem vc_c {x : T} (q : Q (.t x) hp) : Wp (mC x eta hp) Q := Wp.ok q
theorem vc_bin {f : Op2} {Fa Fb : M W} (q : Wp (Fa eta hp) fun a h1 => Wp (Fb eta h1) fun b h2 => Wp (f a b h2) Q) : Wp (mBin f Fa Fb eta hp) Q := Wp.bind (q.mono fun _ _ q => Wp.bind q)
theorem vc_un {f : Op1} {Fa : M W} (q : Wp (Fa eta hp) fun a h1 => Wp (f a h1) Q) : Wp (mUn f Fa eta hp) Q := Wp.bind q
theorem vc_nil (q : QL [] hp) : Wp (mNil eta hp) QL := Wp.ok q
theorem zcs {Fa : M W} {Fr : M (List W)} (q : Wp (Fa eta hp) fun a h1 => Wp (Fr eta h1) fun r h2 => QL (a :: r) h2) : Wp (zab Fa Fr eta hp) QL := Wp.bind (q.mono fun _ _ q => Wp.bind Yc1)
theorem vc_app {f : OpN} {Fs : M (List W)} (q : Wp (Fs eta hp) fun ws h1 => Wp (f ws h1) Q) : Wp (mApp f Fs eta hp) Q := Wp.bind q
theorem vc_test {f : W → IH → Res Bool} {F : M W} (q : Wp Yfy fun a h1 => Wp (f a h1) QB) : Wp (zal f F eta hp) QB := Wp.bind q
theorem vc_asB {b : Bool} (q : QB b hp) : Wp (asB Yde hp) QB := Wp.ok q
theorem vc_and {U V : M Bool} (q : Wp (U eta hp) fun a h1 => Wp (if a then V eta h1 else .ok false h1) QB) : Wp (mAnd U V eta hp) QB := Wp.bind q
theorem vc_or {U V : M Bool} (q : Wp (U eta hp) fun a h1 => Wp (if a then .ok true h1 else V eta h1) QB) : Wp (mOr U V eta hp) QB := Wp.bind q
theorem vc_not {U : M Bool} (q : Wp (U eta hp) fun a h1 => QB (!a) h1) : Wp (mNot U eta hp) QB := Wp.bind Yc1
theorem vc_if {A : Type} {QA : A → IH → Prop} {U : M Bool} {F G : M A} (q : Wp (U eta hp) fun b h1 => Wp (if b then F eta h1 else G eta h1) QA) : Wp (mIf U F G eta hp) QA := Wp.bind q
theorem vc_skip (q : QF Ydi hp) : Wp (zbc eta hp) QF := Wp.ok q
theorem zcc {S R : M Fl} (q : Wp (S eta hp) fun fl h1 => Wp (thenF R fl h1) QF) : Wp (mSeq S R eta hp) QF := Wp.bind q
theorem vc_nx {R : M Fl} {e : IS} (q : Wp (R e hp) QF) : Wp (thenF R (.nx e) hp) QF := q
theorem vc_rt {R : M Fl} {w : W} (q : QF (.rt w) hp) : Wp (thenF R (.rt w) hp) QF := Wp.ok q
theorem vc_ret {F : M W} (q : Wp Yfy fun a h1 => QF (.rt a) h1) : Wp (mRet F eta hp) QF := Wp.bind Yc1
theorem vc_drop {F : M W} (q : Wp Yfy fun _ h1 => QF Ydi h1) : Wp (mDrop F eta hp) QF := Wp.bind Yc1
theorem vc_set {i : Nat} {F : M W} (q : Wp Yfy fun a h1 => QF (.nx Yfi) h1) : Wp (mSet i F eta hp) QF := Wp.bind Yc1
theorem vc_asg {F : M W} {G : W → IS → Option IS} (q : Wp Yfy fun a h1 => ∃ e, G a eta = some e ∧ QF (.nx e) h1) : Wp (mAsg F G eta hp) QF := Wp.bind (q.mono fun a h1 ⟨e, he, q⟩ => by show Wp (match G a eta with | some e => .ok (.nx e) h1 | none => .bad) QF; rw [he]; exact Wp.ok q)
theorem vc_par2 {i j : Nat} {Fs : M (List W)} (q : Wp (Fs eta hp) fun ws h1 => ∃ a b, ws = [a, b] ∧ QF (.nx ((eta.set i (some a)).set j (some b))) h1) : Wp (mPar [i, j] Fs eta hp) QF := Wp.bind (q.mono fun ws h1 ⟨a, b, he, q⟩ => by subst he; exact Wp.ok q)
theorem vc_parG {n : Nat} {Fs : M (List W)} {Gs : List W → IS → Option IS} (q : Wp (Fs eta hp) fun ws h1 => (ws.length = n ∧ n ≤ 16777216) ∧ ∃ e, Gs ws eta = some e ∧ QF (.nx e) h1) : Wp (mParG n Fs Gs eta hp) QF := Wp.bind (q.mono fun ws h1 ⟨hl, e, he, q⟩ => by
 show Wp (if ws.length = n ∧ n ≤ 16777216 then (match Gs ws eta with | some e => .ok (.nx e) h1 | none => .bad) else .bad) QF
 rw [if_pos hl, he]
 exact Wp.ok q)
theorem vc_for {Fi : M (List W)} {G : W → IS → Option IS} {S : M Fl} (q : Wp (Fi eta hp) fun ws h1 => Wp (forL G S ws eta h1) QF) : Wp (mFor Fi G S eta hp) QF := Wp.bind q
theorem vc_sq {F : M W} (q : Wp Yfy fun a h1 => Wp (sqI a h1) QL) : Wp (mSq F eta hp) QL := Wp.bind q
theorem vc_src {f : List W → IH → Res (List W)} {Fs : M (List W)} (q : Wp (Fs eta hp) fun ws h1 => Wp (f ws h1) QL) : Wp (mSrc f Fs eta hp) QL := Wp.bind q
theorem vc_call {f : OpN} {Fs : M (List W)} (q : Wp (Fs eta hp) fun ws h1 => Wp (f ws h1) Q) : Wp (zas f [] Fs eta hp) Q := Wp.bind (q.mono fun ws h1 q => by
 show Wp (noEr (f (ws ++ [].map W.t) h1)) Q
 rw [List.map_nil, List.append_nil]
 exact Wp.noEr q)
theorem vc_callD {f : OpN} {ds : List T} {Fs : M (List W)} (q : Wp (Fs eta hp) fun ws h1 => Wp (f (ws ++ ds.map W.t) h1) Q) : Wp (zas f ds Fs eta hp) Q := Wp.bind (q.mono fun ws h1 q => Wp.noEr q)
theorem vc_meth {ty : W → IH → Bool} {f : OpM} {Fo : M W} {Fs : M (List W)} (q : Wp (Fo eta hp) fun w h1 => ty w h1 = true ∧ Wp (Fs eta h1) fun ws h2 => Wp (f w ws h2) Q) : Wp (mMeth ty f Fo Fs eta hp) Q := Wp.bind (q.mono fun w h1 ⟨t, q⟩ => by
 show Wp (if ty w h1 = true then (Fs eta h1).bind fun ws h2 => f w ws h2 else .bad) Q
 rw [if_pos t]
 exact Wp.bind q)
theorem vc_sl {Fa : M W} {Fl Fh : MO} (q : Wp (Fa eta hp) fun a h1 => Wp (Fl eta h1) fun l h2 => Wp (Fh eta h2) fun h h3 => Wp (slW a l h h3) Q) : Wp (mSl Fa Fl Fh eta hp) Q := Wp.bind Ygh
theorem vc_slL {Fa : M W} {Fl Fh : MO} (q : Wp (Fa eta hp) fun a h1 => Wp (Fl eta h1) fun l h2 => Wp (Fh eta h2) fun h h3 => Wp (slL a l h h3) Q) : Wp (mSlL Fa Fl Fh eta hp) Q := Wp.bind Ygh
theorem vc_noPart {QO : Option Int → IH → Prop} (q : QO none hp) : Wp (zco eta hp) QO := Wp.ok q
theorem vc_part {QO : Option Int → IH → Prop} {F : M W} (q : Wp Yfy fun a h1 => ∃ i, a = .t (.int i) ∧ QO (some i) h1) : Wp (mPart F eta hp) QO := Wp.bind (q.mono fun a h1 ⟨i, e, q⟩ => by subst e; exact Wp.ok q)
theorem vc_fz {i : Nat} {S : M Fl} {w : W} (e : eta[i]? = some (some w)) (q : Wp (zb4 w hp) fun w' h1 => Wp (S (eta.set i (some w')) h1) QF) : Wp (mFz i S eta hp) QF := by
 rw [p_fz, e]
 exact Wp.bind q
theorem vc_comp {fin : OpN} {Fi : M (List W)} {G : W → IS → Option IS} {U : M Bool} {E : M W} {vs : List Nat} (q : Wp (Fi eta hp) fun ws h1 => ws.length ≤ 16777216 ∧ Wp (zc6 G U E (wipeI eta vs) ws h1) fun r h2 => Wp (fin r h2) Q) : Wp (zb5 fin Fi G U E vs eta hp) Q := Wp.bind (q.mono fun ws h1 ⟨hl, q⟩ => by
 show Wp (if ws.length ≤ 16777216 then (zc6 G U E (wipeI eta vs) ws h1).bind fun r h2 => fin r h2 else .bad) Q
 rw [if_pos hl]
 exact Wp.bind q)
theorem vc_chain {f g : Op2} {Fa Fb Fc : M W} (q : Wp (Fa eta hp) fun a h1 => Wp (Fb eta h1) fun b h2 => Wp (f a b h2) fun z h3 => ∃ t, z = .t (.bl t) ∧ if t then Wp (Fc eta h3) fun c h4 => Wp (g b c h4) Q else Q (.t Yeg) h3) : Wp (mChain f g Fa Fb Fc eta hp) Q :=
 Wp.bind (q.mono fun _ _ q => Wp.bind (q.mono fun _ _ q => Wp.bind (q.mono fun z h3 ⟨t, e, q⟩ => by subst e; cases t <;> first | exact Wp.ok q | exact Wp.bind q)))
theorem vc_fld {cs : List Str} {f : Str} {F : M W} (q : Wp Yfy fun a h1 => Wp (fldW cs f a h1) Q) : Wp (mFld cs f F eta hp) Q := Wp.bind q
theorem vc_yes (q : QB true hp) : Wp (mYes eta hp) QB := Wp.ok q
theorem vc_lstE {ws : List W} {ts : List T} (e : allT ws = some ts) (hl : ts.length ≤ 16777216) (q : Q Yad hp) : Wp (zap ws hp) Q := by
 unfold zap
 simp only [e, hl, if_true]
 exact Wp.ok q
theorem vc_tupE {ws : List W} {ts : List T} (e : allT ws = some ts) (hl : ts.length ≤ 16777216) (q : Q Yaw hp) : Wp (za4 ws hp) Q := by
 unfold za4
 simp only [e, hl, if_true]
 exact Wp.ok q
theorem vc_sqL {ts : List T} (q : QL Yv hp) : Wp (sqI Yad hp) QL := Wp.ok q
theorem vc_sqT {ts : List T} (q : QL Yv hp) : Wp (sqI Yaw hp) QL := Wp.ok q
theorem vc_slWl {ts : List T} {lo hi : Option Int} (q : Q (.t (.lst Ye4)) hp) : Wp (slW Yad lo hi hp) Q := Wp.ok q
theorem vc_slWt {ts : List T} {lo hi : Option Int} (q : Q (.t (.tup Ye4)) hp) : Wp (slW Yaw lo hi hp) Q := Wp.ok q
theorem vc_slLl {ts : List T} {lo hi : Option Int} (q : Q Ycs (hp ++ [some (.lst (cutL Yv lo hi))])) : Wp (slL Yad lo hi hp) Q := Wp.ok q
theorem vc_sm {f : OpM} {Fo Fe : M W} (q : Wp (Fo eta hp) fun w h1 => ∃ a, w = .t (.str a) ∧ Wp (Fe eta h1) fun u h2 => Wp (f (.t (.str a)) [u] h2) Q) : Wp (mSM f Fo Fe eta hp) Q := Wp.bind (q.mono fun w h1 ⟨a, e, q⟩ => by subst e; exact Wp.bind q)
theorem vc_frz {F : M W} (q : Wp Yfy fun a h1 => Wp (zb4 a h1) Q) : Wp (mFrz F eta hp) Q := Wp.bind q
theorem vc_frzD {F : M W} (q : Wp Yfy fun a h1 => Wp (freezeD a h1) Q) : Wp (mFrzD F eta hp) Q := Wp.bind q
theorem vc_fnM {n nn : Nat} {B : M Fl} {ws : List W} {eta : IS} (hl : ws.length = n) (he : ws.map some ++ List.replicate (nn - n) none = eta) (q : Wp (B eta hp) fun fl h1 => ∃ w, fl = .rt w ∧ Q w h1) : Wp (fnM n nn B ws hp) Q := by
 obtain ⟨fl, h1, e, w, rfl, q⟩ := q.ex
 exact Wp.of (fnM_ok hl he e) q
/-- a loop: I holds ahead of each turn, of what is still to come -/
theorem vc_loop {G : W → IS → Option IS} {S : M Fl} (I : List W → IS → IH → Prop) (turn : ∀ w ws eta hp, I (w :: ws) eta hp → ∃ e1, G w eta = some e1 ∧ Wp (S e1 hp) fun fl h => ∃ e, fl = .nx e ∧ I ws e h) : ∀ (ws : List W) (eta : IS) (hp : IH), I ws eta hp → (∀ e h, I [] e h → QF (.nx e) h) → Wp (forL G S ws eta hp) QF
 | [], eta, hp, i, q => Wp.ok (q _ _ i)
 | w :: ws, eta, hp, i, q => by
  obtain ⟨e1, g, t⟩ := turn w ws eta hp i
  obtain ⟨fl, h, e, e2, rfl, i2⟩ := t.ex
  have r := vc_loop I turn ws e2 h i2 q
  simp only [forL, g]
  rw [e, zah]
  exact r
end
end Mir
namespace Mir
open PySem PySem.Spec L2
open PyProof.Rows hiding St
/-- the run ends well (then Q) or with an error (then E) -/
structure Wq {A : Type} (r : Res A) (Q : A → IH → Prop) (E : Ex → IS → IH → Prop) : Prop where
 out : match r with
  | .ok a h => Q a h
  | .er e eta h => E e eta h
  | .bad => False
section
variable {A B : Type} {r : Res A} {k : A → IH → Res B} {P Q : A → IH → Prop} {R : B → IH → Prop} {a : A} {h hp : IH} {E E' : Ex → IS → IH → Prop} {e : Ex} {eta : IS}
theorem Wq.ok (q : Q a h) : Wq (.ok a h) Q E := ⟨q⟩
theorem Wq.er (q : E e eta h) : Wq (.er e eta h : Res A) Q E := ⟨q⟩
theorem Wq.of (q : Wp r Q) : Wq r Q E := by
 obtain ⟨a, h, rfl, q'⟩ := q.ex
 exact Wq.ok q'
theorem Wq.cases (q : Wq r Q E) : (∃ a h, r = .ok a h ∧ Q a h) ∨ ∃ e eta h, r = .er e eta h ∧ E e eta h := by
 obtain ⟨q⟩ := q
 cases r with
 | ok a h => exact .inl ⟨a, h, rfl, q⟩
 | er e eta h => exact .inr ⟨e, eta, h, rfl, q⟩
 | bad => exact q.elim
theorem Wq.mono (q : Wq r P E) (i : ∀ a h, P a h → Q a h) (j : ∀ e eta h, E e eta h → E' e eta h) : Wq r Q E' := by
 rcases q.cases with ⟨a, h, rfl, q'⟩ | ⟨e, eta, h, rfl, q'⟩
 ·exact Wq.ok (i _ _ q')
 ·exact Wq.er (j _ _ _ q')
theorem Wq.bind (q : Wq r (fun a h => Wq (k a h) R E) E) : Wq (r.bind k) R E := by
 rcases q.cases with ⟨a, h, rfl, q'⟩ | ⟨e, eta, h, rfl, q'⟩
 ·exact q'
 ·exact Wq.er q'
end
end Mir
namespace D
open PySem PySem.Spec L2 Mir
open PyProof.Rows hiding St
theorem exm_self {K : PySem.W.Frag} {S : Addr} (h1 : PySem.W.subIn K (.ref S) Ydb = some true) (h2 : PySem.W.isClsIn K S = true) (h3 : PySem.W.typeIn K (.ref S) = some Ydy) (h4 : PySem.W.subIn K (.ref S) (.ref S) = some true) : PySem.W.exmOne K (.ref S) (.ref S) = some true := by
 have h2' : (PySem.W.clsIn K S).isSome = true := h2
 unfold PySem.W.exmOne
 simp [PySem.W.kitCls, h1, h2', h3, h4]
abbrev DFn (K : PySem.W.Frag) (x q : Str) (s : Stmt) (a : Addr) (d : FuncData) : Prop := FunD K x q (defArgs s) (defBody s) (defScope s) [] [] a d
def MDf (K : PySem.W.Frag) (x : Str) (s : Stmt) (a : Addr) (d : FuncData) : Prop := PySem.W.nsIn K mainGlobals x = some Ye5 ∧ DFn K x x s a d
def HDf (K : PySem.W.Frag) (C : Addr) (x q : Str) (s : Stmt) (a : Addr) (d : FuncData) : Prop := PySem.W.findIn K (.ref C) x = some Ye5 ∧ PySem.W.isFn K (.ref a) = true ∧ DFn K x q s a d
section
variable {K : PySem.W.Frag} {x q : Str} {s : Stmt} {C a : Addr} {d : FuncData}
theorem DFn.of {oc kV dc pm cd ct : Value} {od an : Option Addr} {sl : Array Ya6} (h1 : K.lookup a = some ⟨oc, od, .func Yam, sl⟩) (h2 : PySem.W.codeIn K cd q = true) (h3 : PySem.W.keepIn K (.ref a) = true) :
  DFn K x q s a Yam := ⟨⟨oc, od, .none, kV, dc, pm, an, cd, ct, sl, rfl, h1, h2, .inl ⟨rfl, rfl⟩, .inl rfl⟩, h3⟩
theorem _root_.PyProof.Rows.FunD.kp {A : Arguments} {B : List Stmt} {S : Scope} {l : List V} {k : List Ycy} (h : FunD K x q A B S l k a d) : PySem.W.keepIn K (.ref a) = true := h.2
theorem MDf.of {oc kV dc pm cd ct : Value} {od an : Option Addr} {sl : Array Ya6} (h0 : PySem.W.nsIn K mainGlobals x = some Ye5) (h1 : K.lookup a = some ⟨oc, od, .func Yeu, sl⟩) (h2 : PySem.W.codeIn K cd x = true) (h3 : PySem.W.keepIn K (.ref a) = true) :
  MDf K x s a Yeu := ⟨h0, DFn.of h1 h2 h3⟩
theorem HDf.of {oc kV dc pm cd ct : Value} {od an : Option Addr} {sl : Array Ya6} (h0 : PySem.W.findIn K (.ref C) x = some Ye5) (h4 : PySem.W.isFn K (.ref a) = true) (h1 : K.lookup a = some ⟨oc, od, .func Yam, sl⟩) (h2 : PySem.W.codeIn K cd q = true) (h3 : PySem.W.keepIn K (.ref a) = true) :
  HDf K C x q s a Yam := ⟨h0, h4, DFn.of h1 h2 h3⟩
theorem kt_of {t : Value} (hd : PySem.W.hasDictIn K C = true) (ty : PySem.W.typeIn K (.ref C) = some Ydy) (s : PySem.W.subIn K t (.ref C) = some false) (ne : (t == .ref C) = false) : PySem.W.kitOne K t (.ref C) = some false := by
 obtain ⟨cd, hc, _⟩ := PySem.W.any_some hd
 unfold PySem.W.kitOne
 rw [ne, if_neg Ybo]
 show (if _ then _ else _) = _
 rw [if_pos (by rw [hc, ty]; rfl)]
 exact s
theorem ne_of {B : Addr} (h : C ≠ B) : ((Value.ref C) == .ref B) = false := Bool.eq_false_iff.mpr fun q => h (Value.ref.inj (beq_iff_eq.mp q))
theorem HDf.me (h : HDf K C x q s a d) : Meth K C x a := ⟨h.1, h.2.1, h.2.2.kp⟩
end
/-- a code object whose table lies at T -/
def CodeOk (o : Obj) (c T : Addr) : Prop := ∃ vs file tf flags tg inF text tt, o.cls = .type "code" ∧ o.data = .fields vs ∧ vs[11]? = some (.ref T) ∧ vs.getD 11 .none = .ref T ∧ vs.getD 18 .none = .str file tf ∧ vs.getD 7 .none = .int flags tg ∧ vs.getD 9 .none = .bool inF ∧ vs.getD 10 .none = .int text tt ∧ c ≠ T
theorem lawTab_of {K : PySem.W.Frag} {s : Stmt} {a c T : Addr} {d : FuncData} {o : Obj} (h : MDf K "law" s a d) (hc : d.code = .ref c) (lc : K.lookup c = some o) (ok : CodeOk o c T) : LawTab K T := by
 obtain ⟨oc, od, dV, kV, doc, pm, an, cdv, ct, osl, rfl, lk, _⟩ := h.2.ex
 obtain ⟨vs, file, tf, flags, tg, inF, text, tt, h1, h2, h3, _⟩ := ok
 exact ⟨a, _, _, c, o, vs, h.1, lk, rfl, hc, lc, h2, h3⟩
theorem codeHd_of {K : PySem.W.Frag} {h : Heap} {c T : Addr} {o : Obj} (KX : K.In h) (lc : K.lookup c = some o) (ok : CodeOk o c T) : PySem.W.CodeHd h c T := by
 obtain ⟨vs, file, tf, flags, tg, inF, text, tt, h1, h2, h3, r⟩ := ok
 exact ⟨o, vs, file, tf, flags, tg, inF, text, tt, KX _ _ lc, h1, h2, h3, r⟩
open PySem.W in
/-- the head's facts, and the law's table as it is there -/
def hookT (K : Params → Frag) (as : List Addr) (e : ∀ P, as = (K P).map (·.1)) (T : Addr) : Hook :=
 ⟨List (Option Obj), fun s => (as ++ [T]).map s.heap.get?, fun w => ((K w.params).map fun p => some p.2) ++ [some Mir.tabO], fun w h => InK K w h ∧ h.get? T = some Mir.tabO,
  fun w s x => by
   rw [List.map_append] at x
   obtain ⟨a, b⟩ := List.append_inj x (by rw [e w.params]; simp)
   exact ⟨InK.of e w s a, by simpa using b⟩,
  fun w h h' x k => ⟨InK.keeps w h h' x.1 k, k _ _ x.2⟩⟩
theorem no_cx {P : Program} {w : World} {o : List Env} {H : Hp} {s : Shared} {e : Value} {s' : Shared} (h : L2.CX P w o H s Yd3 e s') : False := by
 obtain ⟨_, _, _, _, _, _, _, _, _, _, _, _, f⟩ := h
 exact f
def topS (i : Nat) : Stmt := PySem.Challenge.pw_untorn_k09_designs_refused.main.body.getD i (.Pass ⟨0, 0, 0, 0⟩)
abbrev s_is_name : Stmt := topS 15
abbrev yh3 : Stmt := topS 14
abbrev ync : Stmt := topS 26
abbrev ydm : Stmt := topS 27
abbrev yk3 : Stmt := inClass (topS 32) 0
abbrev yhz : Stmt := topS 16
abbrev ynd : Stmt := topS 28
abbrev yh1 : Stmt := topS 29
abbrev ygz : Stmt := topS 30
abbrev y2 : Stmt := inClass (topS 33) 0
abbrev yhg : Stmt := topS 47
abbrev yoq : Stmt := topS 48
abbrev ymg : Stmt := inClass (topS 32) 6
abbrev yil : Stmt := inClass (topS 33) 6
abbrev yor : Stmt := topS 49
abbrev yos : Stmt := topS 51
abbrev yg0 : Stmt := topS 52
abbrev yh2 : Stmt := topS 50
abbrev yim : Stmt := topS 37
abbrev yf9 : Stmt := topS 38
abbrev yeq : Stmt := topS 39
abbrev yin : Stmt := topS 13
abbrev ymh : Stmt := topS 40
abbrev yfc : Stmt := topS 41
abbrev y6 : Stmt := inClass (topS 45) 0
abbrev ya3 : Stmt := inClass (topS 45) 10
abbrev yh0 : Stmt := topS 53
abbrev AllMk (F : OpN) : Prop := ∀ {l : PySem.W.OpenLaw} {w : World} {K : PySem.W.Frag} {h : Heap} {mg : Str → Option Value} {fa : Addr} (KX : K.In h) (G : h.Ns mainGlobals mg) (hfa : mg "law" = some (.ref fa))
  {y9 : Addr} (ydl : PySem.W.nsIn K mainGlobals "Design" = some (some (.ref y9)))
  (ykh : PySem.W.plainGet K y9 Str.empty = true)
  (yki : PySem.W.hasDictIn K y9 = true)
  (ykj : PySem.W.plainOver K y9 = true)
  (ykk : PySem.W.findIn K (.ref y9) "__setattr__" = some Ya9)
  (ykl : PySem.W.makesIn K y9 = true)
  (ykm : PySem.W.keepIn K (.ref y9) = true)
  (ydn : PySem.W.findIn K (.ref y9) "rounds" = some none)
  (ycl : PySem.W.findIn K (.ref y9) "readers" = some none)
  (ye2 : PySem.W.findIn K (.ref y9) "kinds" = some none)
  {yj : Addr} (yaf : PySem.W.nsIn K mainGlobals "Kind" = some (some Ya3))
  (yn0 : PySem.W.plainGet K yj Str.empty = true)
  (ycz : PySem.W.hasDictIn K yj = true)
  (yn1 : PySem.W.plainOver K yj = true)
  (yn2 : PySem.W.findIn K Ya3 "__setattr__" = some Ya9)
  (yn3 : PySem.W.makesIn K yj = true)
  (yn4 : PySem.W.keepIn K Ya3 = true)
  (yga : PySem.W.findIn K Ya3 "deeds" = some none)
  (ygb : PySem.W.findIn K Ya3 "steps" = some none)
  (yg1 : PySem.W.findIn K Ya3 "name" = some none)
  {ye : Addr} (yz : PySem.W.nsIn K mainGlobals "Reader" = some (some Yau))
  (ykn : PySem.W.plainGet K ye Str.empty = true)
  (ybc : PySem.W.hasDictIn K ye = true)
  (yko : PySem.W.plainOver K ye = true)
  (ykp : PySem.W.findIn K Yau "__setattr__" = some Ya9)
  (ykq : PySem.W.makesIn K ye = true)
  (ykr : PySem.W.keepIn K Yau = true)
  (ye3 : PySem.W.findIn K Yau "deeds" = some none)
  (ye4 : PySem.W.findIn K Yau "steps" = some none)
  (yfh : PySem.W.findIn K Yau "name" = some none)
  (ye5 : PySem.W.findIn K Yau "tests" = some none)
  (ydo : PySem.W.findIn K Yau "checks" = some none)
  (ih : PySem.W.specialIn K Y7 "__get__" = some Yd8)
  (it : PySem.W.takesIn K Y7 = some true)
  (ia_Kind : PySem.W.findIn K Ya3 "__class__" = some (some Y7))
  (im_Kind : PySem.W.mroIn K yj Yem = some true)
  (ia_Reader : PySem.W.findIn K Yau "__class__" = some (some Y7))
  (im_Reader : PySem.W.mroIn K ye Yem = some true)
  (kz_Kind_str : PySem.W.subIn K Ya3 Ycu = some false)
  (kz_Kind_tuple : PySem.W.subIn K Ya3 Yce = some false)
  (kz_Kind_list : PySem.W.subIn K Ya3 Yes = some false)
  (kz_Kind_int : PySem.W.subIn K Ya3 Yfb = some false)
  (ty_Kind : PySem.W.typeIn K Ya3 = some Ydy)
  (ydp : PySem.W.subIn K Yex Ya3 = some false)
  (ks_bool_Kind : PySem.W.subIn K (.type "bool") Ya3 = some false)
  (ks_int_Kind : PySem.W.subIn K Yfb Ya3 = some false)
  (ks_str_Kind : PySem.W.subIn K Ycu Ya3 = some false)
  (ks_list_Kind : PySem.W.subIn K Yes Ya3 = some false)
  (ks_tuple_Kind : PySem.W.subIn K Yce Ya3 = some false)
  (kz_Reader_str : PySem.W.subIn K Yau Ycu = some false)
  (kz_Reader_tuple : PySem.W.subIn K Yau Yce = some false)
  (kz_Reader_list : PySem.W.subIn K Yau Yes = some false)
  (kz_Reader_int : PySem.W.subIn K Yau Yfb = some false)
  (ty_Reader : PySem.W.typeIn K Yau = some Ydy)
  (ycd : PySem.W.subIn K Yex Yau = some false)
  (ks_bool_Reader : PySem.W.subIn K (.type "bool") Yau = some false)
  (ks_int_Reader : PySem.W.subIn K Yfb Yau = some false)
  (ks_str_Reader : PySem.W.subIn K Ycu Yau = some false)
  (ks_list_Reader : PySem.W.subIn K Yes Yau = some false)
  (ks_tuple_Reader : PySem.W.subIn K Yce Yau = some false)
  (sb_Kind_Reader : PySem.W.subIn K Ya3 Yau = some false)
  (ne_Kind_Reader : yj ≠ ye)
  (sb_Reader_Kind : PySem.W.subIn K Yau Ya3 = some false)
  (ne_Reader_Kind : ye ≠ yj)
  {yb : Addr} (ybv : PySem.W.nsIn K mainGlobals "InvalidDesign" = some (some Yb7))
  {yio yip : Str} {yiq : Addr} {yir ygk : List Value} {yis : List Str} {yit : List Value} {yiu : Bool} {yf : Option Bool} {yiv : Option Addr} {yiw yix yiy yiz yi0 : Option Value} (ydq : K.lookup yb = some (excClassObj yio yip yb yiq yir ygk true yis yit yiu yf yiv yiw yix yiy yiz yi0 "ValueError.__new__"))
  (ydr : PySem.HandSPX.refsVE ygk = true)
  (ycm : PySem.W.findIn K Yb7 "__setattr__" = some Ya9)
  (ya5 : PySem.W.subIn K Yb7 Ydb = some true)
  (ybw : PySem.W.typeIn K Yb7 = some Ydy)
  (yds : PySem.W.keepIn K Yb7 = true)
  {y7 : Addr} (ybx : PySem.W.findIn K Yb7 "__init__" = some (some (.ref y7)))
  (yby : PySem.W.typeIn K (.ref y7) = some Ydu)
  {yi1 ydt ydu ydv ydw : Value} {yi2 ydx : Option Addr} {ya6 ybz : Addr} {yi3 : Array Ya6} (ydy : K.lookup y7 = some ⟨yi1, yi2, .func Yp, yi3⟩)
  (ydz : PySem.W.codeIn K (.ref ya6) "InvalidDesign.__init__" = true)
  {yi4 : Value} {yi5 : Option Addr} {ygl : Array Value} {yi6 : Array Ya6} {ygm : Str} {yi7 : Tok} (yd0 : K.lookup ya6 = some ⟨yi4, yi5, .fields ygl, yi6⟩)
  (yd1 : ygl[2]? = some (.str ygm yi7))
  (yd2 : ((l.prog.main.file : Str) == ygm) = true)
  {yi8 : Value} {yi9 : Option Addr} {yja : Array Ya6} (yd3 : K.lookup ybz = some ⟨yi8, yi9, .cell (some Yb7), yja⟩)
  (yd4 : PySem.W.ks_superIn K yb yb "__init__" = some Ybw)
  (yd5 : PySem.W.subIn K Yb7 (.type "ValueError") = some true)
  (yd6 : PySem.W.mroIn K yb Yb7 = some true)
  (ybk : PySem.W.findIn K Yb7 "word" = some none)
  (ycn : PySem.W.isClsIn K yb = true)
  (yco : PySem.W.subIn K Yb7 Yb7 = some true)
  {yg : Addr} (yk : PySem.W.nsIn K mainGlobals "InvalidKind" = some (some Yd9))
  {ylj ylk : Str} {yll : Addr} {ylm yhh : List Value} {yln : List Str} {ylo : List Value} {ylp : Bool} {ylq : Option Bool} {ylr : Option Addr} {yls ylt ylu ylv ylw : Option Value} (yfi : K.lookup yg = some (excClassObj ylj ylk yg yll ylm yhh true yln ylo ylp ylq ylr yls ylt ylu ylv ylw "ValueError.__new__"))
  (yfj : PySem.HandSPX.refsVE yhh = true)
  (ye6 : PySem.W.findIn K Yd9 "__setattr__" = some Ya9)
  (yc0 : PySem.W.subIn K Yd9 Ydb = some true)
  (ybp : PySem.W.typeIn K Yd9 = some Ydy)
  (yfk : PySem.W.keepIn K Yd9 = true)
  {ya2 : Addr} (yc1 : PySem.W.findIn K Yd9 "__init__" = some (some (.ref ya2)))
  (yc2 : PySem.W.typeIn K (.ref ya2) = some Ydu)
  {ylx yfl yfm yfn yfo : Value} {yly yfp : Option Addr} {ybq yc3 : Addr} {ylz : Array Ya6} (yfq : K.lookup ya2 = some ⟨ylx, yly, .func Yr, ylz⟩)
  (yfr : PySem.W.codeIn K (.ref ybq) "InvalidKind.__init__" = true)
  {yl0 : Value} {yl1 : Option Addr} {yhi : Array Value} {yl2 : Array Ya6} {yhj : Str} {yl3 : Tok} (yfs : K.lookup ybq = some ⟨yl0, yl1, .fields yhi, yl2⟩)
  (yft : yhi[2]? = some (.str yhj yl3))
  (yfu : ((l.prog.main.file : Str) == yhj) = true)
  {yl4 : Value} {yl5 : Option Addr} {yl6 : Array Ya6} (yfv : K.lookup yc3 = some ⟨yl4, yl5, .cell (some Yd9), yl6⟩)
  (yfw : PySem.W.ks_superIn K yg yg "__init__" = some Ybw)
  (yfx : PySem.W.subIn K Yd9 (.type "ValueError") = some true)
  (yfy : PySem.W.mroIn K yg Yd9 = some true)
  (ye7 : PySem.W.findIn K Yd9 "word" = some none)
  (ye8 : PySem.W.isClsIn K yg = true)
  (ye9 : PySem.W.subIn K Yd9 Yd9 = some true)
  {yd : Addr} (yh : PySem.W.nsIn K mainGlobals "InvalidReader" = some (some Yea))
  {yjb yjc : Str} {yjd : Addr} {yje ygn : List Value} {yjf : List Str} {yjg : List Value} {yjh : Bool} {yji : Option Bool} {yjj : Option Addr} {yjk yjl yjm yjn yjo : Option Value} (yd7 : K.lookup yd = some (excClassObj yjb yjc yd yjd yje ygn true yjf yjg yjh yji yjj yjk yjl yjm yjn yjo "ValueError.__new__"))
  (yd8 : PySem.HandSPX.refsVE ygn = true)
  (ycp : PySem.W.findIn K Yea "__setattr__" = some Ya9)
  (yb0 : PySem.W.subIn K Yea Ydb = some true)
  (ya7 : PySem.W.typeIn K Yea = some Ydy)
  (yd9 : PySem.W.keepIn K Yea = true)
  {yau : Addr} (yb1 : PySem.W.findIn K Yea "__init__" = some (some (.ref yau)))
  (yb2 : PySem.W.typeIn K (.ref yau) = some Ydu)
  {yjp yea yeb yec yed : Value} {yjq yee : Option Addr} {ya8 yb3 : Addr} {yjr : Array Ya6} (yef : K.lookup yau = some ⟨yjp, yjq, .func Yq, yjr⟩)
  (yeg : PySem.W.codeIn K (.ref ya8) "InvalidReader.__init__" = true)
  {yjs : Value} {yjt : Option Addr} {ygo : Array Value} {yju : Array Ya6} {ygp : Str} {yjv : Tok} (yeh : K.lookup ya8 = some ⟨yjs, yjt, .fields ygo, yju⟩)
  (yei : ygo[2]? = some (.str ygp yjv))
  (yej : ((l.prog.main.file : Str) == ygp) = true)
  {yjw : Value} {yjx : Option Addr} {yjy : Array Ya6} (yek : K.lookup yb3 = some ⟨yjw, yjx, .cell (some Yea), yjy⟩)
  (yel : PySem.W.ks_superIn K yd yd "__init__" = some Ybw)
  (yem : PySem.W.subIn K Yea (.type "ValueError") = some true)
  (yen : PySem.W.mroIn K yd Yea = some true)
  (ycq : PySem.W.findIn K Yea "word" = some none)
  (ycr : PySem.W.isClsIn K yd = true)
  (ycs : PySem.W.subIn K Yea Yea = some true)
  (yct : PySem.W.findIn K Yb7 "__getattribute__" = some (some (.builtin "BaseException.__getattribute__")))
  (ycu : PySem.W.findIn K Yb7 "__getattr__" = some none)
  (ycv : PySem.W.hasDictIn K yb = true)
  (ycw : PySem.W.findIn K Yb7 "__class__" = some (some Y7))
  (ycx : PySem.W.mroIn K yb Yem = some true)
  (ycy : PySem.W.hasDictIn K yd = true)
  (yfa : PySem.W.hasDictIn K yg = true)
  {yam : Addr} (yn : PySem.W.nsIn K mainGlobals "RecordError" = some (some (.ref yam)))
  (yfb : PySem.W.hasDictIn K yam = true)
  (yfz : PySem.W.typeIn K (.ref yam) = some Ydy)
  (yai : PySem.W.subIn K Yb7 Yea = some false)
  (yaj : yb ≠ yd)
  (yao : PySem.W.subIn K Yb7 Yd9 = some false)
  (yap : yb ≠ yg)
  (yaq : PySem.W.subIn K Yb7 (.ref yam) = some true)
  (yar : yb ≠ yam)
  (xsup : PySem.W.nsIn K mainGlobals "super" = some none)
  (xany : PySem.W.nsIn K PySem.cStatics "thirdparty.any" = some none)
  (xtop : (l.prog.main.scope.names.lookup ("super" : Str)).isSome = false)
  {v_MOST_LETTERS : Tok} (w_MOST_LETTERS : PySem.W.nsIn K mainGlobals "MOST_LETTERS" = some (some (.int (4) v_MOST_LETTERS)))
  {v_MOST_DIGITS_scripts : Tok} (w_MOST_DIGITS_scripts : PySem.W.nsIn K mainGlobals "MOST_DIGITS_scripts" = some (some (.int (9) v_MOST_DIGITS_scripts)))
  {v_LEAST_ROUND : Tok} (w_LEAST_ROUND : PySem.W.nsIn K mainGlobals "LEAST_ROUND" = some (some (.int (2) v_LEAST_ROUND)))
  {v_LETTERS : Tok} (w_LETTERS : PySem.W.nsIn K mainGlobals "LETTERS" = some (some (.str "abcdefghijklmnopqrstuvwxyz" v_LETTERS)))
  {v_DIGITS : Tok} (w_DIGITS : PySem.W.nsIn K mainGlobals "DIGITS" = some (some (.str "0123456789" v_DIGITS)))
  {yhk : Addr} {o_BARRED : Obj} {us_BARRED : List Value} {ymi : Nat} (w_BARRED : PySem.W.nsIn K mainGlobals "BARRED" = some (some (.ref yhk)))
  (lk_BARRED : K.lookup yhk = some o_BARRED)
  (ygs : o_BARRED.cls = .type "tuple")
  (ygt : o_BARRED.dict = none)
  (oa_BARRED : o_BARRED.data = .seq us_BARRED.toArray ymi)
  (or_BARRED : Vals Yev us_BARRED)
  (oz_BARRED : us_BARRED.length ≤ 1000)
  {ybr : Addr} {o_WRITER_WORDS : Obj} {us_WRITER_WORDS : List Value} {yf0 : Nat} (w_WRITER_WORDS : PySem.W.nsIn K mainGlobals "WRITER_WORDS" = some (some (.ref ybr)))
  (lk_WRITER_WORDS : K.lookup ybr = some o_WRITER_WORDS)
  (ybd : o_WRITER_WORDS.cls = .type "tuple")
  (ybe : o_WRITER_WORDS.dict = none)
  (oa_WRITER_WORDS : o_WRITER_WORDS.data = .seq us_WRITER_WORDS.toArray yf0)
  (or_WRITER_WORDS : Vals ((["write", "bump"] : List Str).map V.str) us_WRITER_WORDS)
  (oz_WRITER_WORDS : us_WRITER_WORDS.length ≤ 1000)
  {ybs : Addr} {o_READER_WORDS : Obj} {us_READER_WORDS : List Value} {yf1 : Nat} (w_READER_WORDS : PySem.W.nsIn K mainGlobals "READER_WORDS" = some (some (.ref ybs)))
  (lk_READER_WORDS : K.lookup ybs = some o_READER_WORDS)
  (ybf : o_READER_WORDS.cls = .type "tuple")
  (ybg : o_READER_WORDS.dict = none)
  (oa_READER_WORDS : o_READER_WORDS.data = .seq us_READER_WORDS.toArray yf1)
  (or_READER_WORDS : Vals ((["read", "look"] : List Str).map V.str) us_READER_WORDS)
  (oz_READER_WORDS : us_READER_WORDS.length ≤ 1000)
  (yqi : PySem.W.nsIn K mainGlobals "all" = some none)
  (yg2 : PySem.W.nsIn K mainGlobals "isinstance" = some none)
  (yqj : PySem.W.nsIn K mainGlobals "str" = some none)
  (yqk : PySem.W.nsIn K mainGlobals "len" = some none)
  (yn5 : PySem.W.nsIn K mainGlobals "tuple" = some none)
  (yo1 : PySem.W.nsIn K mainGlobals "list" = some none)
  (yql : PySem.W.nsIn K mainGlobals "set" = some none)
  (yqm : PySem.W.nsIn K mainGlobals "int" = some none)
  (yqn : PySem.W.nsIn K mainGlobals "abs" = some none)
  (yo2 : PySem.W.nsIn K mainGlobals "bool" = some none)
  (ymj : PySem.W.nsIn K mainGlobals "sorted" = some none)
  (yn6 : PySem.W.nsIn K mainGlobals "range" = some none)
  (yqo : PySem.W.nsIn K mainGlobals "max" = some none)
  (yqp : PySem.W.nsIn K mainGlobals "min" = some none)
  {ad_is_name : Addr} {yo3 : FuncData} (ygu : MDf K "is_name" s_is_name ad_is_name yo3)
  {ad_is_sequence : Addr} {yl7 : FuncData} (yb8 : MDf K "is_sequence" yh3 ad_is_sequence yl7)
  {ad_deed_in : Addr} {yo4 : FuncData} (ygv : MDf K "deed_in" ync ad_deed_in yo4)
  {ad_deeds_in : Addr} {yoa : FuncData} (yf2 : MDf K "deeds_in" ydm ad_deeds_in yoa)
  {ad_Kind_init : Addr} {yne : FuncData} (yeu : HDf K yj "__init__" "Kind.__init__" yk3 ad_Kind_init yne)
  {ad_number_in : Addr} {ynf : FuncData} (yev : MDf K "number_in" yhz ad_number_in ynf)
  {ad_spot_in : Addr} {yo5 : FuncData} (ygw : MDf K "spot_in" ynd ad_spot_in yo5)
  {ad_test_in : Addr} {yo6 : FuncData} (ygx : MDf K "test_in" yh1 ad_test_in yo6)
  {ad_tests_in : Addr} {yob : FuncData} (yf3 : MDf K "tests_in" ygz ad_tests_in yob)
  {ad_Reader_init : Addr} {yhl yc4 yc5 yc6 ybt yc7 : Value} {yhm yc8 : Option Addr} {sl_Reader_init : Array Ya6}
  {ybi : Addr} {to_Reader_init : Obj} {tn_Reader_init : Nat}
  (at_Reader_init : PySem.W.findIn K Yau "__init__" = some (some (.ref ad_Reader_init)))
  (fn_Reader_init : PySem.W.isFn K (.ref ad_Reader_init) = true)
  (ygc : K.lookup ad_Reader_init = some ⟨yhl, yhm, .func Yaj, sl_Reader_init⟩)
  (ygd : PySem.W.codeIn K ybt "Reader.__init__" = true)
  (yge : PySem.W.keepIn K (.ref ad_Reader_init) = true)
  {e_Reader_init : Addr} {eo_Reader_init : Obj} {en_Reader_init : Nat}
  (t_Reader_init : K.lookup ybi = some to_Reader_init)
  (u_Reader_init : to_Reader_init.data = .seq ([.ref e_Reader_init] : List Value).toArray tn_Reader_init)
  (el_Reader_init : K.lookup e_Reader_init = some eo_Reader_init)
  (ec_Reader_init : eo_Reader_init.cls = .type "tuple")
  (ed_Reader_init : eo_Reader_init.dict = none)
  (ea_Reader_init : eo_Reader_init.data = .seq #[] en_Reader_init)
  {ad_w_deal : Addr} {ypu : FuncData} (yhn : MDf K "_law_deal" yhg ad_w_deal ypu)
  {ad_w_draw : Addr} {ypv : FuncData} (yho : MDf K "_law_draw" yoq ad_w_draw ypv)
  {ad_Kind_str : Addr} {yoc : FuncData} (yg3 : HDf K yj "__str__" "Kind.__str__" ymg ad_Kind_str yoc)
  {ad_Reader_str : Addr} {ymw : FuncData} (yfd : HDf K ye "__str__" "Reader.__str__" yil ad_Reader_str ymw)
  {ad_w_pick : Addr} {ypw : FuncData} (yhp : MDf K "_law_pick" yor ad_w_pick ypw)
  {ad_w_bent : Addr} {ypx : FuncData} (yhq : MDf K "_law_bent" yos ad_w_bent ypx)
  {ad_w_bent_rounds : Addr} {yjz : FuncData} (ybh : MDf K "_law_bent_rounds" yg0 ad_w_bent_rounds yjz)
  {ad_w_heard : Addr} {yo7 : FuncData} (ygy : MDf K "_law_heard" yh2 ad_w_heard yo7)
  {ad_are_unlike : Addr} {ymx : FuncData} (yc9 : MDf K "are_unlike" yim ad_are_unlike ymx)
  {ad_are_kinds : Addr} {yng : FuncData} (yew : MDf K "are_kinds" yf9 ad_are_kinds yng)
  {ad_are_readers : Addr} {yl8 : FuncData} (yb9 : MDf K "are_readers" yeq ad_are_readers yl8)
  {ad_is_integer : Addr} {ymy : FuncData} (yda : MDf K "is_integer" yin ad_is_integer ymy)
  {ad_is_round : Addr} {yod : FuncData} (yf4 : MDf K "is_round" ymh ad_is_round yod)
  {ad_are_rounds : Addr} {ymz : FuncData} (ydb : MDf K "are_rounds" yfc ad_are_rounds ymz)
  {ad_Design_init : Addr} {yhr ydc ydd yde ybu ydf : Value} {yhs ydg : Option Addr} {sl_Design_init : Array Ya6}
  {ybj : Addr} {to_Design_init : Obj} {tn_Design_init : Nat}
  (at_Design_init : PySem.W.findIn K (.ref y9) "__init__" = some (some (.ref ad_Design_init)))
  (fn_Design_init : PySem.W.isFn K (.ref ad_Design_init) = true)
  (ygf : K.lookup ad_Design_init = some ⟨yhr, yhs, .func Yak, sl_Design_init⟩)
  (ygg : PySem.W.codeIn K ybu "Design.__init__" = true)
  (ygh : PySem.W.keepIn K (.ref ad_Design_init) = true)
  {e_Design_init : Addr} {eo_Design_init : Obj} {en_Design_init : Nat}
  (t_Design_init : K.lookup ybj = some to_Design_init)
  (u_Design_init : to_Design_init.data = .seq ([.ref e_Design_init] : List Value).toArray tn_Design_init)
  (el_Design_init : K.lookup e_Design_init = some eo_Design_init)
  (ec_Design_init : eo_Design_init.cls = .type "tuple")
  (ed_Design_init : eo_Design_init.dict = none)
  (ea_Design_init : eo_Design_init.data = .seq #[] en_Design_init)
  {ad_Design_with_round : Addr} {yg4 : FuncData} (ya4 : HDf K y9 "with_round" "Design.with_round" ya3 ad_Design_with_round yg4)
  {ad_law : Addr} {yqr : FuncData} (yn7 : MDf K "law" yh0 ad_law yqr)
  {c_L tL : Addr} {o_L : Obj}
  (hcL : yqr.code = .ref c_L)
  (lcL : K.lookup c_L = some o_L)
  (okL : CodeOk o_L c_L tL)
  (nT : K.lookup tL = none), LawT l w K (L2.CX l.prog w) 9 "_law_script" mg fa tL h (spM K w F 1)
end D
section
namespace D
open PySem PySem.W PySem.Calls PyProof.Rows
abbrev rowH : OpenRow := OpenLaw.row PySem.Challenge.rw_untorn_k09_designs_refused
abbrev viewH : Program := view rowH.prog [53]
def looseH : List PySem.Str := (["_wall", "RecordError", "InvalidKind", "InvalidReader", "InvalidDesign", "InvalidText", "NoName", "BARRED", "LETTERS", "DIGITS", "MOST_LETTERS", "is_integer", "is_sequence", "is_name", "number_in", "WRITER_WORDS", "READER_WORDS", "MOST_DIGITS_scripts", "KIND", "READER", "NAMED", "IF", "BESIDE", "deed_in", "deeds_in", "spot_in", "test_in", "tests_in", "named_in", "Kind"] : List PySem.Str) ++ (["Reader", "LEAST_ROUND", "MOST_DIGITS_designs", "are_unlike", "are_kinds", "are_readers", "is_round", "are_rounds", "round_in", "kind_in", "reader_in", "Design", "_law_deal", "_law_draw", "_law_pick", "_law_heard", "_law_bent", "_law_bent_rounds"] : List PySem.Str)
theorem obsH_eq {as : List Addr} (s : SharedT) : as.map (HandSHeadRun.getT s) = as.map s.abs.heap.get? := congrArg (fun g => as.map g) (funext (HandSHeadRun.getT_eq s))
end D
local macro_rules | `(tactic| o_headL (kHook $K $a $e)) => `(tactic| refine HandSHeadRun.head_any (r := D.rowH) (q := D.viewH) (H := D.hookT $K $a $e 534) (ob := fun s => List.map (HandSHeadRun.getT s) ($a ++ [534])) (M := 12000) (loose := D.looseH) (d := HandSHeadRun.topDef D.rowH.prog 53) (kwd := []) (fun s => D.obsH_eq s) (by kernel_rfl) (fun s => by kernel_rfl) (fun w os => by kernel_rfl) (by kernel_rfl) (by kernel_rfl) (by kernel_rfl) (by rfl) (by first | assumption | decide +kernel) (by decide +kernel) ⟨rfl, rfl, rfl, rfl, rfl, by decide +kernel⟩ ?hw ?hc)
local macro_rules | `(tactic| simp_arith!) => `(tactic| first | (as_aux_lemma => k_is) | k_is)
open PySem PySem.W PyProof.Rows
set_option maxHeartbeats 0 in
theorem D.early {F : Mir.OpN} (hM : D.AllMk F) (hL : ∀ {ns : List Int}, ns.length ≤ 63 → ∃ hp', F [.t (.scr (ns.map Mir.T.int))] [some (.tab Yl)] = .ok (.t Ye9) hp') : PySem.Challenge.rw_untorn_k09_designs_refused.Holds := by
 w_on; o_law; k_headL; (case hw => w_witness2)
 k_fill
 refine Mir.walkGT (l := PySem.Challenge.rw_untorn_k09_designs_refused) (n := 63) (k := 9) (x := "_law_script") (T := 534) (CX := fun w => L2.CX PySem.Challenge.rw_untorn_k09_designs_refused.prog w) (sp := fun w => Mir.spM _ w F 1) rfl Ybo rfl ⟨rfl, by decide, by decide⟩ (fun w h Y => Y.1) (fun w h Y => Y.2) ?F (fun _ _ _ _ hl lt hT hS => Mir.law_spT (hL hl) lt hT hS) (fun _ _ _ _ _ h => D.no_cx h)
 case F =>
  intro w mg fa h KX G hmg
  refine' hM KX G hmg ?ydl ?ykh ?yki ?ykj ?ykk ?ykl ?ykm ?ydn ?ycl ?ye2 ?yaf ?yn0 ?ycz ?yn1 ?yn2 ?yn3 ?yn4 ?yga ?ygb ?yg1 ?yz ?ykn ?ybc ?yko ?ykp ?ykq ?ykr ?ye3 ?ye4 ?yfh ?ye5 ?ydo ?ih ?it ?ia_Kind ?im_Kind ?ia_Reader ?im_Reader ?kz_Kind_str ?kz_Kind_tuple ?kz_Kind_list ?kz_Kind_int ?ty_Kind ?ydp ?ks_bool_Kind ?ks_int_Kind ?ks_str_Kind ?ks_list_Kind ?ks_tuple_Kind ?kz_Reader_str ?kz_Reader_tuple ?kz_Reader_list ?kz_Reader_int ?ty_Reader ?ycd ?ks_bool_Reader ?ks_int_Reader ?ks_str_Reader ?ks_list_Reader ?ks_tuple_Reader ?sb_Kind_Reader ?ne_Kind_Reader ?sb_Reader_Kind ?ne_Reader_Kind ?ybv ?ydq ?ydr ?ycm ?ya5 ?ybw ?yds ?ybx ?yby ?ydy ?ydz ?yd0 ?yd1 ?yd2 ?yd3 ?yd4 ?yd5 ?yd6 ?ybk ?ycn ?yco ?yk ?yfi ?yfj ?ye6 ?yc0 ?ybp ?yfk ?yc1 ?yc2 ?yfq ?yfr ?yfs ?yft ?yfu ?yfv ?yfw ?yfx ?yfy ?ye7 ?ye8 ?ye9 ?yh ?yd7 ?yd8 ?ycp ?yb0 ?ya7 ?yd9 ?yb1 ?yb2 ?yef ?yeg ?yeh ?yei ?yej ?yek ?yel ?yem ?yen ?ycq ?ycr ?ycs ?yct ?ycu ?ycv ?ycw ?ycx ?ycy ?yfa ?yn ?yfb ?yfz ?yai ?yaj ?yao ?yap ?yaq ?yar ?xsup ?xany ?xtop ?w_MOST_LETTERS ?w_MOST_DIGITS_scripts ?w_LEAST_ROUND ?w_LETTERS ?w_DIGITS ?w_BARRED ?lk_BARRED ?ygs ?ygt ?oa_BARRED ?or_BARRED ?oz_BARRED ?w_WRITER_WORDS ?lk_WRITER_WORDS ?ybd ?ybe ?oa_WRITER_WORDS ?or_WRITER_WORDS ?oz_WRITER_WORDS ?w_READER_WORDS ?lk_READER_WORDS ?ybf ?ybg ?oa_READER_WORDS ?or_READER_WORDS ?oz_READER_WORDS ?yqi ?yg2 ?yqj ?yqk ?yn5 ?yo1 ?yql ?yqm ?yqn ?yo2 ?ymj ?yn6 ?yqo ?yqp ?ygu ?yb8 ?ygv ?yf2 ?yeu ?yev ?ygw ?ygx ?yf3 ?at_Reader_init ?fn_Reader_init ?ygc ?ygd ?yge ?t_Reader_init ?u_Reader_init ?el_Reader_init ?ec_Reader_init ?ed_Reader_init ?ea_Reader_init ?yhn ?yho ?yg3 ?yfd ?yhp ?yhq ?ybh ?ygy ?yc9 ?yew ?yb9 ?yda ?yf4 ?ydb ?at_Design_init ?fn_Design_init ?ygf ?ygg ?ygh ?t_Design_init ?u_Design_init ?el_Design_init ?ec_Design_init ?ed_Design_init ?ea_Design_init ?ya4 ?yn7 ?hcL ?lcL ?okL ?nT
  (case ydl | ykh | yki | ykj | ykk | ykl | ykm | ydn | ycl | ye2 | yaf | yn0 | ycz | yn1 | yn2 | yn3 | yn4 | yga | ygb | yg1 | yz | ykn | ybc | yko | ykp | ykq | ykr | ye3 | ye4 | yfh | ye5 | ydo | ih | it | ia_Kind | im_Kind | ia_Reader | im_Reader | kz_Kind_str | kz_Kind_tuple | kz_Kind_list | kz_Kind_int | ty_Kind | ydp | ks_bool_Kind | ks_int_Kind | ks_str_Kind | ks_list_Kind | ks_tuple_Kind | kz_Reader_str | kz_Reader_tuple | kz_Reader_list | kz_Reader_int | ty_Reader | ycd | ks_bool_Reader | ks_int_Reader | ks_str_Reader | ks_list_Reader | ks_tuple_Reader => simp_arith!)
  (case sb_Kind_Reader => simp_arith!)
  (case ne_Kind_Reader => decide)
  (case sb_Reader_Kind => simp_arith!)
  (case ne_Reader_Kind => decide)
  (case ybv | ydq => simp_arith!)
  (case ydr => first | rfl | decide)
  (case ycm | ya5 | ybw | yds | ybx | yby | ydy | ydz | yd0 => simp_arith!)
  (case yd1 => exact rfl)
  (case yd2 => first | rfl | decide +kernel)
  (case yd3 => simp_arith!)
  (case yd4 => ks_is)
  (case yd5 | yd6 | ybk | ycn => simp_arith!)
  (case yco => first | rfl | k_is)
  (case yk | yfi => simp_arith!)
  (case yfj => first | rfl | decide)
  (case ye6 | yc0 | ybp | yfk | yc1 | yc2 | yfq | yfr | yfs => simp_arith!)
  (case yft => exact rfl)
  (case yfu => first | rfl | decide +kernel)
  (case yfv => simp_arith!)
  (case yfw => ks_is)
  (case yfx | yfy | ye7 | ye8 => simp_arith!)
  (case ye9 => first | rfl | k_is)
  (case yh | yd7 => simp_arith!)
  (case yd8 => first | rfl | decide)
  (case ycp | yb0 | ya7 | yd9 | yb1 | yb2 | yef | yeg | yeh => simp_arith!)
  (case yei => exact rfl)
  (case yej => first | rfl | decide +kernel)
  (case yek => simp_arith!)
  (case yel => ks_is)
  (case yem | yen | ycq | ycr => simp_arith!)
  (case ycs => first | rfl | k_is)
  (case yct | ycu | ycv | ycw | ycx | ycy | yfa | yn | yfb | yfz => simp_arith!)
  (case yai => first | rfl | k_is)
  (case yaj => decide)
  (case yao => first | rfl | k_is)
  (case yap => decide)
  (case yaq => first | rfl | k_is)
  (case yar => decide)
  (case xsup | xany => simp_arith!)
  (case xtop => first | rfl | decide +kernel)
  (case w_MOST_LETTERS | w_MOST_DIGITS_scripts | w_LEAST_ROUND | w_LETTERS | w_DIGITS | w_BARRED | lk_BARRED => simp_arith!)
  (case ygs => exact rfl)
  (case ygt => exact rfl)
  (case oa_BARRED => exact rfl)
  (case or_BARRED => repeat (first | exact .nil | refine .cons ⟨_, rfl⟩ ?_))
  (case oz_BARRED => decide)
  (case w_WRITER_WORDS | lk_WRITER_WORDS => simp_arith!)
  (case ybd => exact rfl)
  (case ybe => exact rfl)
  (case oa_WRITER_WORDS => exact rfl)
  (case or_WRITER_WORDS => repeat (first | exact .nil | refine .cons ⟨_, rfl⟩ ?_))
  (case oz_WRITER_WORDS => decide)
  (case w_READER_WORDS | lk_READER_WORDS => simp_arith!)
  (case ybf => exact rfl)
  (case ybg => exact rfl)
  (case oa_READER_WORDS => exact rfl)
  (case or_READER_WORDS => repeat (first | exact .nil | refine .cons ⟨_, rfl⟩ ?_))
  (case oz_READER_WORDS => decide)
  (case yqi | yg2 | yqj | yqk | yn5 | yo1 | yql | yqm | yqn | yo2 | ymj | yn6 | yqo | yqp | at_Reader_init | fn_Reader_init | ygc | ygd | yge | t_Reader_init => simp_arith!)
  (case u_Reader_init => exact rfl)
  (case el_Reader_init => simp_arith!)
  (case ec_Reader_init => exact rfl)
  (case ed_Reader_init => exact rfl)
  (case ea_Reader_init => exact rfl)
  (case at_Design_init | fn_Design_init | ygf | ygg | ygh | t_Design_init => simp_arith!)
  (case u_Design_init => exact rfl)
  (case el_Design_init => simp_arith!)
  (case ec_Design_init => exact rfl)
  (case ed_Design_init => exact rfl)
  (case ea_Design_init => exact rfl)
  (case ygu | yb8 | ygv | yf2 | yev | ygw | ygx | yf3 | yhn | yho | yhp | yhq | ybh | ygy | yc9 | yew | yb9 | yda | yf4 | ydb | yn7 => (refine' D.MDf.of ?a ?b ?c ?d; (case a => simp_arith!); (case b => simp_arith!); (case c => simp_arith!); (case d => simp_arith!)))
  (case yeu | yg3 | yfd | ya4 => (refine' D.HDf.of ?a ?b ?c ?d ?e; (case a => simp_arith!); (case b => simp_arith!); (case c => simp_arith!); (case d => simp_arith!); (case e => simp_arith!)))
  (case hcL => exact rfl )
  (case lcL => simp_arith!)
  (case okL => exact ⟨_, _, _, _, _, _, _, _, rfl, rfl, rfl, rfl, rfl, rfl, rfl, rfl, by decide⟩)
  (case nT => first | rfl | kernel_rfl | k_is)
end
namespace D
open PySem PySem.Spec L2 Mir
open PyProof.Rows hiding St
local macro_rules | `(tactic| simp_arith [$as,*]) => `(tactic| simp -implicitDefEqProofs only [Nat.reduceAdd, Nat.reduceMul, Nat.reduceSub, Nat.reduceLeDiff, Nat.reduceLT, Nat.reduceEqDiff, Nat.reduceBEq, Int.reduceAdd, Int.reduceSub, Int.reduceMul, Int.reduceNeg, Int.reduceLT, Int.reduceLE, Int.reduceEq, Int.reduceToNat, Int.reduceBEq, Int.reduceNegSucc, reduceIte, reduceCtorEq, if_true, if_false, Bool.false_eq_true, eq_self, and_self, and_true, true_and, and_false, false_and, decide_true, decide_false, decide_eq_true_eq, List.map_nil, List.map_cons, List.append_nil, List.nil_append, List.cons_append, List.getElem?_cons_zero, List.getElem?_cons_succ, List.set_cons_zero, List.set_cons_succ, List.length_cons, List.length_nil, List.replicate_succ, List.replicate_zero, Option.map_some, Option.bind_some, Bool.not_true, Bool.not_false, Bool.and_true, Bool.true_and, Bool.and_false, Bool.false_and, beq_self_eq_true, List.zip_cons_cons, List.zip_nil_right, List.foldl_cons, List.foldl_nil, Option.isSome_some, Option.isSome_none, ite_true, ite_false, List.length_map, zah, bind_bad, bind_er, noEr_ok, noEr_bad, then_nx, then_rt, then_bk, then_ct, p_var, p_c, p_bin, p_un, p_nil, p_cons, p_star, p_app, p_frz, p_test, p_and, p_or, p_not, p_if, p_andV, p_orV, p_notV, p_chain, p_skip, p_seq, p_ret, p_retN, p_drop, p_brk, p_cnt, p_asg, p_set, p_par, p_parG, p_aug, p_for, p_while, p_comp, p_sq, p_src, p_yes, p_call, p_meth0, p_meth, p_sl, p_noPart, p_part, p_disp, p_dput, p_fz, p_gN, p_gsN, p_gsC, p_gTp, p_gTt, p_gAp, p_gAt, p_gAl, allT_mapS, seqT_t, seqT_l, seqT_s, items_t, items_l, items_s, items_r, litems_l, litems_s, litems_r, hitems_l, hitems_r, asT_t, asT_r, getL_new, zci, allI_map, allS_map, allB_map, asB_bl, truW_bl, iNeg_i, opI_ii, opC_ii, cYes_t, wLt_ii, wLt_ss, wAdd_ii, isN_n, isN_i, isN_b, isN_t, isB_bb, oInt_i, oAbs_i, oMax2_i, oMin2_i, oLen_l, oLen_t, oLen_r, oTup_t, oTup_l, oListF_l, oListF_t, oListL_l, oListL_t, sqI_l, sqI_t, sqI_s, enum1_1, zip2_2, isL_r, isL_l, isTp_t, freeze_t, freeze_r, fit_n, fit_b, fit_i, fit_s, fit_t, fit_l, fitL_n, fitL_c, eqT_nn, eqT_ii, eqT_bb, eqT_ss, eqT_tt, eqT_ll, eqTL_nn, eqTL_cn, eqTL_nc, eqTL_cc, allT_n, allT_c, lstOf_e, tupOf_e, newL_e, oAppend_r, oPop_r, asK_i, asK_s, dGet_s, ev_for0, ev_for1, ev_atl0, ev_atl1, ev_atl2, ev_atl3, ev_ixl0, ev_ixt0, ev_ixl1, ev_ixt1, ev_ixl2, ev_ixt2, ev_ixl3, ev_ixt3, ev_atl4, ev_ixl4, ev_ixt4, ev_gt, ev_ge, ev_le, ev_sub, ev_eqi, ev_eqs, ev_eqb, ev_wipe0, ev_wipe1, ev_comp1, $as,*])
local macro_rules | `(tactic| simp_all_arith) => `(tactic| repeat (first | (with_reducible refine zcc ?_) | (with_reducible refine vc_nx ?_) | (with_reducible refine vc_set ?_) | (with_reducible refine vc_if ?_) | (with_reducible refine vc_test ?_) | (with_reducible refine vc_bin ?_) | (with_reducible refine vc_un ?_) | (with_reducible refine zcs ?_) | (with_reducible refine vc_nil ?_) | (with_reducible refine vc_app ?_) | (with_reducible refine vc_call ?_) | (with_reducible refine vc_callD ?_) | (with_reducible refine vc_and ?_) | (with_reducible refine vc_or ?_) | (with_reducible refine vc_not ?_) | (with_reducible refine vc_skip ?_) | (with_reducible refine vc_ret ?_) | (with_reducible refine vc_drop ?_) | (with_reducible refine vc_sl ?_) | (with_reducible refine vc_slL ?_) | (with_reducible refine vc_noPart ?_) | (with_reducible refine vc_part ?_) | (with_reducible refine vc_for ?_) | (with_reducible refine vc_sq ?_) | (with_reducible refine vc_src ?_) | (with_reducible refine vc_asg ?_) | (with_reducible refine vc_fld ?_) | (with_reducible refine vc_c ?_) | ((with_reducible apply vc_var); · rfl) | (with_reducible refine vc_asB ?_) | ((with_reducible apply vc_fz); · rfl) | (with_reducible refine vc_meth ?_) | (with_reducible refine vc_comp ?_) | (with_reducible refine vc_rt ?_) | (with_reducible refine vc_yes ?_) | ((with_reducible apply vc_lstE); (· rfl); (· exact Nat.le_of_ble_eq_true rfl)) | ((with_reducible apply vc_tupE); (· rfl); (· exact Nat.le_of_ble_eq_true rfl)) | (with_reducible refine vc_sqL ?_) | (with_reducible refine vc_sqT ?_) | (with_reducible refine vc_slWl ?_) | (with_reducible refine vc_slWt ?_) | (with_reducible refine vc_slLl ?_) | (with_reducible refine vc_sm ?_) | (with_reducible refine vc_frz ?_) | (with_reducible refine vc_frzD ?_) | (with_reducible refine vc_chain ?_) | (with_reducible refine vc_par2 ?_) | (with_reducible refine vc_parG ?_) | (with_reducible refine Wp.rw wAdd_ii ?_) | (with_reducible refine Wp.rw ev_eqi ?_) | (with_reducible refine Wp.rw ev_eqs ?_) | (with_reducible refine Wp.rw oLen_l ?_) | (with_reducible refine Wp.rw oLen_t ?_) | (with_reducible refine Wp.rw iGt_ii ?_) | (with_reducible refine Wp.rw wLt_ii ?_) | (with_reducible refine Wp.rw ev_sub ?_) | (with_reducible refine Wp.rw ev_le ?_) | (with_reducible refine Wp.rw ev_ge ?_) | (with_reducible refine Wp.rw freeze_t ?_) | (with_reducible refine Wp.ok ?_)))
/-- what isinstance answers -/
def zcv : CT → CT → Option Bool := fun t c => match t, c with
 | .inl a, .inl b => kitB a b
 | .inr a, .inr b => if a = b ∧ (a = "Kind" ∨ a = "Reader") then some true else if (a = "Kind" ∧ b = "Reader") ∨ (a = "Reader" ∧ b = "Kind") then some false else none
 | .inr a, .inl b => if (a = "Kind" ∨ a = "Reader") ∧ (b = "str" ∨ b = "tuple" ∨ b = "list" ∨ b = "int") then some false else none
 | .inl a, .inr b => if (a = "NoneType" ∨ a = "bool" ∨ a = "int" ∨ a = "str" ∨ a = "list" ∨ a = "tuple") ∧ (b = "Kind" ∨ b = "Reader") then some false else none
def f_is_name_c1 : M W := mBin (inS false) (mVar 1) (mC (.str "abcdefghijklmnopqrstuvwxyz"))
def B_is_name : M Fl := mSeq (mIf (mOr Ybf (mOr (zal asB (mBin (inW false) (mVar 0) (mC (.tup ((["if", "bump", "even", "kind", "look", "read", "same"] : List Str).map T.str))))) (mNot (zal asB (mChain iLe iLe Yaa Ye6 (mC (.int (4)))))))) Y8 (zbc)) (mRet (mApp oAll (zab (zb5 zap (mStrI (mVar 0)) (gN 1) mYes f_is_name_c1 [1]) (mNil))))
def za9 : OpN := fnP 1 2 B_is_name
def B_is_sequence : M Fl := mRet (mApp (oIsi zcv) (zab (mVar 0) (zab (mApp za4 (zab (mC (.ty "list")) (zab (mC (.ty "tuple")) (mNil)))) (mNil))))
def zat : OpN := fnP 1 1 B_is_sequence
def B_deed_in : M Fl := mSeq (mIf Ybf (mRet Yat) (zbc)) (mSeq (mSet 2 (mSM oSplit (mVar 0) (mC (.str " ")))) (mSeq (mIf (mOr (zal asB (mBin Ybv (mApp oLen Y4) (mC (.int 2)))) (mOr (zal asB (mBin (inW true) Ygn (mVar 1))) (mNot (zal truW (zas za9 [] (zab (mBin ixW (mVar 2) Yaa) (mNil))))))) (mRet Yat) (zbc)) (mRet (mApp za4 (zab Ygn (zab (mBin ixW (mVar 2) Yaa) (mNil)))))))
def F_deed_in : OpN := fnP 2 3 B_deed_in
def zda : M Bool := mAnd (zal asB (mBin (isN true) (mVar 5) Yat)) (zal asB (mBin Ycm (mBin ixW (mVar 5) Yj) (mBin ixW (mVar 1) Yj)))
def zc2 : M W := mBin ixW (mVar 5) Yaa
def zdb : M W := zas F_deed_in [] (zab (mVar 4) Yo)
def B_deeds_in : M Fl := mSeq (mIf Yb9 (mRet Yat) (zbc)) (mSeq (mSet 2 (zb5 zap Yet (gN 4) mYes zdb [4])) (mSeq (mSet 3 (zb5 zap (mSq (mVar 2)) (gN 5) zda zc2 [5])) (mRet (mIf (mOr (zal asB (mBin (inW false) Yat (mVar 2))) (zal asB (mBin Ybv (mLenSet (mVar 3)) (mApp oLen Yax)))) Yat Yfo))))
def zc0 : OpN := fnP 2 6 B_deeds_in
def B_Kind_init : M Fl := mSeq (mIf Ygb (mRaise (mExc "InvalidKind" "word" (zab (mC (.str "name")) (mNil)))) (zbc)) (mSeq (mSet 3 (zas zc0 [] (zab (mVar 2) (zab (mC (.tup ((["write", "bump"] : List Str).map T.str))) (mNil))))) (mSeq (mIf (mOr (zal asB (mBin (isN false) (mVar 3) Yat)) (zal asB (mBin Ycm (mApp oLen Yax) Yj))) (mRaise (mExc "InvalidKind" "word" (zab (mC (.str "steps")) (mNil)))) (zbc)) (mSeq (zby ["Kind", "Reader"] "name" (mVar 0) (mVar 1)) (mSeq (zby ["Kind", "Reader"] "steps" (mVar 0) Yfo) (zby ["Kind", "Reader"] "deeds" (mVar 0) (mVar 3))))))
def zb7 : OpN := fnX 3 4 B_Kind_init
def f_number_in_c1 : M W := mBin (inS false) (mVar 2) (mC (.str "0123456789"))
def B_number_in : M Fl := mSeq (mIf (mOr (mNot (zal asB (mChain iLe iLe Yaa Ye6 (mVar 1)))) (mNot (zal truW (mApp oAll (zab (zb5 zap (mStrI (mVar 0)) (gN 2) mYes f_number_in_c1 [2]) (mNil)))))) (mRet Yat) (zbc)) (mRet (mIf (mAnd (zal asB (mBin Ycm Ybl (mC (.str "0")))) (zal asB (mBin Ybv (mVar 0) (mC (.str "0"))))) Yat (mApp oIntS Yar)))
def F_number_in : OpN := fnP 2 3 B_number_in
def B_spot_in : M Fl := mSeq (mSet 2 (zas F_number_in [] (zab (mVar 0) (zab (mC (.int (9))) (mNil))))) (mRet (mIf (mAnd (zal asB (mBin (isN true) (mVar 2) Yat)) (mAnd (zal asB (mBin wLt (mVar 2) (mApp oLen Yo))) (zal asB (mBin Ycm (mBin ixW (mBin ixW (mVar 1) (mVar 2)) Yj) (mC (.str "look")))))) (mVar 2) Yat))
def F_spot_in : OpN := fnP 2 3 B_spot_in
def f_test_in_c1 : M W := zas F_spot_in [] (zab (mVar 4) Yo)
def B_test_in : M Fl := mSeq (mIf Ybf (mRet Yat) (zbc)) (mSeq (mSet 2 (mSM oSplit (mVar 0) (mC (.str " ")))) (mSeq (mSet 3 (zb5 zap (mSq (mSl (mVar 2) (mPart Yaa) zco)) (gN 4) mYes f_test_in_c1 [4])) (mSeq (mIf (zal asB (mBin (inW false) Yat (mVar 3))) (mRet Yat) (zbc)) (mSeq (mIf (mAnd (zal asB (mBin Ycm Ygn (mC (.str "even")))) (zal asB (mBin Ycm (mApp oLen Yax) Yaa))) (mRet (mApp za4 (zab (mC (.str "even")) (zab Ygo (mNil))))) (zbc)) (mSeq (mIf (mOr (zal asB (mBin Ybv Ygn (mC (.str "same")))) (mOr (zal asB (mBin Ybv (mApp oLen Yax) (mC (.int 2)))) (zal asB (mBin iGe Ygo (mBin ixW (mVar 3) Yaa))))) (mRet Yat) (zbc)) (mRet (mIf (zal asB (mBin Ycm (mBin ixW (mBin ixW (mVar 1) Ygo) Yaa) (mBin ixW (mBin ixW (mVar 1) (mBin ixW (mVar 3) Yaa)) Yaa))) (mApp za4 (zab (mC (.str "same")) (zab Ygo (zab (mBin ixW (mVar 3) Yaa) (mNil))))) Yat)))))))
def F_test_in : OpN := fnP 2 5 B_test_in
def zc9 : M W := zas F_test_in [] (zab (mVar 3) Yo)
def B_tests_in : M Fl := mSeq (mIf Yb9 (mRet Yat) (zbc)) (mSeq (mSet 2 (zb5 zap Yet (gN 3) mYes zc9 [3])) (mRet (mIf (mOr (zal asB (mBin (inW false) Yat (mVar 2))) (zal asB (mBin Ybv (mLenSetT (mVar 2)) (mApp oLen Y4)))) Yat Yfo)))
def F_tests_in : OpN := fnP 2 4 B_tests_in
def f_Reader_init_c1 : M W := mVar 6
def B_Reader_init : M Fl := mSeq (mIf Ygb (mRaise (mExc "InvalidReader" "word" (zab (mC (.str "name")) (mNil)))) (zbc)) (mSeq (mSet 4 (zas zc0 [] (zab (mVar 2) (zab (mC (.tup ((["read", "look"] : List Str).map T.str))) (mNil))))) (mSeq (mIf (mOr (zal asB (mBin (isN false) (mVar 4) Yat)) (zal asB (mBin (inW true) (mC (.str "read")) (zb5 zap (mSq (mVar 4)) (gT 2 (gsC (gN 6) (gsC (gN 7) gsN))) mYes f_Reader_init_c1 [6, 7])))) (mRaise (mExc "InvalidReader" "word" (zab (mC (.str "steps")) (mNil)))) (zbc)) (mSeq (mSet 5 (zas F_tests_in [] (zab (mVar 3) (zab (mVar 4) (mNil))))) (mSeq (mIf (zal asB (mBin (isN false) (mVar 5) Yat)) (mRaise (mExc "InvalidReader" "word" (zab (mC (.str "checks")) (mNil)))) (zbc)) (mSeq (zby ["Kind", "Reader"] "name" (mVar 0) (mVar 1)) (mSeq (zby ["Kind", "Reader"] "steps" (mVar 0) Yfo) (mSeq (zby ["Reader"] "checks" (mVar 0) (mApp oTup Yax)) (mSeq (zby ["Kind", "Reader"] "deeds" (mVar 0) (mVar 4)) (zby ["Reader"] "tests" (mVar 0) (mVar 5))))))))))
def zbl : OpN := fnX 4 8 B_Reader_init
def zcm : M Bool := zal asB (mBin iGe (mVar 4) (mBin iPow (mC (.int 10)) (mC (.int 18))))
def zc7 : M W := mVar 4
def zcl : M Fl := mSet 3 (mBin iMod (mApp oInt (zab (mBin wAdd (mBin wAdd (mBin wMul (mVar 3) (mC (.int 48271))) (mBin iMod (mApp oInt (zab (mVar 4) (mNil))) (mC (.int 2147483629)))) (mC (.int 41))) (mNil))) (mC (.int 2147483647)))
def zc4 : M W := mApp oAbs (zab (mApp oInt (zab (mVar 4) (mNil))) (mNil))
def B_w_deal : M Fl := mSeq (mSet 2 Yd0) (mSeq (mSet 3 (mBin wAdd (mC (.int 49979687)) (mBin wMul (mC (.int 59)) (mVar 1)))) (mSeq (mFor (mSq (mVar 2)) (gN 4) zcl) (mRet (mApp newL (zab (mUn oRevL (zb5 zap (mSq (mVar 2)) (gN 4) zcm zc7 [4])) Yax)))))
def F_w_deal : OpN := fnM 2 5 B_w_deal
def zb6 : M Fl := mDrop (mMeth0 isL oPop Ybl)
def B_w_draw : M Fl := mSeq (mWhile 4096 (mAnd Yeo (zal asB (mBin Ycm (mBin ixW Ybl (mUn iNeg Yaa)) Yj))) zb6) (mSeq (mIf Yeo (mSeq (mSet 2 (mMeth0 isL oPop Ybl)) (mSeq (mDrop Yfz) (mRet (mBin iMod (mApp oInt Y4) (mVar 1))))) (zbc)) (mSeq (mIput (mVar 0) Yaa (mBin iMod Yc6 (mC (.int 2147483647)))) (mRet (mBin iMod (mApp oInt (zab (mBin iDiv (mBin ixW (mVar 0) Yaa) (mC (.int 16))) (mNil))) (mVar 1)))))
def zba : OpN := fnM 2 3 B_w_draw
def B_Kind_str : M Fl := mSeq (mSet 1 Yfk) (mRet (mJoined (zcn (mC (.str "kind ")) Ycp)))
def zbx : OpN := fnP 1 2 B_Kind_str
def B_Reader_str : M Fl := mSeq (mPar [1, 2] (zab Yfk (zab (mSM oJoin (mC (.str ", ")) (mFld ["Reader"] "checks" (mVar 0))) (mNil)))) (mSeq (mIf (zal asB (mBin Ycm (mApp oLen (zab (mFld ["Reader"] "checks" (mVar 0)) (mNil))) Yj)) (mRet (mJoined (zcn (mC (.str "reader ")) Ycp))) (zbc)) (mRet (mJoined (zcn (mC (.str "reader ")) (zcn (mUn oFmt (mFld ["Kind", "Reader"] "name" (mVar 0))) (zcn (mC (.str ": ")) (zcn (mUn oFmt (mVar 1)) (zcn (mC (.str " if ")) (zcn (mUn oFmt (mVar 2)) (mJNil))))))))))
def zbf : OpN := fnP 1 3 B_Reader_str
def B_w_pick : M Fl := mRet (mBin ixW (mVar 1) (zas zba [] (zab (mVar 0) (zab (mApp oLen Yo) (mNil)))))
def zay : OpN := fnM 2 2 B_w_pick
def B_w_bent : M Fl := mSeq (mSet 3 (zas zba [] (zab (mVar 0) (zab (mBin wAdd (mApp oLen Yo) Yaa) (mNil))))) (mSeq (mSet 4 (mApp zap Yc3)) (mSeq (mSet 5 (mApp zap (zab Yat (zab (mC (.int 3)) (zab (mApp zap (mNil)) (zab (mApp za4 (mNil)) (zab (mBin ixW (mVar 1) Yj) (zab (mC (.str "kind w: write a")) (zab (mBin wAdd (mVar 1) (mApp zap Ybk)) (mNil)))))))))) (mRet (zas zay [] (zab (mVar 0) (zab (mBin wAdd (mVar 5) (mApp zap (zab (mBin wAdd (mBin wAdd (mSl (mVar 1) zco (mPart (mVar 3))) (mApp zap Yci)) (mSl (mVar 1) (mPart (mVar 3)) zco)) (mNil)))) (mNil)))))))
def zcj : OpN := fnM 3 6 B_w_bent
def B_w_bent_rounds : M Fl := mSeq (mSet 1 (mApp zap (zab (mApp za4 (zab Yag (zab Yaa (mNil)))) (zab (mApp za4 (zab Yag (zab Yj (mNil)))) (zab (mApp za4 (zab Yag (zab (mC Ye9) (mNil)))) (zab (mApp za4 (zab Yag (zab (mC (.str "2")) (mNil)))) (zab (mApp za4 (zab (mC (.str "if")) Yk)) (zab (mApp za4 (zab (mC (.str "abcde")) Yk)) (zab (mApp za4 (zab Yat Yk)) (zab (mApp zap (zab Yag Yk)) (zab (mApp za4 (zab Yag (mNil))) (mNil)))))))))))) (mSeq (mSet 1 (mBin wAdd (mVar 1) (mApp zap (zab (mApp za4 (zab Yag (zab (mC (.int 2)) Yb1))) (zab (mApp za4 (zab Yag (zab (mBin iSub Yj (mC (.int 2))) (mNil)))) (zab (mApp za4 (zab Yag (zab Yat (mNil)))) (zab (mC (.str "c 2")) (zab Yat (mNil))))))))) (mSeq (mSet 2 (mApp zap (zab Yat (zab (mApp za4 (zab Yag Yk)) (zab Yag (zab (mC (.int 3)) (zab (mApp zap (zab (mApp za4 (zab Yag Yk)) (zab (mApp za4 (zab Yag Yb1)) (mNil)))) (zab (mApp zap (zab (mApp za4 (zab (mC (.str "e")) Yb1)) (zab (mApp za4 (zab Yag Yk)) (zab (mApp za4 (zab (mC (.str "e")) Yb1)) (mNil))))) (mNil))))))))) (mRet (zas zay [] (zab (mVar 0) (zab (mBin wAdd (mVar 2) (mApp zap Ybm)) (mNil)))))))
def zb1 : OpN := fnM 1 3 B_w_bent_rounds
def zak : Ex → M Fl := fun ex => mSeq (mSet 1 (mIf (mAnd (zal asB (mC Ye9)) (mNot (zal asB (mXIt [.inr "InvalidKind", .inr "InvalidReader"] false (mApp za4 (zab (mC (.cls "InvalidKind")) (zab (mC (.cls "InvalidReader")) (mNil)))))))) (mXF "word" ex) (mC (.str "other")))) (zbc)
def B_are_unlike : M Fl := mRet (mAndV (mBin iGt Ye6 Yj) (mBin Ycm (mLenSet (mVar 0)) Ye6))
def zce : OpN := fnP 1 1 B_are_unlike
def f_are_kinds_c1 : M W := mFld ["Kind", "Reader"] "name" (mVar 1)
def f_are_kinds_c2 : M W := mApp (oIsi zcv) (zab (mVar 1) (zab (mC (.cls "Kind")) (mNil)))
def B_are_kinds : M Fl := mSeq (mIf (mOr Yb9 (mNot (zal truW (mApp oAll (zab (zb5 zap Yet (gN 1) mYes f_are_kinds_c2 [1]) (mNil)))))) Y8 (zbc)) (mRet (zas zce [] (zab (zb5 zap Yet (gN 1) mYes f_are_kinds_c1 [1]) (mNil))))
def zbb : OpN := fnP 1 2 B_are_kinds
def f_are_readers_c1 : M W := mFld ["Kind", "Reader"] "name" (mVar 1)
def f_are_readers_c2 : M W := mApp (oIsi zcv) (zab (mVar 1) (zab (mC (.cls "Reader")) (mNil)))
def B_are_readers : M Fl := mSeq (mIf (mOr Yb9 (mNot (zal truW (mApp oAll (zab (zb5 zap Yet (gN 1) mYes f_are_readers_c2 [1]) (mNil)))))) Y8 (zbc)) (mRet (zas zce [] (zab (zb5 zap Yet (gN 1) mYes f_are_readers_c1 [1]) (mNil))))
def za2 : OpN := fnP 1 2 B_are_readers
def B_is_integer : M Fl := mRet (mAndV (mApp (oIsi zcv) (zab (mVar 0) (zab (mC (.ty "int")) (mNil)))) (mNotV (mApp (oIsi zcv) (zab (mVar 0) (zab (mC (.ty "bool")) (mNil))))))
def F_is_integer : OpN := fnP 1 1 B_is_integer
def B_is_round : M Fl := mSeq (mIf (mOr (mNot (zal truW (mApp (oIsi zcv) (zab (mVar 0) (zab (mC (.ty "tuple")) (mNil)))))) (mOr (zal asB (mBin Ybv Ye6 (mC (.int 2)))) (mNot (zal truW (zas za9 [] (zab Ybl (mNil))))))) Y8 (zbc)) (mRet (mAndV (zas F_is_integer [] (zab (mBin ixW (mVar 0) Yaa) (mNil))) (mBin iGe (mBin ixW (mVar 0) Yaa) (mC (.int (2))))))
def F_is_round : OpN := fnP 1 1 B_is_round
def f_are_rounds_c1 : M W := mVar 2
def f_are_rounds_c2 : M W := zas F_is_round [] Yo
def B_are_rounds : M Fl := mSeq (mIf (mOr Yb9 (mNot (zal truW (mApp oAll (zab (zb5 zap Yet (gN 1) mYes f_are_rounds_c2 [1]) (mNil)))))) Y8 (zbc)) (mRet (mBin Ycm (mLenSet (zb5 zap Yet (gT 2 (gsC (gN 2) (gsC (gN 3) gsN))) mYes f_are_rounds_c1 [2, 3])) Ye6))
def zax : OpN := fnP 1 4 B_are_rounds
def zbz : M Fl := mSeq (mIf (mNot (zal truW (zas zbb [] Yo))) (mRaise (mExc "InvalidDesign" "word" (zab (mC (.str "kinds")) (mNil)))) (zbc)) (mSeq (mIf (mNot (zal truW (zas za2 [] Y4))) (mRaise (mExc "InvalidDesign" "word" (zab (mC (.str "readers")) (mNil)))) (zbc)) (mSeq (mIf (mNot (zal truW (zas zax [] Yax))) (mRaise (mExc "InvalidDesign" "word" (zab Yd4 (mNil)))) (zbc)) (mSeq (zby ["Design"] "kinds" (mVar 0) (mApp oTup Yo)) (mSeq (zby ["Design"] "readers" (mVar 0) Yfo) (zby ["Design"] "rounds" (mVar 0) (mApp oTup (zab (mApp oSortQ Yax) (mNil))))))))
def zan : OpN := fnX 4 4 zbz
def za5 : M Bool := zal asB (mBin Ybv (mBin ixW (mVar 4) Yj) (mVar 1))
def za6 : M W := mVar 4
def zbs : M Fl := mSeq (mIf Ygb (mRaise (mExc "InvalidDesign" "word" (zab Yd4 (mNil)))) (zbc)) (mSeq (mSet 3 Yfl) (mSeq (mIf (zal asB (mBin (isN true) (mVar 2) Yat)) (mDrop (mMeth isL oAppend (mVar 3) (zab (mApp za4 (zab (mVar 1) Y4)) (mNil)))) (zbc)) (mFz 3 (mRet (zcx (zbw "Design" zan [] (zab (mFld ["Design"] "kinds" (mVar 0)) (zab (mFld ["Design"] "readers" (mVar 0)) Yax))))))))
def zao : OpN := fnX 3 5 zbs
def f_law_c1 : M W := mMethX "Design" "with_round" zao [] (mVar 10) (zab Yag (zab (mVar 12) (mNil)))
def f_law_c2 : M W := mMethX "Design" "with_round" zao [] (mVar 10) (zab (mVar 11) (zab Yat (mNil)))
def f_law_c3 : M W := mMethX "Design" "with_round" zao [] (mVar 10) (zab (mVar 11) Yk)
def f_law_c4 : M W := zcx (zbw "Design" zan [] (zab (mVar 1) (zab Yfo Ydv)))
def f_law_c5 : M W := zcx (zbw "Design" zan [] (zab (mApp oTup Yo) (zab (mVar 2) (zab (mVar 8) (mNil)))))
def f_law_c6 : M W := zcx (zbw "Design" zan [] (zab (mVar 1) (zab (mVar 7) (zab (mVar 8) (mNil)))))
def f_law_c7 : M W := zcx (zbw "Design" zan [] (zab (mVar 6) (zab (mVar 7) (zab (mVar 8) (mNil)))))
def f_law_l1 : M Fl := mSeq (mParG 2 Yek (gsC (gN 6) (gsC (gN 7) gsN))) (mSeq (mSet 8 (zas zb1 [] (zab (mVar 4) (mNil)))) (mSeq (mSet 9 (mSl (mApp zap Yb5) zco (mPart (zas zba [] (zab (mVar 4) Yb1))))) (mSeq (mIf (zal asB (mBin Ybv (zcg Yl 3 1 2 .non f_law_c7 [Yg]) (mC (.str "kinds")))) Y8 (zbc)) (mSeq (mIf (zal asB (mBin Ybv (zcg Yl 3 1 2 .non f_law_c6 [Yg]) (mC (.str "readers")))) Y8 (zbc)) (mSeq (mIf (zal asB (mBin Ybv (zcg Yl 3 1 2 .non f_law_c5 [Yg]) Yd4)) Y8 (zbc)) (mSeq (mIf Yf1 Y8 (zbc)) (mSeq (mSet 10 (zcx (zbw "Design" zan [] (zab (mVar 1) (zab (mVar 2) Ydv))))) (mSeq (mSet 11 (zas zay [] (zab (mVar 4) (zab (mApp zap (zab (mC (.str "if")) (zab (mC (.str "abcde")) (zab Yat (zab (mC (.int 3)) (zab (mApp za4 (zab Yag (mNil))) (zab (mC (.str "")) (zab (mC (.str "C")) (zab (mApp zap (zab Yag (mNil))) (mNil)))))))))) (mNil))))) (mSeq (mIf (zal asB (mBin Ybv (zcg Yl 3 1 2 .non f_law_c3 [Yg]) Yd4)) Y8 (zbc)) (mSeq (mIf (zal asB (mBin Ybv (zcg Yl 3 1 2 .non f_law_c2 [Yg]) Yd4)) Y8 (zbc)) (mSeq (mSet 12 (zas zay [] (zab (mVar 4) (zab (mApp zap (zab Yaa (zab Yj (zab (mC Ye9) (zab (mC (.str "2")) (zab (mApp za4 Yk) (zab (mBin iSub Yj (mC (.int 2))) (zab (mApp zap Yk) (mNil))))))))) (mNil))))) (mIf (mOr (zal asB (mBin Ybv (zcg Yl 3 1 2 .non f_law_c1 [Yg]) Yd4)) (zal asB Ygc)) Y8 (zbc)))))))))))))
def f_law_l2 : M Fl := mSeq (mSet 4 (zas F_w_deal [] (zab (mVar 0) Yax))) (mFor (mSrc rng1 (zab (mC (.int 6)) (mNil))) (gN 5) f_law_l1)
def B_law : M Fl := mSeq (mSet 1 (mApp zap Yal)) (mSeq (mSet 2 (mApp zap Yab)) (mSeq (mFor (mSrc rng1 (zab (mApp oMax2 (zab Yaa (zab (mApp oMin2 (zab (mC (.int 3)) (zab Ye6 (mNil)))) (mNil)))) (mNil))) (gN 3) f_law_l2) (mRet (mC Ye9))))
def F_law : OpN := fnM 1 13 B_law
/-- where the draws lie: the list i, the great cells j -/
structure DealAt (i j : Nat) (gs : List Int) (st : Int) (hp : IH) : Prop where
 d : getL hp i = some [.r j, .t (.int st)]
 g : getL hp j = some (gs.map wI)
 len : gs.length ≤ 63
 lo : 0 ≤ st
 hi : st < 2147483647
theorem DealAt.ne {i j : Nat} {gs : List Int} {st : Int} {hp : IH} (h : DealAt i j gs st hp) : i ≠ j := by
 intro e
 subst e
 have a := h.d
 rw [h.g] at a
 cases gs with
 | nil => cases a
 | cons x xs => simp [wI] at a
theorem ne_nil {gs : List Int} {hp : IH} {j : Nat} (h : getL hp j = some (gs.map wI)) : eqW true (.r j) (.t (.lst [])) hp = .ok (.t (.bl (!gs.isEmpty))) hp := by
 unfold eqW
 simp only [asT_r, h, Option.bind_some, allT_ints, Option.map_some, asT_t, fit_l, fitL_ints, fitL_n]
 cases gs <;> simp
abbrev popT : M Bool := mAnd Yeo (zal asB (mBin Ycm (mBin ixW Ybl (mUn iNeg Yaa)) Yj))
theorem at0 {a b : W} : atI [a, b] 0 = some a := rfl
theorem at1 {a b : W} : atI [a, b] 1 = some b := rfl
theorem pop_loop {i j : Nat} {wd : W} {c : Option W} {st : Int} (hij : i ≠ j) : ∀ (n : Nat) (gs : List Int) (hp : IH), gs.length < n → getL hp i = some [.r j, .t (.int st)] → getL hp j = some (gs.map wI) →
  ∃ gs' : List Int, gs'.length ≤ gs.length ∧ whileL popT zb6 n [some (.r i), some wd, c] hp = .ok (.nx [some (.r i), some wd, c]) (hp.set j (some (.lst (gs'.map wI)))) := by
 intro n
 induction n with
 | zero => intro gs hp h; omega
 | succ n ih =>
  intro gs hp h hd hg
  have hj := getL_lt hg
  have g0 : mBin ixW (mVar 0) Yj [some (.r i), some wd, c] hp = .ok (.r j) hp := binP rfl rfl (by rw [ixW_r, hd, Option.bind_some, at0])
  rcases List.eq_nil_or_concat gs with e | ⟨ys, y, e⟩
  ·subst e
   refine ⟨[], Nat.le_refl _, ?_⟩
   unfold whileL popT
   rw [p_and, testP (binP g0 rfl (ne_nil hg)), zah]
   simp
   exact (set_same (zbv hg)).symm
  ·rw [List.concat_eq_append] at e
   subst e
   have hg' : getL hp j = some (ys.map wI ++ [wI y]) := by rw [hg]; simp
   have t1 : popT [some (.r i), some wd, c] hp = .ok (decide (y = 0)) hp := by
    unfold popT
    rw [p_and, testP (binP g0 rfl (ne_nil hg)), zah, if_pos Ycc]
    refine testP (binP (binP g0 rfl (b := .t (.int (-1))) (r := .ok (.t (.int y)) hp) ?_) rfl ?_)
    ·rw [ixW_r, hg', Option.bind_some, atI_end]
    ·by_cases hy : y = 0 <;> simp [hy]
   unfold whileL
   rw [t1, zah]
   by_cases hy : y = 0
   ·obtain ⟨gs', l, q⟩ := ih ys Y6 (by simp at h; omega) (by rw [getL_ne hij.symm]; exact hd) (zci hj)
    refine ⟨gs', by simp; omega, ?_⟩
    have body : zb6 [some (.r i), some wd, c] hp = .ok (.nx [some (.r i), some wd, c]) Y6 := by
     unfold zb6
     rw [p_drop, p_meth0, g0, zah]
     simp [hg', wI]
    rw [decide_eq_true hy, if_pos rfl, body, zah]
    simp only [q, List.set_set]
   ·refine ⟨ys ++ [y], Nat.le_refl _, ?_⟩
    rw [decide_eq_false hy, if_neg Ybo]
    rw [set_same (zbv hg)]
theorem draw_ok {i j : Nat} {gs : List Int} {st : Int} {hp : IH} {wide : Int} (d : DealAt i j gs st hp) (hw : 0 < wide) (hw2 : wide < 2 ^ 64) :
  ∃ (n : Int) (hp' : IH) (gs' : List Int) (st' : Int), zba [.r i, .t (.int wide)] hp = .ok (.t (.int n)) hp' ∧ 0 ≤ n ∧ n < wide ∧ DealAt i j gs' st' hp' ∧ hp'.length = hp.length ∧ ∀ k, k ≠ i → k ≠ j → hp'[k]? = hp[k]? := by
 obtain ⟨hd, hg, hl, lo, hi⟩ := d
 have hne : i ≠ j := DealAt.ne ⟨hd, hg, hl, lo, hi⟩
 have hj := getL_lt hg
 have hi' := getL_lt hd
 obtain ⟨g2, l2, q2⟩ := pop_loop (i := i) (j := j) (wd := .t (.int wide)) (c := none) hne 4096 gs hp Ym hd hg
 have hd2 : getL Yay i = some [.r j, .t (.int st)] := by rw [getL_ne hne.symm]; exact hd
 have hg2 : getL Yay j = some (g2.map wI) := zci hj
 have hmod : ∀ x : Int, 0 ≤ x % wide ∧ x % wide < wide := fun x => ⟨Int.emod_nonneg _ Ym, Int.emod_lt_of_pos _ hw⟩
 have g0 : ∀ (a : Option W), mBin ixW (mVar 0) Yj [some (.r i), some Yaz, a] Yay = .ok (.r j) Yay := fun a => binP rfl rfl (by rw [ixW_r, hd2, Option.bind_some, at0])
 have g1 : ∀ (a : Option W), mBin ixW (mVar 0) Yaa [some (.r i), some Yaz, a] Yay = .ok (.t (.int st)) Yay := fun a => binP rfl rfl (by rw [ixW_r, hd2, Option.bind_some, at1])
 have ww : mWhile 4096 popT zb6 [some (.r i), some Yaz, none] hp = .ok (.nx [some (.r i), some Yaz, none]) Yay := q2
 have cn := ne_nil hg2
 rcases List.eq_nil_or_concat g2 with e | ⟨ys, y, e⟩
 ·subst e
  refine ⟨((st * 48271 + 43) % 2147483647 / 16) % wide, (hp.set j Y1).set i Yac, [], (st * 48271 + 43) % 2147483647, ?_, (hmod _).1, (hmod _).2, ⟨?_, ?_, ?_, ?_, ?_⟩, ?_, ?_⟩
  ·have c1 : cMul st 48271 = true := cMul_ok Ym Ym
   have hi2 : i < (hp.set j Y1).length := by simpa using hi'
   refine fnM_ok (eta := [some (.r i), some Yaz, none]) rfl rfl ?_
   unfold B_w_draw
   refine zbe ww ?_
   refine zbe (h1 := hp.set j Y1) (e1 := [some (.r i), some Yaz, none]) ?_ ?_
   ·rw [if_no (testP (binP (g0 none) rfl cn))]
    rfl
   ·have ev : mBin iMod Yc6 (mC (.int 2147483647)) [some (.r i), some Yaz, none] (hp.set j Y1) = .ok (.t (.int ((st * 48271 + 43) % 2147483647))) (hp.set j Y1) := by
     refine binP (app1P (binP (binP (g1 none) rfl (wMul_ok c1)) rfl wAdd_ii) oInt_i) rfl ?_
     exact iMod_ok (cMod_ok Ym)
    refine zbe (e1 := [some (.r i), some Yaz, none]) (h1 := (hp.set j Y1).set i Yac) ?_ ?_
    ·exact iput_ok (k := 1) ev rfl rfl hd2 Ycc
    ·rw [p_ret]
     have h3 : mBin ixW (mVar 0) Yaa [some (.r i), some Yaz, none] ((hp.set j Y1).set i Yac) = .ok (.t (.int ((st * 48271 + 43) % 2147483647))) ((hp.set j Y1).set i Yac) := binP rfl rfl (by rw [ixW_r, zci hi2, Option.bind_some, at1])
     have c3 : ∀ x, cDiv x 16 = true := fun x => cDiv_ok Ym Ym
     rw [binP (r := .ok (.t (.int (((st * 48271 + 43) % 2147483647 / 16) % wide))) ((hp.set j Y1).set i Yac)) (app1P (binP h3 rfl (iDiv_ok (c3 _))) oInt_i) rfl (iMod_ok (cMod_ok hw)), zah]
  ·rw [zci (by simpa using hi')]
  ·rw [getL_ne hne, zci (by simpa using hj)]
  ·simp
  ·exact Int.emod_nonneg _ Ym
  ·exact Int.emod_lt_of_pos _ Ym
  ·simp
  ·intro k h1 h2
   rw [List.getElem?_set_ne (Ne.symm h1), List.getElem?_set_ne (Ne.symm h2)]
 ·rw [List.concat_eq_append] at e
  subst e
  have hg3 : getL (hp.set j (some (.lst ((ys ++ [y]).map wI)))) j = some (ys.map wI ++ [wI y]) := by rw [hg2]; simp
  refine ⟨y % wide, hp.set j Ycl, ys ++ [y / wide], st, ?_, (hmod _).1, (hmod _).2, ⟨?_, ?_, ?_, lo, hi⟩, ?_, ?_⟩
  ·have hl2 : ys.length < 16777216 := by simp at l2; omega
   refine fnM_ok (eta := [some (.r i), some Yaz, none]) rfl rfl ?_
   unfold B_w_draw
   refine zbe ww ?_
   rw [p_seq, if_yes (testP (binP (g0 none) rfl (cn.trans Ycc)))]
   have e1 : mSet 2 (mMeth0 isL oPop Ybl) [some (.r i), some Yaz, none] (hp.set j (some (.lst ((ys ++ [y]).map wI)))) = .ok (.nx [some (.r i), some Yaz, some (.t (.int y))]) Y6 := by
    refine (set_ok (w := .t (.int y)) (h1 := hp.set j (some (.lst (ys.map wI)))) ?_).trans rfl
    rw [p_meth0, g0, zah]
    simp [hj, zci, wI]
   have hd3 : getL Y6 i = some [.r j, .t (.int st)] := by rw [getL_ne hne.symm]; exact hd
   have g3 : mBin ixW (mVar 0) Yj [some (.r i), some Yaz, some (.t (.int y))] Y6 = .ok (.r j) Y6 := binP rfl rfl (by rw [ixW_r, hd3, Option.bind_some, at0])
   have dv : mBin iDiv (mVar 2) (mVar 1) [some (.r i), some Yaz, some (.t (.int y))] Y6 = .ok (.t (.int (y / wide))) Y6 := binP rfl rfl (iDiv_ok (cDiv_ok hw hw2))
   have e2 : mDrop Yfz [some (.r i), some Yaz, some (.t (.int y))] Y6 = .ok (.nx [some (.r i), some Yaz, some (.t (.int y))]) (hp.set j Ycl) := by
    rw [p_drop, p_meth, g3, zah]
    simp only [isL_r, zci hj, Option.isSome_some, if_true, p_cons, dv, zah, p_nil, oAppend_r, List.length_map, hl2, List.set_set]
    simp [wI]
   rw [zbe e1 (zbe e2 (r := .ok (.rt (.t (.int (y % wide)))) (hp.set j Ycl)) ?_)]
   ·rfl
   ·rw [p_ret, binP (r := .ok (.t (.int (y % wide))) (hp.set j Ycl)) (app1P rfl oInt_i) rfl (iMod_ok (cMod_ok hw)), zah]
  ·rw [getL_ne hne.symm]; exact hd
  ·rw [zci hj]
  ·simp at l2 ⊢; omega
  ·simp
  ·intro k h1 h2
   rw [List.getElem?_set_ne (Ne.symm h2)]
theorem DealAt.ltA {i j : Nat} {gs : List Int} {st : Int} {hp : IH} (h : DealAt i j gs st hp) : i < hp.length ∧ j < hp.length := ⟨getL_lt h.d, getL_lt h.g⟩
theorem DealAt.keepA {i j : Nat} {gs : List Int} {st : Int} {hp hp' : IH} (h : DealAt i j gs st hp) (h1 : hp'[i]? = hp[i]?) (h2 : hp'[j]? = hp[j]?) : DealAt i j gs st hp' := by
 obtain ⟨a, b, c, e, f⟩ := h
 exact ⟨by unfold getL at a ⊢; rw [h1]; exact a, by unfold getL at b ⊢; rw [h2]; exact b, c, e, f⟩
/-- the draws lie at i and j -/
def Deal (i j : Nat) (hp : IH) : Prop := ∃ gs st, DealAt i j gs st hp
theorem Deal.ne {i j : Nat} {hp : IH} (d : Deal i j hp) : i ≠ j := let ⟨_, _, h⟩ := d; h.ne
theorem Deal.lt {i j : Nat} {hp : IH} (d : Deal i j hp) : i < hp.length ∧ j < hp.length := let ⟨_, _, h⟩ := d; h.ltA
/-- cells besides the draws' stay -/
def Ext (i j : Nat) (hp hp' : IH) : Prop := hp.length ≤ hp'.length ∧ ∀ k, k < hp.length → k ≠ i → k ≠ j → hp'[k]? = hp[k]?
theorem Ext.refl {i j : Nat} {hp : IH} : Ext i j hp hp := ⟨Nat.le_refl _, fun _ _ _ _ => rfl⟩
theorem Ext.trans {i j : Nat} {a b c : IH} (h : Ext i j a b) (g : Ext i j b c) : Ext i j a c :=
 ⟨Nat.le_trans h.1 g.1, fun k hk h1 h2 => (g.2 k (Nat.lt_of_lt_of_le hk h.1) h1 h2).trans (h.2 k hk h1 h2)⟩
theorem Deal.keep {i j : Nat} {hp hp' : IH} (d : Deal i j hp) (h1 : hp'[i]? = hp[i]?) (h2 : hp'[j]? = hp[j]?) : Deal i j hp' := by
 obtain ⟨gs, st, h⟩ := d
 exact ⟨gs, st, h.keepA h1 h2⟩
theorem draw_is {i j : Nat} {hp : IH} {wide : Int} (d : Deal i j hp) (hw : 0 < wide) (hw2 : wide < 2 ^ 64) :
  ∃ (n : Int) (hp' : IH), zba [.r i, .t (.int wide)] hp = .ok (.t (.int n)) hp' ∧ 0 ≤ n ∧ n < wide ∧ Deal i j hp' ∧ hp'.length = hp.length ∧ ∀ k, k ≠ i → k ≠ j → hp'[k]? = hp[k]? := by
 obtain ⟨gs, st, h⟩ := d
 obtain ⟨n, hp', gs', st', h1, h2, h3, h4, h5, h6⟩ := draw_ok h hw hw2
 exact ⟨n, hp', h1, h2, h3, ⟨gs', st', h4⟩, h5, h6⟩
theorem pick_is {i j : Nat} {hp : IH} {ts : List T} (d : Deal i j hp) (h0 : 0 < ts.length) (h1 : ts.length < 2 ^ 60) :
  ∃ (t : T) (hp' : IH), t ∈ ts ∧ zay [.r i, .t (.lst ts)] hp = .ok (.t t) hp' ∧ Deal i j hp' ∧ Ext i j hp hp' := by
 obtain ⟨n, hp', e, n0, n1, d', l, k⟩ := draw_is (wide := ts.length) d Ym Ym
 have hn : n.toNat < ts.length := by omega
 refine ⟨ts[n.toNat], hp', List.getElem_mem _, ?_, d', ⟨by omega, fun q _ h2 h3 => k q h2 h3⟩⟩
 have ha : atI Yv n = some (.t ts[n.toNat]) := by
  rw [atI_nn n0 (by simpa using n1)]
  simp [hn]
 simp [zay, fnM, B_w_pick, e, ha]
theorem stir_loop {w0 w1 w2 : W} : ∀ (cs : List Int) (st : Int) (o4 : Option W) (hp : IH), 0 ≤ st → st < 2 ^ 40 →
  ∃ (st' : Int) (o4' : Option W), 0 ≤ st' ∧ st' < 2 ^ 40 ∧ (cs ≠ [] → st' < 2147483647) ∧ forL (gN 4) zcl ((cs.map T.int).map W.t) [some w0, some w1, some w2, some (.t (.int st)), o4] hp = .ok (.nx [some w0, some w1, some w2, some (.t (.int st')), o4']) hp
 | [], st, o4, hp, h0, h1 => ⟨st, o4, h0, h1, fun h => (h rfl).elim, rfl⟩
 | c :: cs, st, o4, hp, h0, h1 => by
  have c1 : cMul st 48271 = true := cMul_ok Ym Ym
  have b0 : 0 ≤ (st * 48271 + c % 2147483629 + 41) % 2147483647 := Int.emod_nonneg _ Ym
  have b1 : (st * 48271 + c % 2147483629 + 41) % 2147483647 < 2147483647 := Int.emod_lt_of_pos _ Ym
  obtain ⟨st', o4', a, b, d, q⟩ := stir_loop (w0 := w0) (w1 := w1) (w2 := w2) cs ((st * 48271 + c % 2147483629 + 41) % 2147483647) (some (.t (.int c))) hp b0 Ym
  refine ⟨st', o4', a, b, fun _ => ?_, ?_⟩
  ·by_cases e : cs = []
   ·subst e
    simp only [List.map_nil, forL, Res.ok.injEq, Fl.nx.injEq, List.cons.injEq, Option.some.injEq, W.t.injEq, T.int.injEq] at q
    omega
   ·exact d e
  ·rw [← q]
   have body : zcl [some w0, some w1, some w2, some (.t (.int st)), some (.t (.int c))] hp = .ok (.nx [some w0, some w1, some w2, some (.t (.int ((st * 48271 + c % 2147483629 + 41) % 2147483647))), some (.t (.int c))]) hp := by
    unfold zcl
    refine (set_ok (h1 := hp) (binP (app1P (binP (binP (binP rfl rfl (wMul_ok c1)) (binP (app1P rfl oInt_i) rfl (iMod_ok (cMod_ok Ym))) wAdd_ii) rfl wAdd_ii) oInt_i) rfl (iMod_ok (cMod_ok Ym)))).trans rfl
   simp only [List.map_cons, forL, p_gN, List.set_cons_succ, List.set_cons_zero, body, zah]
theorem deal_is {ns : List Int} {b : Int} {hp : IH} (hn : ns.length ≤ 63) (hb : 0 ≤ b ∧ b < 1000) : ∃ (k : Nat) (hp' : IH), F_w_deal [.t Yai, .t (.int b)] hp = .ok (.r k) hp' ∧ Deal k (k - 1) hp' ∧ hp.length < k ∧ ∀ x, x < hp.length → hp'[x]? = hp[x]? := by
 let cs : List Int := (cutL ns (some b) (some 62)).map fun c => if c < 0 then -c else c
 have lc : cs.length ≤ 63 := by
  have := cutL_len ns (some b) (some 62)
  simp only [cs, List.length_map]
  omega
 have mb : cMul 59 b = true := cMul_ok Ym Ym
 obtain ⟨st, o4, a, bb, z, q⟩ := stir_loop (w0 := .t Yai) (w1 := .t (.int b)) (w2 := .t Ye7) cs (49979687 + 59 * b) none hp Ym Ym
 have st31 : st < 2147483647 := by
  by_cases e : cs = []
  ·rw [e] at q
   simp only [List.map_nil, forL, Res.ok.injEq, Fl.nx.injEq, List.cons.injEq, Option.some.injEq, W.t.injEq, T.int.injEq] at q
   omega
  ·exact z e
 let g : Int → Bool := fun c => decide ((10 : Int) ^ 18 ≤ c)
 let eta0 : IS := [some (.t Yai), some (.t (.int b)), none, none, none]
 have k1 : (cutL (ns.map T.int) (some b) (some 62)).length ≤ 16777216 := by
  have := cutL_len (ns.map T.int) (some b) (some 62)
  rw [List.length_map] at this
  omega
 have s1 : mSet 2 Yd0 eta0 hp = .ok (.nx [some (.t Yai), some (.t (.int b)), some (.t Ye7), none, none]) hp := by
  refine (set_ok (w := .t Ye7) (h1 := hp) (comp_ok (ws := ((cutL ns (some b) (some 62)).map T.int).map W.t) (ys := (cs.map T.int).map W.t) (h1 := hp) (h2 := hp) ?_ ?_ ?_ ?_)).trans rfl
  ·rw [← cutL_map]
   simp [eta0, slW]
  ·rw [← cutL_map]; simpa using k1
  ·simp only [cs]
   rw [List.map_map (f := fun c : Int => if c < 0 then -c else c)]
   exact comp_all fun c _ => app1P (app1P rfl oInt_i) oAbs_i
  ·have : cs.length ≤ 16777216 := by omega
   simp [-List.map_map, this]
 have c2 : zb5 zap (mSq (mVar 2)) (gN 4) zcm zc7 [4] [some (.t Yai), some (.t (.int b)), some (.t Ye7), some (.t (.int st)), o4] hp = .ok (.t (.lst ((cs.filter g).map T.int))) hp := by
  have lf := List.length_filter_le g cs
  refine comp_ok (ws := (cs.map T.int).map W.t) (ys := ((cs.filter g).map T.int).map W.t) (h1 := hp) (h2 := hp) rfl (by simp; omega) ?_ ?_
  ·refine comp_list (p := g) (fun c _ => ?_) fun c _ _ => rfl
   simp [zcm, wipeI, g, cPow]
  ·have : (cs.filter g).length ≤ 16777216 := by omega
   simp [-List.map_map, this]
 let h1 : IH := hp ++ [some (.lst (((cs.filter g).reverse).map wI))]
 let h2 : IH := h1 ++ [some (.lst [.r hp.length, .t (.int st)])]
 have lz : (cs.filter g).length ≤ 63 := Nat.le_trans (List.length_filter_le _ _) lc
 refine ⟨hp.length + 1, h2, ?_, ⟨(cs.filter g).reverse, st, ⟨?_, ?_, by simpa using lz, a, st31⟩⟩, by omega, fun x hx => ?_⟩
 ·refine fnM_ok (eta := eta0) rfl rfl ?_
  unfold B_w_deal
  refine zbe s1 ?_
  refine zbe (h1 := hp) ((set_ok (h1 := hp) (binP rfl (binP rfl rfl (wMul_ok mb)) wAdd_ii)).trans rfl) ?_
  refine zbe ((for_ok (ws := (cs.map T.int).map W.t) (h1 := hp) rfl).trans q) ?_
  have rv : mUn oRevL (zb5 zap (mSq (mVar 2)) (gN 4) zcm zc7 [4]) [some (.t Yai), some (.t (.int b)), some (.t Ye7), some (.t (.int st)), o4] hp = .ok Ycs h1 := by
   rw [p_un, c2, zah]
   unfold oRevL
   simp only [litems_l, h1]
   rw [← List.map_reverse, ← List.map_reverse, List.map_map]
   rfl
  have l1 : h1.length = hp.length + 1 := by simp [h1]
  rw [p_ret, p_app, zaq rv (zaq rfl rfl), zah, newL_e, if_pos Ycc, zah, l1]
 ·rw [show hp.length + 1 - 1 = hp.length by omega]
  have e : hp.length + 1 = h1.length := by simp [h1]
  rw [e]
  exact getL_new
 ·rw [show hp.length + 1 - 1 = hp.length by omega, getL_app (by simp [h1])]
  simp [h1]
 ·simp only [h2, h1]
  rw [List.append_assoc, List.getElem?_append_left hx]
theorem fnP_lift {n nn : Nat} {B : M Fl} {ws : List W} {y : T} {h0 hp : IH} (h : fnP n nn B ws [] = .ok (.t y) h0) : fnP n nn B ws hp = .ok (.t y) hp := by
 unfold fnP at h ⊢
 split at h
 ·rename_i c
  rw [if_pos c]
  split at h
  ·cases h
   rfl
  ·cases h
   rfl
  ·cases h
 ·cases h
mutual
def sameT : T → T → Bool
 | .non, y => (match y with | .non => true | _ => false)
 | .int i, y => (match y with | .int j => decide (i = j) | _ => false)
 | .str x, y => (match y with | .str z => decide (x = z) | _ => false)
 | .tup xs, y => (match y with | .tup ys => sameL xs ys | _ => false)
 | .lst xs, y => (match y with | .lst ys => sameL xs ys | _ => false)
 | .ins c fs vs, y => (match y with | .ins c' fs' vs' => decide (c = c') && (decide (fs = fs') && sameL vs vs') | _ => false)
 | .bl i, y => (match y with | .bl j => decide (i = j) | _ => false)
 | .scr _, _ => false | .pr _, _ => false | .ty _, _ => false | .dic _ _, _ => false | .cls _, _ => false | .dit _ _, _ => false | .exc _ _ _, _ => false
def sameL : List T → List T → Bool
 | [], ys => (match ys with | [] => true | _ :: _ => false)
 | x :: xs, ys => (match ys with | [] => false | y :: ys => sameT x y && sameL xs ys)
end
mutual
theorem same_eq : ∀ (x y : T), sameT x y = true → x = y
 | .non, y, h => by cases y <;> simp [sameT] at h ⊢
 | .int i, y, h => by cases y <;> simp [sameT] at h ⊢; exact h
 | .str x, y, h => by cases y <;> simp [sameT] at h ⊢; exact h
 | .tup xs, y, h => by cases y <;> simp [sameT] at h ⊢; exact sameL_eq _ _ h
 | .lst xs, y, h => by cases y <;> simp [sameT] at h ⊢; exact sameL_eq _ _ h
 | .ins c fs vs, y, h => by cases y <;> simp [sameT] at h ⊢; exact ⟨h.1, h.2.1, sameL_eq _ _ h.2.2⟩
 | .bl i, y, h => by cases y <;> simp [sameT] at h ⊢; exact h
 | .scr _, y, h => by simp [sameT] at h
 | .pr _, y, h => by simp [sameT] at h
 | .ty _, y, h => by simp [sameT] at h
 | .dic _ _, y, h => by simp [sameT] at h
 | .cls _, y, h => by simp [sameT] at h
 | .dit _ _, y, h => by simp [sameT] at h
 | .exc _ _ _, y, h => by simp [sameT] at h
theorem sameL_eq : ∀ (xs ys : List T), sameL xs ys = true → xs = ys
 | [], ys, h => by cases ys <;> simp [sameL] at h ⊢
 | x :: xs, ys, h => by
  cases ys with
  | nil => simp [sameL] at h
  | cons y ys =>
   simp only [sameL, Bool.and_eq_true] at h
   rw [same_eq _ _ h.1, sameL_eq _ _ h.2]
end
def isT (r : Res W) (t : T) : Bool := match r with
 | .ok (.t y) _ => sameT y t
 | _ => false
theorem isT_ok {r : Res W} {t : T} (h : isT r t = true) : ∃ h', r = .ok (.t t) h' := by
 unfold isT at h
 split at h
 ·rename_i y h'
  exact ⟨h', by rw [same_eq _ _ h]⟩
 ·cases h
theorem fnX_nx {n nn : Nat} {B : M Fl} {ws : List W} {hp h1 : IH} {e eta : IS} (hl : ws.length = n) (he : ws.map some ++ List.replicate (nn - n) none = eta) (h : B eta hp = .ok (.nx e) h1) : fnX n nn B ws hp = .ok Ydj h1 := by
 unfold fnX
 rw [if_pos hl, he, h]
theorem fset_ok' {cs : List Str} {f c : Str} {Fo Fv : M W} {eta : IS} {hp h1 : IH} {v : W} {i : Nat} {fs : List Ydt} (h : Fv eta hp = .ok v h1) (g : Fo eta h1 = .ok (.r i) h1) (q : h1[i]? = some (some (.ins c fs))) (m : c ∈ cs) (l : fs.length < 1000) : zby cs f Fo Fv eta hp = .ok Ydi (h1.set i (some Ygl)) := by
 unfold zby
 rw [h, zah, g, zah]
 unfold fldSet
 simp only [q, m, l, and_self, if_true]
theorem set_set {hp : IH} {i : Nat} {a b : Option Cell} : (hp.set i a).set i b = hp.set i b := List.set_set ..
theorem set_at {hp : IH} {i : Nat} {a : Option Cell} (h : i < hp.length) : (hp.set i a)[i]? = some a := by rw [List.getElem?_set_self h]
theorem app_at {hp : IH} {x : Option Cell} : (hp ++ [x])[hp.length]? = some x := by simp
theorem app_set {hp : IH} {x y : Option Cell} : (hp ++ [x]).set hp.length y = hp ++ [y] := by simp
theorem frz_made {F : M W} {eta : IS} {hp h1 : IH} {c : Str} {fs : List Ydt} {ts : List T} (h : F eta hp = .ok (.r h1.length) (h1 ++ [some (.ins c fs)])) (g : ∀ h, frzAll fs h = .ok ts h) : zcx F eta hp = .ok (.t (.ins c (fs.map (·.1)) ts)) (h1 ++ [none]) := by
 unfold zcx
 rw [h, zah]
 unfold freezeI
 simp only [app_at, g, zah, app_set]
theorem makeX_ok {c : Str} {f : OpN} {ds : List T} {Fs : M (List W)} {eta : IS} {hp h1 : IH} {ws : List W} {fs : List Ydt} (h : Fs eta hp = .ok ws h1) (q : f (.r h1.length :: (ws ++ ds.map W.t)) (h1 ++ [some (.ins c [])]) = .ok Ydj (h1 ++ [some (.ins c fs)])) :
  zbw c f ds Fs eta hp = .ok (.r h1.length) (h1 ++ [some (.ins c fs)]) := by
 unfold zbw
 rw [h, zah, q]
 rfl
theorem fnX_er {n nn : Nat} {B : M Fl} {ws : List W} {hp h1 : IH} {e : Ex} {eta eta' : IS} (hl : ws.length = n) (he : ws.map some ++ List.replicate (nn - n) none = eta) (h : B eta hp = .er e eta' h1) : fnX n nn B ws hp = .er e [] h1 := by
 unfold fnX
 rw [if_pos hl, he, h]
theorem tup_sq (b : Bool) {ts : List T} {hp : IH} : oTup [.t (sqT b ts)] hp = .ok Yaw hp := by
 cases b
 ·exact oTup_l
 ·exact oTup_t
def Grown (h h' : IH) : Prop := h.length ≤ h'.length ∧ ∀ k, k < h.length → h'[k]? = h[k]?
theorem Grown.app {h X : IH} : Grown h (h ++ X) := ⟨by simp, fun k hk => List.getElem?_append_left hk⟩
theorem Grown.trans {a b c : IH} (x : Grown a b) (y : Grown b c) : Grown a c := ⟨Nat.le_trans x.1 y.1, fun k hk => (y.2 k (Nat.lt_of_lt_of_le hk x.1)).trans (x.2 k hk)⟩
section
open TL
variable {i j : Nat} {hp h : IH}
abbrev lamQ : Str := ("law" ++ ".<locals>.") ++ "<lambda>"
/-- the draws, and the law's table of code objects -/
structure DT (i j : Nat) (h : IH) : Prop where
 d : Deal i j h
 t : h[0]? = some (some Yfw)
 i0 : 0 < i
 j0 : 0 < j
theorem DT.ext {h h' : IH} (D : DT i j h) (d : Deal i j h') (x : Ext i j h h') : DT i j h' := by
 have := D.i0
 have := D.j0
 exact ⟨d, by rw [x.2 0 (by have := D.d.lt; omega) Ym Ym]; exact D.t, D.i0, D.j0⟩
theorem DT.same {h h' : IH} (D : DT i j h) (d : Deal i j h') (x : ∀ k, k ≠ i → k ≠ j → h'[k]? = h[k]?) : DT i j h' := by
 have := D.i0
 have := D.j0
 exact ⟨d, by rw [x 0 Ym Ym]; exact D.t, D.i0, D.j0⟩
theorem DT.grown {h h' : IH} (D : DT i j h) (g : Grown h h') : DT i j h' := by
 have := D.d.lt
 exact ⟨D.d.keep (g.2 i Ym) (g.2 j Ym), by rw [g.2 0 Ym]; exact D.t, D.i0, D.j0⟩
theorem DT.draw {wide : Int} (D : DT i j h) (w : 0 < wide) (w2 : wide < 2 ^ 64) : ∃ (n : Nat) (h' : IH), zba [.r i, .t (.int wide)] h = .ok (.t (.int (n : Nat))) h' ∧ (n : Int) < wide ∧ DT i j h' := by
 obtain ⟨n, h1, e, a, b, d1, l, x⟩ := draw_is D.d w w2
 obtain ⟨n, rfl⟩ : ∃ m : Nat, n = (m : Int) := ⟨n.toNat, by omega⟩
 exact ⟨n, h1, e, b, D.same d1 x⟩
theorem DT.pick {ts : List T} (D : DT i j h) (l : 0 < ts.length) (l2 : ts.length < 2 ^ 60) : ∃ (t : T) (h' : IH), t ∈ ts ∧ zay [.r i, .t (.lst ts)] h = .ok (.t t) h' ∧ DT i j h' := by
 obtain ⟨t, h1, m, e, d1, x⟩ := pick_is D.d l l2
 exact ⟨t, h1, m, e, D.ext d1 x⟩
def dsgE (w : Str) : Ex := ⟨"InvalidDesign", [("word", .t (.str w))]⟩
theorem heard09 {w : Str} : clsL 2 (dsgE w) ((List.replicate 3 none).set 1 (some Ydj)) h [Yg] = .ok (.nx [none, some (.t (.str w)), none]) h := by kernel_rfl
theorem hear09 {w : Str} {C : M W} {E : IS} {h' : IH} (D : DT i j h) (e : C E h = .er (dsgE w) E h') : (zcg Yl 3 1 2 .non C [Yg] : M W) E h = .ok (.t (.str w)) h' := by
 unfold zcg
 simp only [D.t, if_true, e, heard09]
 rfl
theorem let09 {t : W} {C : M W} {E : IS} {h' : IH} (D : DT i j h) (e : C E h = .ok t h') : (zcg Yl 3 1 2 .non C [Yg] : M W) E h = .ok Ydj h' := by
 unfold zcg
 simp only [D.t, if_true, e]
/-- a test that is told of any heap -/
def zb8 (F : OpN) (t : T) (b : Bool) : Prop := ∀ h : IH, F [.t t] h = .ok Yde h
theorem tells_of {n nn : Nat} {B : M Fl} {t : T} {b : Bool} (c : isT (fnP n nn B [.t t] []) (.bl b) = true) : zb8 (fnP n nn B) t b := fun h => by
 obtain ⟨h0, e⟩ := isT_ok c
 exact fnP_lift e
theorem tells_all {n nn : Nat} {B : M Fl} {b : Bool} {ts : List T} (c : (ts.all fun t => isT (fnP n nn B [.t t] []) (.bl b)) = true) : ∀ t ∈ ts, zb8 (fnP n nn B) t b := fun t ht => tells_of (List.all_eq_true.mp c t ht)
theorem if_tell {F : OpN} {k : Nat} {t : T} {Y : M Fl} {E : IS} (e : E[k]? = some (some (.t t))) (q : zb8 F t true) : (mIf (mNot (zal truW (zas F [] (zab (mVar k) (mNil))))) Y (zbc) : M Fl) E h = .ok (.nx E) h := by
 rw [if_no (h1 := h) Yfc]
 rfl
theorem if_not {F : OpN} {k : Nat} {t : T} {Y : M Fl} {E : IS} (e : E[k]? = some (some (.t t))) (q : zb8 F t false) : (mIf (mNot (zal truW (zas F [] (zab (mVar k) (mNil))))) Y (zbc) : M Fl) E h = Y E h := by
 rw [if_yes (h1 := h) Yfc]
section
variable {n : Nat} {a b c : T}
theorem init_k (q : zb8 zbb a false) : zan [.r n, .t a, .t b, .t c] h = .er (dsgE "kinds") [] h := by
 refine fnX_er (eta := [some (.r n), some (.t a), some (.t b), some (.t c)]) (eta' := [some (.r n), some (.t a), some (.t b), some (.t c)]) rfl rfl ?_
 unfold zbz
 rw [p_seq, if_not rfl q]
 rfl
theorem init_r (q : zb8 zbb a true) (q2 : zb8 za2 b false) : zan [.r n, .t a, .t b, .t c] h = .er (dsgE "readers") [] h := by
 refine fnX_er (eta := [some (.r n), some (.t a), some (.t b), some (.t c)]) (eta' := [some (.r n), some (.t a), some (.t b), some (.t c)]) rfl rfl ?_
 unfold zbz
 refine zbe (if_tell rfl q) ?_
 rw [p_seq, if_not rfl q2]
 rfl
theorem init_o (q : zb8 zbb a true) (q2 : zb8 za2 b true) (q3 : zb8 zax c false) : zan [.r n, .t a, .t b, .t c] h = .er (dsgE "rounds") [] h := by
 refine fnX_er (eta := [some (.r n), some (.t a), some (.t b), some (.t c)]) (eta' := [some (.r n), some (.t a), some (.t b), some (.t c)]) rfl rfl ?_
 unfold zbz
 refine zbe (if_tell rfl q) (zbe (if_tell rfl q2) ?_)
 rw [p_seq, if_not rfl q3]
 rfl
end
theorem make_er {Fs : M (List W)} {E : IS} {a b c : T} {e : Ex} (ha : Fs E h = .ok [.t a, .t b, .t c] h) (q : ∀ n h, zan [.r n, .t a, .t b, .t c] h = .er e [] h) : (zcx (zbw "Design" zan [] Fs) : M W) E h = .er e E (h ++ [some Ydw]) := by
 unfold zcx zbw
 rw [ha, zah]
 simp only [List.map_nil, List.append_nil]
 rw [q]
 rfl
theorem init_ok {k : Nat} {b1 b2 : Bool} {A B G : List T} (hi : hp[k]? = some (some Ydw)) (q1 : zb8 zbb (sqT b1 A) true) (q2 : zb8 za2 (sqT b2 B) true) (q3 : zb8 zax (.lst G) true) (so : ∀ h, oSortQ [.t (.lst G)] h = .ok (.t (.lst G)) h) :
  zan [.r k, .t (sqT b1 A), .t (sqT b2 B), .t (.lst G)] hp = .ok Ydj (hp.set k (some (.ins "Design" [("kinds", .t (.tup A)), ("readers", .t (.tup B)), ("rounds", .t (.tup G))]))) := by
 have il : k < hp.length := (List.getElem?_eq_some_iff.mp hi).1
 let E : IS := [some (.r k), some (.t (sqT b1 A)), some (.t (sqT b2 B)), some (.t (.lst G))]
 refine fnX_nx (e := E) (eta := E) rfl rfl ?_
 unfold zbz
 refine zbe (if_tell rfl q1) (zbe (if_tell rfl q2) (zbe (if_tell rfl q3) ?_))
 refine zbe (fset_ok' (c := "Design") (h1 := hp) (v := .t (.tup A)) (app1P (a := .t (sqT b1 A)) rfl (tup_sq b1)) rfl hi Ybo Ybo) ?_
 refine zbe (fset_ok' (c := "Design") (v := .t (.tup B)) (app1P (a := .t (sqT b2 B)) rfl (tup_sq b2)) rfl (set_at il) Ybo (Nat.lt_of_sub_eq_succ rfl)) ?_
 rw [set_set]
 have so' : mApp oSortQ Yax E Ydr = .ok (.t (.lst G)) Ydr := app1P (a := .t (.lst G)) rfl (so _)
 refine (fset_ok' (c := "Design") (v := .t (.tup G)) (app1P so' oTup_l) rfl (set_at il) Ybo (Nat.lt_of_sub_eq_succ rfl)).trans ?_
 rw [set_set]
 rfl
abbrev dsgT (A B G : List T) : T := .ins "Design" ["kinds", "readers", "rounds"] [.tup A, .tup B, .tup G]
theorem make_good {b1 b2 : Bool} {A B G : List T} {Fs : M (List W)} {E : IS} (ha : Fs E h = .ok [.t (sqT b1 A), .t (sqT b2 B), .t (.lst G)] h) (q1 : zb8 zbb (sqT b1 A) true) (q2 : zb8 za2 (sqT b2 B) true) (q3 : zb8 zax (.lst G) true) (so : ∀ h, oSortQ [.t (.lst G)] h = .ok (.t (.lst G)) h) :
  (zcx (zbw "Design" zan [] Fs) : M W) E h = .ok (.t (dsgT A B G)) (h ++ [none]) := by
 have q := init_ok (hp := h ++ [some Ydw]) (k := h.length) app_at q1 q2 q3 so
 rw [app_set] at q
 exact frz_made (makeX_ok (ds := []) ha q) fun _ => rfl
def K1 : T := .ins "Kind" ["name", "steps", "deeds"] [.str "w", .tup [.str "write a"], .tup [.tup [.str "write", .str "a"]]]
def K2 : T := .ins "Kind" ["name", "steps", "deeds"] [.str "add", .tup [.str "bump c"], .tup [.tup [.str "bump", .str "c"]]]
def R1 : T := .ins "Reader" ["name", "steps", "checks", "deeds", "tests"] [.str "r", .tup [.str "read a"], .tup [], .tup [.tup [.str "read", .str "a"]], .tup []]
def R2 : T := .ins "Reader" ["name", "steps", "checks", "deeds", "tests"] [.str "w", .tup [.str "read b"], .tup [], .tup [.tup [.str "read", .str "b"]], .tup []]
theorem start_k {E : IS} : (mApp zap Yal : M W) E [some Yfw] = .ok (.t (.lst [K1, K2])) [some Yfw, none, none] := by kernel_rfl
theorem start_r {E : IS} : (mApp zap Yab : M W) E [some Yfw, none, none] = .ok (.t (.lst [R1, R2])) [some Yfw, none, none, none, none] := by kernel_rfl
def bents (a b s t : T) : List T := [.non, .int 3, .lst [], .tup [], a, .str "kind w: write a", .lst [a, b, a]] ++ ((List.range 3).map fun k => ([T.non, s, .int 3, .lst [a], t].map fun o => T.lst (([a, b] : List T).take k ++ [o] ++ ([a, b] : List T).drop k))).flatten
def sK : T := .str "kind w: write a"
def sR : T := .str "reader r: read a"
theorem str_k : (oStrO [("Kind", zbx), ("Reader", zbf)] [.t K1] : IH → Res W) h = .ok (.t sK) h := by kernel_rfl
theorem str_r : (oStrO [("Kind", zbx), ("Reader", zbf)] [.t R1] : IH → Res W) h = .ok (.t sR) h := by kernel_rfl
theorem bad_k : ∀ t ∈ bents K1 K2 sK R1, zb8 zbb t false := tells_all Ybx
theorem bad_r : ∀ t ∈ bents R1 R2 sR K1, zb8 za2 t false := tells_all Ybx
theorem good_k (b : Bool) : zb8 zbb (sqT b [K1, K2]) true := by cases b <;> exact tells_of Ybx
theorem good_r (b : Bool) : zb8 za2 (sqT b [R1, R2]) true := by cases b <;> exact tells_of Ybx
abbrev eT2 : T := .tup [.str "e", .int 2]
def oddR : List T := [.tup [.str "c", .int 1], .tup [.str "c", .int 0], .tup [.str "c", .bl true], .tup [.str "c", .str "2"], .tup [.str "if", .int 2], .tup [.str "abcde", .int 2], .tup [.non, .int 2], .lst [.str "c", .int 2], .tup [.str "c"], .tup [.str "c", .int 2, .int 3], .tup [.str "c", .int (-2)], .tup [.str "c", .non], .str "c 2", .non]
def someR : List T := [.non, .tup [.str "c", .int 2], .str "c", .int 3, .lst [.tup [.str "c", .int 2], .tup [.str "c", .int 3]], .lst [.tup [.str "e", .int 3], .tup [.str "c", .int 2], .tup [.str "e", .int 3]]]
theorem bad_o : ∀ t ∈ someR ++ (oddR.map fun o => T.lst [eT2, o]) ++ (oddR.map fun o => T.lst [o, eT2]), zb8 zax t false := tells_all Ybx
def good (n d : Nat) : List T := ([.tup [.str "c", .int (2 + (d : Int))], .tup [.str "q", .int 2]] : List T).take n
theorem good_o : ∀ n, n < 3 → ∀ d, d < 7 → zb8 zax (.lst Yb8) true := by
 have z : ∀ n, n < 3 → ∀ d, d < 7 → isT (zax [.t (.lst Yb8)] []) Ye9 = true := by decide +kernel
 exact fun n hn d hd => tells_of (z n hn d hd)
theorem good_s : ∀ n, n < 3 → ∀ d, ∀ h, oSortQ [.t (.lst Yb8)] h = .ok (.t (.lst Yb8)) h
 | 0, _, d, h => by kernel_rfl
 | 1, _, d, h => by kernel_rfl
 | 2, _, d, h => by kernel_rfl
 | n + 3, hn, d, h => absurd hn Ym
theorem fit_good : ∀ n, n < 3 → ∀ d, d < 7 → fit (.tup Yb8) 60 = true ∧ Mir.eqT (.tup Yb8) (.tup Yb8) = true := by decide +kernel
end
section
theorem cutL_from' {A : Type} (xs : List A) (k : Nat) : cutL xs (some (k : Int)) none = xs.drop k := by
 unfold cutL
 rw [HT.sIx_none, HT.sIx_nat]
 rcases Nat.le_total k xs.length with h | h
 ·rw [Nat.min_eq_left h, List.take_of_length_le (by rw [List.length_drop]; omega)]
 ·rw [Nat.min_eq_right h, List.drop_eq_nil_of_le Yf4, List.drop_eq_nil_of_le h, List.take_nil]
end
section
open TL
variable {i j : Nat} {hp h : IH}
theorem bent_is {a b s t : T} (D : DT i j h) (hs : ∀ h : IH, (oStrO [("Kind", zbx), ("Reader", zbf)] [.t a] : IH → Res W) h = .ok (.t s) h) : ∃ (v : T) (h' : IH), v ∈ bents a b s t ∧ zcj [.r i, .t (.lst [a, b]), .t t] h = .ok (.t v) h' ∧ DT i j h' := by
 obtain ⟨n, h1, e1, n3, D1⟩ := D.draw (wide := 3) Ym Ym
 let odds : List T := [.non, s, .int 3, .lst [a], t]
 obtain ⟨o, h2, mo, e2, D2⟩ := D1.pick (ts := odds) (by simp [odds]) (by simp [odds])
 let fst : List T := [.non, .int 3, .lst [], .tup [], a, .str "kind w: write a", .lst [a, b, a]]
 let bt : T := .lst (([a, b] : List T).take n ++ [o] ++ ([a, b] : List T).drop n)
 obtain ⟨v, h3, mv, e3, D3⟩ := D2.pick (ts := fst ++ [bt]) Ycc (by simp [fst])
 refine ⟨v, h3, ?_, ?_, D3⟩
 ·unfold bents
  rcases List.mem_append.mp mv with m | m
  ·exact List.mem_append_left _ m
  ·rw [List.mem_singleton.mp m]
   exact List.mem_append_right _ (List.mem_flatten.mpr ⟨_, List.mem_map.mpr ⟨n, List.mem_range.mpr Ym, rfl⟩, List.mem_map.mpr ⟨o, mo, rfl⟩⟩)
 ·let E : Option W → Option W → Option W → IS := fun w3 w4 w5 => [some (.r i), some (.t (.lst [a, b])), some (.t t), w3, w4, w5]
  refine fnM_ok (eta := E none none none) rfl rfl ?_
  unfold B_w_bent
  let N : Option W := some (.t (.int (n : Nat)))
  refine zbe (e1 := E N none none) (h1 := h1) ((set_ok (zbr (ws := [.r i, .t (.int 3)]) rfl e1)).trans rfl) ?_
  have l4 : (mApp zap Yc3 : M W) (E N none none) h1 = .ok (.t (.lst odds)) h1 := by
   rw [p_app, zaq (a := .t .non) rfl (zaq (app1P (a := .t a) rfl (hs h1)) (zaq (a := .t (.int 3)) rfl (zaq (a := .t (.lst [a])) rfl (zaq (a := .t t) rfl rfl)))), zah]
   rfl
  refine zbe (e1 := E N (some (.t (.lst odds))) none) (h1 := h1) ((set_ok l4).trans rfl) ?_
  refine zbe (e1 := E N (some (.t (.lst odds))) (some (.t (.lst fst)))) (h1 := h1) ((set_ok (w := .t (.lst fst)) (h1 := h1) rfl).trans rfl) ?_
  let E5 : IS := E N (some (.t (.lst odds))) (some (.t (.lst fst)))
  show (mRet _ : M Fl) E5 h1 = _
  have tl : (([a, b] : List T).take n).length ≤ 2 := by rw [List.length_take]; exact Nat.min_le_right _ _
  have dl : (([a, b] : List T).drop n).length ≤ 2 := by rw [List.length_drop]; exact Nat.sub_le _ _
  have sa : (mSl (mVar 1) zco (mPart (mVar 3)) : M W) E5 h1 = .ok (.t (.lst (([a, b] : List T).take n))) h1 := by
   show slW (.t (.lst [a, b])) none (some ((n : Nat) : Int)) h1 = _
   simp only [slW, cutL_to]
  have sb : (mSl (mVar 1) (mPart (mVar 3)) zco : M W) E5 h2 = .ok (.t (.lst (([a, b] : List T).drop n))) h2 := by
   show slW (.t (.lst [a, b])) (some ((n : Nat) : Int)) none h2 = _
   simp only [slW, cutL_from']
  have pk : (mApp zap Yci : M W) E5 h1 = .ok (.t (.lst [o])) h2 := app1_ok (zbr (ws := [.r i, .t (.lst odds)]) rfl e2) rfl
  have sc : (mBin wAdd (mSl (mVar 1) zco (mPart (mVar 3))) (mApp zap Yci) : M W) E5 h1 = .ok (.t (.lst (([a, b] : List T).take n ++ [o]))) h2 := bin_ok sa pk (by
   rw [wAdd_ll, if_pos (by simp only [List.length_cons, List.length_nil]; omega)])
  have sd := bin_ok (f := wAdd) sc sb (r := .ok (.t bt) h2) (by
   rw [wAdd_ll, if_pos (by simp only [List.length_append, List.length_cons, List.length_nil]; omega)])
  have se := bin_ok (f := wAdd) (Fa := mVar 5) (eta := E5) (hp := h1) (a := .t (.lst fst)) (h1 := h1) (r := .ok (.t (.lst (fst ++ [bt]))) h2) rfl (app1_ok sd (f := zap) (r := .ok (.t (.lst [bt])) h2) rfl) (by
   rw [wAdd_ll, if_pos (by simp [fst])])
  rw [p_ret, zbr (ws := [.r i, .t (.lst (fst ++ [bt]))]) (zaq rfl (zaq se rfl)) e3]
  rfl
theorem ret_ok {F : M W} {E : IS} {h h1 : IH} {w : W} (e : F E h = .ok w h1) : (mRet F : M Fl) E h = .ok (.rt w) h1 := by
 rw [p_ret, e]
 rfl
theorem rounds_are (D : DT i j h) : ∃ (v : T) (h' : IH), zb8 zax v false ∧ zb1 [.r i] h = .ok (.t v) h' ∧ DT i j h' := by
 obtain ⟨o1, h1, m1, r1, D1⟩ := D.pick (ts := oddR) (by simp [oddR]) (by simp [oddR])
 obtain ⟨o2, h2, m2, r2, D2⟩ := D1.pick (ts := oddR) (by simp [oddR]) (by simp [oddR])
 obtain ⟨v, h3, mv, r3, D3⟩ := D2.pick (ts := someR ++ [.lst [eT2, o1], .lst [o2, eT2]]) Ycc (by simp [someR])
 refine ⟨v, h3, bad_o v ?_, ?_, D3⟩
 ·rcases List.mem_append.mp mv with m | m
  ·exact List.mem_append_left _ (List.mem_append_left _ m)
  ·simp only [List.mem_cons, List.not_mem_nil, or_false] at m
   rcases m with rfl | rfl
   ·exact List.mem_append_left _ (List.mem_append_right _ (List.mem_map_of_mem m1))
   ·exact List.mem_append_right _ (List.mem_map_of_mem m2)
 ·let E : Option W → Option W → IS := fun w1 w2 => [some (.r i), w1, w2]
  refine fnM_ok (eta := E none none) rfl rfl ?_
  unfold B_w_bent_rounds
  refine zbe (e1 := E (some (.t (.lst (oddR.take 9)))) none) (h1 := h) (by kernel_rfl) ?_
  refine zbe (e1 := E (some (.t (.lst oddR))) none) (h1 := h) (by kernel_rfl) ?_
  refine zbe (e1 := E (some (.t (.lst oddR))) (some (.t (.lst someR)))) (h1 := h) (by kernel_rfl) ?_
  let E2 : IS := E (some (.t (.lst oddR))) (some (.t (.lst someR)))
  show (mRet _ : M Fl) E2 h = _
  have p1 : (zas zay [] (zab (mVar 0) Yo) : M W) E2 h = .ok (.t o1) h1 := zbr (ws := [.r i, .t (.lst oddR)]) rfl r1
  have p2 : (zas zay [] (zab (mVar 0) Yo) : M W) E2 h1 = .ok (.t o2) h2 := zbr (ws := [.r i, .t (.lst oddR)]) rfl r2
  have q1 : (mApp zap (zab (mApp za4 (zab (mC (.str "e")) Yk)) (zab (zas zay [] (zab (mVar 0) Yo)) (mNil))) : M W) E2 h = .ok (.t (.lst [eT2, o1])) h1 := by
   rw [p_app, zaq (a := .t eT2) rfl (zaq p1 rfl), zah]
   rfl
  have q2 : (mApp zap (zab (zas zay [] (zab (mVar 0) Yo)) (zab (mApp za4 (zab (mC (.str "e")) Yk)) (mNil))) : M W) E2 h1 = .ok (.t (.lst [o2, eT2])) h2 := by
   rw [p_app, zaq p2 (zaq (a := .t eT2) rfl rfl), zah]
   rfl
  have se := bin_ok (f := wAdd) (Fa := mVar 2) (Fb := mApp zap Ybm) (eta := E2) (hp := h) (a := .t (.lst someR)) (b := .t (.lst [.lst [eT2, o1], .lst [o2, eT2]])) (h1 := h) (h2 := h2) (r := .ok (.t (.lst (someR ++ [.lst [eT2, o1], .lst [o2, eT2]]))) h2) rfl (by
   rw [p_app, zaq q1 (zaq q2 rfl), zah]
   rfl) (by rw [wAdd_ll, if_pos (by simp [someR])])
  have ag := zaq (Fa := mVar 0) (eta := E2) (hp := h) (a := .r i) (h1 := h) rfl (zaq se (Fs := mNil) (as := []) (h2 := h2) rfl)
  have ca := zbr ag r3
  exact ret_ok ca
theorem name_not : ∀ t ∈ ([.str "if", .str "abcde", .non, .int 3, .tup [.str "c"], .str "", .str "C", .lst [.str "c"]] : List T), zb8 za9 t false := tells_all Ybx
theorem name_c : zb8 za9 (.str "c") true := tells_of Ybx
abbrev sizes : List T := [.int 1, .int 0, .bl true, .str "2", .tup [.int 2], .int (-2), .lst [.int 2]]
def leftR : Nat → List T
 | 2 => [.tup [.str "q", .int 2]]
 | _ => []
theorem bad_left : ∀ n, n < 3 → ∀ z ∈ sizes, zb8 zax (.lst (leftR n ++ [.tup [.str "c", z]])) false := by
 have q : ∀ n, n < 3 → (sizes.all fun z => isT (zax [.t (.lst (leftR n ++ [.tup [.str "c", z]]))] []) Yeg) = true := by decide +kernel
 exact fun n hn z hz => tells_of (List.all_eq_true.mp (q n hn) z hz)
section
variable {A B G : List T} {c z : T} {e : Ex} {h' : IH} {Fo : M W} {Fs : M (List W)} {E : IS}
theorem meth_er (ho : Fo E h = .ok (.t (dsgT A B G)) h) (ha : Fs E h = .ok [.t c, .t z] h) (q : zao [.t (dsgT A B G), .t c, .t z] h = .er e [] h') : (mMethX "Design" "with_round" zao [] Fo Fs : M W) E h = .er e E h' := by
 have io : insOf h (.t (dsgT A B G)) = some (("Design" : Str), ([("kinds", .t (.tup A)), ("readers", .t (.tup B)), ("rounds", .t (.tup G))] : List Ydt)) := rfl
 have lk : ([("kinds", .t (.tup A)), ("readers", .t (.tup B)), ("rounds", .t (.tup G))] : List Ydt).lookup ("with_round" : Str) = none := by kernel_rfl
 unfold mMethX
 rw [ho, zah, io]
 simp only
 rw [if_pos ⟨trivial, lk⟩, ha, zah]
 simp only [List.map_nil, List.append_nil]
 rw [q]
 rfl
theorem wr_name (q : zb8 za9 c false) : zao [.t (dsgT A B G), .t c, .t z] h = .er (dsgE "rounds") [] h := by
 refine fnX_er (eta := [some (.t (dsgT A B G)), some (.t c), some (.t z), none, none]) (eta' := [some (.t (dsgT A B G)), some (.t c), some (.t z), none, none]) rfl rfl ?_
 unfold zbs
 rw [p_seq, if_not rfl q]
 rfl
end
theorem left_is {d : Nat} {z : T} : ∀ {n : Nat}, n < 3 → (mSet 3 Yfl : M Fl) [some (.t Yey), some (.t (.str "c")), some (.t z), none, none] h = .ok (.nx [some (.t Yey), some (.t (.str "c")), some (.t z), some Yfd, none]) (h ++ [some (.lst ((leftR n).map W.t))])
 | 0, _ => by kernel_rfl
 | 1, _ => by kernel_rfl
 | 2, _ => by kernel_rfl
 | n + 3, hn => absurd hn Ym
theorem wr_size {n d : Nat} {z : T} (hn : n < 3) (hz : z ∈ sizes) : zao [.t Yey, .t (.str "c"), .t z] h = .er (dsgE "rounds") [] (h ++ [none] ++ [some Ydw]) := by
 let Dg : T := dsgT [K1, K2] [R1, R2] Yb8
 let E : Option W → IS := fun w3 => [some (.t Dg), some (.t (.str "c")), some (.t z), w3, none]
 let ws : List W := (leftR n).map W.t
 let ts : List T := leftR n ++ [.tup [.str "c", z]]
 let E3 : IS := E (some Yad)
 refine fnX_er (eta := E none) (eta' := E3) rfl rfl ?_
 unfold zbs
 refine zbe (if_tell rfl name_c) ?_
 refine zbe (e1 := E (some Yfd)) (h1 := h ++ [some Yb3]) ?_ ?_
 ·exact left_is hn
 have gl : ∀ ws : List W, getL Yeb h.length = some ws := fun ws => by simp [getL]
 refine zbe (e1 := E (some Yfd)) (h1 := h ++ [some (.lst Yv)]) ?_ ?_
 ·have nz : (zal asB (mBin (isN true) (mVar 2) Yat) : M Bool) (E (some Yfd)) Yeb = .ok true Yeb := by
   simp only [sizes, List.mem_cons, List.not_mem_nil, or_false] at hz
   rcases hz with rfl | rfl | rfl | rfl | rfl | rfl | rfl <;> rfl
  rw [if_yes nz]
  have tp : (zab (mApp za4 (zab (mVar 1) Y4)) (mNil) : M (List W)) (E (some Yfd)) Yeb = .ok [.t (.tup [.str "c", z])] Yeb := rfl
  have vr : (mVar 3 : M W) (E (some Yfd)) Yeb = .ok Yfd Yeb := rfl
  have wl : ws.length < 16777216 := by
   have q : ∀ n, n < 3 → (leftR n).length < 10 := by decide +kernel
   have := q n hn
   simp only [ws, List.length_map]
   omega
  rw [p_drop, p_meth, vr, zah]
  simp only [isL_r, gl, Option.isSome_some, if_true, tp, zah, oAppend_r, wl]
  rw [app_set]
  simp only [ws, ts, List.map_append, List.map_cons, List.map_nil]
 rw [p_fz]
 show ((zb4 Yfd (h ++ [some (.lst Yv)])).bind _) = _
 rw [frz_ok (gl _), zah, app_set]
 have mk := make_er (h := h ++ [none]) (E := E3) (Fs := zab (mFld ["Design"] "kinds" (mVar 0)) (zab (mFld ["Design"] "readers" (mVar 0)) Yax)) (a := .tup [K1, K2]) (b := .tup [R1, R2]) (c := .lst ts) (e := dsgE "rounds") rfl (fun n' h => init_o (good_k true) (good_r true) (bad_left n hn z hz))
 show (mRet _ : M Fl) E3 (h ++ [none]) = _
 rw [p_ret, mk]
 rfl
end
section
open TL
variable {i j : Nat} {hp h : IH}
abbrev KS : T := .lst [K1, K2]
abbrev RS : T := .lst [R1, R2]
abbrev L09 (P w3 : Option W) (i : Nat) (w5 w6 w7 w8 w9 w10 w11 w12 : Option W) : IS := [P, some (.t KS), some (.t RS), w3, some (.r i), w5, w6, w7, w8, w9, w10, w11, w12]
theorem same_w {w : Str} {C : M W} {E : IS} {h' : IH} (q : ((zcg Yl 3 1 2 .non C [Yg]) : M W) E h = .ok (.t (.str w)) h') : (mIf (zal asB (mBin Ybv (zcg Yl 3 1 2 .non C [Yg]) (mC (.str w)))) Y8 (zbc) : M Fl) E h = .ok (.nx E) h' := by
 rw [if_no (h1 := h') (test_ok (bin_ok (h1 := h') (h2 := h') q (b := .t (.str w)) rfl (ev_eqs.trans Ycc)))]
 rfl
theorem turn09 {P w3 w5 w6 w7 w8 w9 w10 w11 w12 : Option W} (D : DT i j h) :
  Wp (f_law_l1 (L09 P w3 i w5 w6 w7 w8 w9 w10 w11 w12) h) fun fl h' => ∃ v6 v7 v8 v9 v10 v11 v12 : Option W, fl = .nx (L09 P w3 i w5 v6 v7 v8 v9 v10 v11 v12) ∧ DT i j h' := by
 let E : Option W → Option W → Option W → Option W → Option W → Option W → Option W → IS := L09 P w3 i w5
 unfold f_law_l1
 obtain ⟨o1, h1, m1, e1, D1⟩ := bent_is (a := K1) (b := K2) (s := sK) (t := R1) D fun h => str_k
 obtain ⟨o2, h2, m2, e2, D2⟩ := bent_is (a := R1) (b := R2) (s := sR) (t := K1) D1 fun h => str_r
 have b1 := bad_k o1 m1
 have b2 := bad_r o2 m2
 have s1 : (mParG 2 Yek (gsC (gN 6) (gsC (gN 7) gsN)) : M Fl) (E w6 w7 w8 w9 w10 w11 w12) h = .ok (.nx (E (some (.t o1)) (some (.t o2)) w8 w9 w10 w11 w12)) h2 := by
  have c1 : (zas zcj [] Yca : M W) (E w6 w7 w8 w9 w10 w11 w12) h = .ok (.t o1) h1 := zbr (ws := [.r i, .t KS, .t R1]) rfl e1
  have c2 : (zas zcj [] (zab (mVar 4) (zab (mVar 2) Ybk)) : M W) (E w6 w7 w8 w9 w10 w11 w12) h1 = .ok (.t o2) h2 := zbr (ws := [.r i, .t RS, .t K1]) rfl e2
  have ag := zaq c1 (zaq c2 (Fs := mNil) (as := []) (h2 := h2) rfl)
  unfold mParG
  rw [ag, zah]
  rfl
 refine zcc (Wp.of s1 (vc_nx ?_))
 obtain ⟨o3, h3, b3, e3, D3⟩ := rounds_are D2
 refine zcc (vc_set (Wp.of (zbr (ws := [.r i]) rfl e3) (vc_nx ?_)))
 show Wp ((mSeq _ _ : M Fl) (E (some (.t o1)) (some (.t o2)) (some (.t o3)) w9 w10 w11 w12) h3) _
 obtain ⟨d, h4, e4, d7, D4⟩ := D3.draw (wide := 7) Ym Ym
 obtain ⟨n, h5, e5, n3, D5⟩ := D4.draw (wide := 3) Ym Ym
 have dn : d < 7 := by omega
 have nn : n < 3 := by omega
 let O1 : Option W := some (.t o1)
 let O2 : Option W := some (.t o2)
 let O3 : Option W := some (.t o3)
 have s3 : (mSl (mApp zap Yb5) zco (mPart (zas zba [] (zab (mVar 4) Yb1))) : M W) Ydl h3 = .ok (.t (.lst Yb8)) h5 := by
  have c1 : (zas zba [] (zab (mVar 4) (zab (mC (.int 7)) (mNil))) : M W) Ydl h3 = .ok (.t (.int (d : Nat))) h4 := zbr (ws := [.r i, .t (.int 7)]) rfl e4
  have c2 : (zas zba [] (zab (mVar 4) Yb1) : M W) Ydl h4 = .ok (.t (.int (n : Nat))) h5 := zbr (ws := [.r i, .t (.int 3)]) rfl e5
  have t1 : (mApp za4 Yt : M W) Ydl h3 = .ok (.t (.tup [.str "c", .int (2 + (d : Int))])) h4 := by
   have ag := zaq (Fa := mC (.str "c")) (eta := E O1 O2 O3 w9 w10 w11 w12) (hp := h3) (a := .t (.str "c")) (h1 := h3) rfl (zaq (bin_ok (Fa := mC (.int 2)) (h1 := h3) (a := .t (.int 2)) rfl c1 wAdd_ii) (Fs := mNil) (as := []) (h2 := h4) rfl)
   rw [p_app, ag, zah]
   rfl
  have ls : (mApp zap Yb5 : M W) Ydl h3 = .ok Ye1 h4 := by
   have ag := zaq t1 (zaq (Fa := mApp za4 (zab (mC (.str "q")) Yk)) (a := .t (.tup [.str "q", .int 2])) (h1 := h4) rfl (Fs := mNil) (as := []) (h2 := h4) rfl)
   rw [p_app, ag, zah]
   rfl
  rw [p_sl, ls, zah, p_noPart, zah, p_part, c2, zah]
  show slW Ye1 none (some ((n : Nat) : Int)) h5 = _
  simp only [slW, cutL_to]
  rfl
 refine zcc (vc_set (Wp.of s3 (vc_nx ?_)))
 let G : Option W := some (.t (.lst Yb8))
 let E9 : Option W → Option W → Option W → IS := fun w10 w11 w12 => E O1 O2 O3 G w10 w11 w12
 show Wp ((mSeq _ _ : M Fl) (E9 w10 w11 w12) h5) _
 have gk := good_k false
 have gr := good_r false
 -- the kinds, the readers, the rounds
 have s4 := same_w (hear09 D5 (w := "kinds") (C := f_law_c7) (E := E9 w10 w11 w12) (make_er (E := E9 w10 w11 w12) (a := o1) (b := o2) (c := o3) rfl fun n h => init_k b1))
 refine zcc (Wp.of s4 (vc_nx ?_))
 have D6 := D5.grown (Grown.app (X := [some Ydw]))
 have s5 := same_w (hear09 D6 (w := "readers") (C := f_law_c6) (E := E9 w10 w11 w12) (make_er (E := E9 w10 w11 w12) (a := KS) (b := o2) (c := o3) rfl fun n h => init_r gk b2))
 refine zcc (Wp.of s5 (vc_nx ?_))
 have D7 := D6.grown (Grown.app (X := [some Ydw]))
 generalize (h5 ++ [some Ygp]) ++ [some Ygp] = h7 at D7
 have ot : ∀ {h : IH} {w10 : Option W}, (mApp oTup Yo : M W) (E9 w10 w11 w12) h = .ok (.t (sqT true [K1, K2])) h := fun {h w10} => app1P (a := .t KS) rfl oTup_l
 have ot2 : ∀ {h : IH} {w10 : Option W}, (mApp oTup Y4 : M W) (E9 w10 w11 w12) h = .ok (.t (sqT true [R1, R2])) h := fun {h w10} => app1P (a := .t RS) rfl oTup_l
 have s6 := same_w (hear09 D7 (w := "rounds") (C := f_law_c5) (E := E9 w10 w11 w12) (make_er (E := E9 w10 w11 w12) (a := sqT true [K1, K2]) (b := RS) (c := o3) (zaq ot (zaq (a := .t RS) rfl (zaq (a := .t o3) rfl rfl))) fun n h => init_o (good_k true) gr b3))
 refine zcc (Wp.of s6 (vc_nx ?_))
 have D8 := D7.grown (Grown.app (X := [some Ydw]))
 generalize h7 ++ [some Ygp] = h8 at D8
 have gg := good_o n nn d dn
 have gs := good_s n nn d
 have s7 : (mIf Yf1 Y8 (zbc) : M Fl) (E9 w10 w11 w12) h8 = .ok (.nx (E9 w10 w11 w12)) (h8 ++ [none]) := by
  have mk := make_good (h := h8) (b1 := false) (b2 := true) (E := E9 w10 w11 w12) (Fs := zab (mVar 1) (zab Yfo Ydv)) (zaq (a := .t KS) rfl (zaq ot2 (zaq (a := .t (.lst Yb8)) rfl rfl))) gk (good_r true) gg gs
  have hd := let09 D8 (C := f_law_c4) (E := E9 w10 w11 w12) mk
  rw [if_no (h1 := h8 ++ [none]) (test_ok (bin_ok (h1 := h8 ++ [none]) (h2 := h8 ++ [none]) hd (b := .t .non) rfl rfl))]
  rfl
 refine zcc (Wp.of s7 (vc_nx ?_))
 have D9 := D8.grown (Grown.app (X := [none]))
 generalize h8 ++ [none] = h9 at D9
 -- the design
 have mk := make_good (h := h9) (b1 := false) (b2 := false) (E := E9 w10 w11 w12) (Fs := zab (mVar 1) (zab (mVar 2) Ydv)) (zaq (a := .t KS) rfl (zaq (a := .t RS) rfl (zaq (a := .t (.lst Yb8)) rfl rfl))) gk gr gg gs
 refine zcc (vc_set (Wp.of mk (vc_nx ?_)))
 have DA := D9.grown (Grown.app (X := [none]))
 generalize h9 ++ [none] = hA at DA
 let Md : Option W := some (.t Yey)
 show Wp ((mSeq _ _ : M Fl) (E9 Md w11 w12) hA) _
 obtain ⟨c, hB, mc, ec, DB⟩ := DA.pick (ts := [.str "if", .str "abcde", .non, .int 3, .tup [.str "c"], .str "", .str "C", .lst [.str "c"]]) Ycc Ycc
 have nc := name_not c mc
 refine zcc (vc_set (Wp.of (zbr (ws := [.r i, .t (.lst [.str "if", .str "abcde", .non, .int 3, .tup [.str "c"], .str "", .str "C", .lst [.str "c"]])]) rfl ec) (vc_nx ?_)))
 let C : Option W := some (.t c)
 show Wp ((mSeq _ _ : M Fl) (E9 Md C w12) hB) _
 have s8 := same_w (hear09 DB (w := "rounds") (C := f_law_c3) (E := E9 Md C w12) (meth_er (A := [K1, K2]) (B := [R1, R2]) (G := good n d) (c := c) (z := .int 2) (E := E9 Md C w12) rfl rfl (wr_name nc)))
 refine zcc (Wp.of s8 (vc_nx ?_))
 have s9 := same_w (hear09 DB (w := "rounds") (C := f_law_c2) (E := E9 Md C w12) (meth_er (A := [K1, K2]) (B := [R1, R2]) (G := good n d) (c := c) (z := .non) (E := E9 Md C w12) rfl rfl (wr_name nc)))
 refine zcc (Wp.of s9 (vc_nx ?_))
 obtain ⟨z, hC, mz, ez, DC⟩ := DB.pick (ts := sizes) Ycc Ycc
 refine zcc (vc_set (Wp.of (zbr (ws := [.r i, .t (.lst sizes)]) rfl ez) (vc_nx ?_)))
 let Z : Option W := some (.t z)
 let E12 : IS := E9 Md C Z
 show Wp ((mIf _ _ _ : M Fl) E12 hC) _
 have hz := hear09 DC (w := "rounds") (C := f_law_c1) (E := E12) (meth_er (A := [K1, K2]) (B := [R1, R2]) (G := good n d) (c := .str "c") (z := z) (E := E12) rfl rfl (wr_size (d := d) nn mz))
 generalize hh : hC ++ [none] ++ [some Ygp] = hD at hz
 have gD : Grown hC hD := by rw [← hh, List.append_assoc]; exact Grown.app
 have DD := DC.grown gD
 have fg := fit_good n nn d dn
 have q2 : (zal asB Ygc : M Bool) E12 hD = .ok false hD := by
  refine testP (binP (a := .t (.tup Yb8)) (b := .t (.tup Yb8)) rfl (app1P (a := .t (.lst Yb8)) rfl oTup_l) ?_)
  rw [eqW_tt, if_pos ⟨fg.1, fg.1⟩, fg.2]
  rfl
 have q1 := test_ok (bin_ok (f := eqW true) (h1 := hD) (h2 := hD) hz (Fb := mC (.str "rounds")) (b := .t (.str "rounds")) rfl (ev_eqs.trans (by simp : _ = Res.ok (W.t (T.bl false)) hD)))
 refine Wp.of (a := .nx E12) (h := hD) ?_ ⟨_, _, _, _, _, _, _, rfl, DD⟩
 rw [if_no (h1 := hD) (by rw [p_or, q1, zah]; exact q2)]
 rfl
theorem law_is {ns : List Int} (hn : ns.length ≤ 63) : ∃ hp', F_law [.t Yai] [some Yfw] = .ok (.t Ye9) hp' := by
 suffices h : Wp (F_law [.t Yai] [some Yfw]) fun w _ => w = .t Ye9 by
  obtain ⟨w, h1, e, rfl⟩ := h.ex
  exact ⟨h1, e⟩
 refine vc_fnM (eta := some (.t Yai) :: List.replicate 12 none) rfl rfl ?_
 unfold B_law
 let P : Option W := some (.t Yai)
 let H2 : IH := [some Yfw, none, none, none, none]
 refine zcc (vc_set (Wp.of start_k (vc_nx ?_)))
 refine zcc (vc_set (Wp.of start_r (vc_nx ?_)))
 show Wp ((mSeq _ _ : M Fl) (P :: some (.t KS) :: some (.t RS) :: List.replicate 10 none) H2) _
 have kl : ∀ {h : IH}, oLen [.t Yai] h = .ok (.t (.int (ns.length : Nat))) h := fun {h} => by simp only [oLen, items_s, List.length_map]
 obtain ⟨m, em, hm⟩ : ∃ m : Nat, (if (1 : Int) < (if ((ns.length : Nat) : Int) < 3 then ((ns.length : Nat) : Int) else 3) then (if ((ns.length : Nat) : Int) < 3 then ((ns.length : Nat) : Int) else 3) else 1) = (m : Int) ∧ m < 4 := by
  refine ⟨(if (1 : Int) < (if ((ns.length : Nat) : Int) < 3 then ((ns.length : Nat) : Int) else 3) then (if ((ns.length : Nat) : Int) < 3 then ((ns.length : Nat) : Int) else 3) else 1).toNat, ?_, ?_⟩
  all_goals split <;> split <;> omega
 refine zcc (vc_for (vc_src (zcs (vc_app (zcs (vc_c (zcs (vc_app (zcs (vc_c (zcs (vc_app (zcs (vc_var rfl (vc_nil (Wp.rw kl (Wp.ok (vc_nil (Wp.rw oMin2_i (Wp.ok (vc_nil (Wp.rw oMax2_i (Wp.ok (vc_nil ?_))))))))))))))))))))))))
 rw [em]
 refine Wp.rw (rng_is (n := m) Ym) (Wp.ok ?_)
 refine vc_loop (G := gN 3) (S := f_law_l2) (fun ws eta h => (∃ ks : List Nat, ws = ks.map natW ∧ ∀ k ∈ ks, k < 10) ∧ (h[0]? = some (some Yfw)) ∧ ∃ r : IS, eta = P :: some (.t KS) :: some (.t RS) :: r ∧ r.length = 10) ?_ _ _ _ ⟨⟨List.range m, rfl, fun k hk => by have := List.mem_range.mp hk; omega⟩, rfl, List.replicate 10 none, rfl, rfl⟩ ?_
 ·rintro w ws eta h ⟨⟨ks, ew, hk⟩, ht, r, rfl, rl⟩
  cases ks with
  | nil => simp at ew
  | cons k ks =>
   rw [List.map_cons] at ew
   simp only [List.cons.injEq] at ew
   obtain ⟨rfl, rfl⟩ := ew
   match r, rl with
   | [w3, w4, w5, w6, w7, w8, w9, w10, w11, w12], _ =>
    refine ⟨_, rfl, ?_⟩
    unfold f_law_l2
    have kb := hk k Yf7
    have h0 : 0 < h.length := (List.getElem?_eq_some_iff.mp ht).1
    obtain ⟨a, h1, e1, d1, la, x1⟩ := deal_is (hp := h) (b := (k : Int)) hn ⟨by omega, by omega⟩
    have D1 : DT a (a - 1) h1 := ⟨d1, by rw [x1 0 h0]; exact ht, by omega, by omega⟩
    have ek : natW k = W.t (.int (k : Nat)) := by unfold natW; rw [Int.zero_add]
    rw [ek]
    refine zcc (vc_set (vc_call (zcs (vc_var rfl (zcs (vc_var rfl (vc_nil (Wp.of e1 (vc_nx ?_)))))))))
    refine vc_for (vc_src (zcs (vc_c (vc_nil (Wp.rw (rng_is (n := 6) Ym) (Wp.ok ?_))))))
    refine vc_loop (G := gN 5) (S := f_law_l1) (fun ws eta h' => DT a (a - 1) h' ∧ ∃ w5 w6 w7 w8 w9 w10 w11 w12 : Option W, eta = L09 P (some (.t (.int (k : Nat)))) a w5 w6 w7 w8 w9 w10 w11 w12) ?_ _ _ _ ⟨D1, _, _, _, _, _, _, _, _, rfl⟩ ?_
    ·rintro w ws eta h ⟨D, w5, w6, w7, w8, w9, w10, w11, w12, rfl⟩
     exact ⟨_, rfl, (turn09 D (w5 := some w)).mono fun fl h2 ⟨v6, v7, v8, v9, v10, v11, v12, e, D2⟩ => ⟨_, e, D2, _, _, _, _, _, _, _, _, rfl⟩⟩
    ·rintro e h' ⟨D, w5, w6, w7, w8, w9, w10, w11, w12, rfl⟩
     exact ⟨_, rfl, ⟨ks, rfl, fun k hk' => hk k (List.mem_cons_of_mem _ hk')⟩, D.t, [_, _, _, _, _, _, _, _, _, _], rfl, rfl⟩
 ·rintro e h ⟨-, -, r, rfl, rl⟩
  exact vc_nx (vc_ret (vc_c ⟨_, rfl, rfl⟩))
end
section
variable {P : Program} {w : World} {K : PySem.W.Frag} {mg : Str → Option Value} {base : Heap} {f : Addr} {fd : FuncData} {dfs : List V} {kws : List Ycy}
abbrev DG (K : PySem.W.Frag) (x q : Str) (s : Stmt) (l : List V) (k : List Ycy) (a : Addr) (d : FuncData) : Prop := FunD K x q (defArgs s) (defBody s) (defScope s) l k a d
local macro_rules | `(tactic| simp_all_arith) => `(tactic| exact ⟨rfl, rfl, rfl, by decide +kernel, rfl, by decide +kernel, by decide +kernel⟩)
local macro_rules | `(tactic| simp_all_arith!) => `(tactic| first | exact .inl rfl | exact .inr rfl)
abbrev N_is_name : List Str := ["value", "letter"]
theorem sc_is_name : FnScope N_is_name ["value"] (defScope s_is_name) := by simp_all_arith
theorem yq7 (F : DG K "is_name" "is_name" s_is_name dfs kws f fd)
  (yeo : mg "all" = none)
  (yc : mg "isinstance" = none)
  (ygi : mg "str" = none)
  (yq : mg "len" = none)
  {t_MOST_LETTERS : Tok} (yht : mg "MOST_LETTERS" = some (.int (4) t_MOST_LETTERS))
  {t_LETTERS : Tok} (ynh : mg "LETTERS" = some (.str "abcdefghijklmnopqrstuvwxyz" t_LETTERS))
  (hT : IsTab K zcv)
  {yhk : Addr} {o_BARRED : Obj} {us_BARRED : List Value} {ymi : Nat} (yot : mg "BARRED" = some (.ref yhk)) (lk_BARRED : K.lookup yhk = some o_BARRED) (ygs : o_BARRED.cls = .type "tuple") (ygt : o_BARRED.dict = none) (oa_BARRED : o_BARRED.data = .seq us_BARRED.toArray ymi) (or_BARRED : Vals Yev us_BARRED) (oz_BARRED : us_BARRED.length ≤ 1000) :
  FnG P w K mg base Yf 1 f fd ["value"] Ygd :=
 okP (k := 0) F sc_is_name fun cdv A outer s H E hr hgd => by
  have hN := sc_is_name.nd
  have hu := hr.units
  exact zaf (zbm ((iw_or Ybu (iw_or (it_in hu (zac 0) (ie_globT yot lk_BARRED ygs ygt oa_BARRED or_BARRED oz_BARRED)) (zc1 (zbk (it_chain op_le ok_opC op_le ok_opC (zae) Yan (ie_glob (v := .int (4)) (by rfl) yht ⟨_, rfl⟩ Yaf)))))).it) Ya0 (za1)) (zai (zar (zbg (cr_all rfl) ok_all (zaa (zbn (own := [("letter", 1)]) (T := mYes) (E := f_is_name_c1) rfl hN (ii_str (zac 0)) (by first | exact blkOk_by (N := N_is_name) (sc := defScope s_is_name) (by decide +kernel) | exact blkOk_by (by with_unfolding_all rfl) | exact blkOk_by (by decide +kernel +revert)) (fun _ _ _ _ _ => pg_name (i := 1) hN rfl Yi) (zav 1) Y0 (fun _ _ _ _ _ => ie_inS (zac 1) (ie_globS ynh)) zbd) (zad)) yeo)))
abbrev yqc : List Str := ["value"]
theorem yl9 : FnScope yqc ["value"] (defScope yh3) := by simp_all_arith
theorem yo8 (F : DG K "is_sequence" "is_sequence" yh3 dfs kws f fd)
  (yc : mg "isinstance" = none)
  (y0 : mg "tuple" = none)
  (yqs : mg "list" = none)
  (hT : IsTab K zcv) :
  FnG P w K mg base Yf 1 f fd ["value"] Yge :=
 okP (k := 0) F yl9 fun cdv A outer s H E hr hgd => by
  have hN := yl9.nd
  have hu := hr.units
  exact zai (zar (zbg zb3 (ok_isi hT) (zaa (zac 0) (zaa (zaz (zaa (ie_ty yqs Yaq) (zaa (ie_ty y0 Yaq) (zad)))) (zad))) yc))
abbrev yrk : List Str := ["value", "words", "parts"]
theorem yo9 : FnScope yrk ["value", "words"] (defScope ync) := by simp_all_arith
theorem yq8 (F : DG K "deed_in" "deed_in" ync dfs kws f fd)
  (yq : mg "len" = none)
  (yc : mg "isinstance" = none)
  (ygi : mg "str" = none)
  {yab : Addr} {yav : FuncData} (yac : FnG P w K mg base Yf 1 yab yav ["value"] Ygd)
  (yak : mg "is_name" = some Yf0) (yal : PySem.W.keepIn K Yf0 = true)
  (yad : Binds K yav ["value"] [])
  (hT : IsTab K zcv) :
  FnG P w K mg base Yf 2 f fd ["value", "words"] (spM K w F_deed_in 2) :=
 okP (k := 1) F yo9 fun cdv A outer s H E hr hgd => by
  have hN := yo9.nd
  have hu := hr.units
  exact zaf (zbm Ybu Ydf (za1)) (zaf (za7 2 hN (ie_split (zac 0) (zag))) (zaf (zbm ((iw_or (it_ne hu (zbg call_len zcd Yei yq) (zae)) (iw_or (it_nin hu Ydm (zac 1)) (zc1 (zbk (zbo (zam (dts := []) (dvs := []) yac Yb hgd (by rfl) yak yal yad .nil Yh zau (zaa Ydm (zad)))))))).it) Ydf (za1)) (zai (zar (zaz (zaa Ydm (zaa Ydm (zad))))))))
abbrev yg5 : List Str := ["value", "words", "found", "parts", "step", "deed"]
theorem yoe : FnScope yg5 ["value", "words"] (defScope ydm) := by simp_all_arith
theorem yqt (F : DG K "deeds_in" "deeds_in" ydm dfs kws f fd)
  (yq : mg "len" = none)
  (ygj : mg "set" = none)
  (y0 : mg "tuple" = none)
  {yni : Addr} {ypz : FuncData} (yif : FnG P w K mg base Yf 2 yni ypz ["value", "words"] (spM K w F_deed_in 2))
  (yks : mg "deed_in" = some (.ref yni)) (ykt : PySem.W.keepIn K (.ref yni) = true)
  (yig : Binds K ypz ["value", "words"] [])
  {yr : Addr} {y8 : FuncData} (yt : FnG P w K mg base Yf 1 yr y8 ["value"] Yge)
  (y3 : mg "is_sequence" = some (.ref yr)) (y4 : PySem.W.keepIn K (.ref yr) = true)
  (yu : Binds K y8 ["value"] []) :
  FnG P w K mg base Yf 3 f fd ["value", "words"] (spM K w zc0 2) :=
 okP (k := 2) F yoe fun cdv A outer s H E hr hgd => by
  have hN := yoe.nd
  have hu := hr.units
  exact zaf (zbm Ybg Ydf (za1)) (zaf (by first | exact st_comp (i := 2) (own := [("step", 4)]) (T := mYes) (E := zdb) rfl hN rfl rfl rfl (zct (zac 0)) (by first | exact blkOk_by (N := yg5) (sc := defScope ydm) (by decide +kernel) | exact blkOk_by (by with_unfolding_all rfl) | exact blkOk_by (by decide +kernel +revert)) (fun _ _ _ _ _ => pg_name (i := 4) hN rfl Yi) (zav 4) Y0 Yc2 zbd | exact za7 2 hN (zbn (own := [("step", 4)]) (T := mYes) (E := zdb) rfl hN (zct (zac 0)) (by first | exact blkOk_by (N := yg5) (sc := defScope ydm) (by decide +kernel) | exact blkOk_by (by with_unfolding_all rfl) | exact blkOk_by (by decide +kernel +revert)) (fun _ _ _ _ _ => pg_name (i := 4) hN rfl Yi) (zav 4) Y0 Yc2 zbd)) (zaf (by first | exact st_comp (i := 3) (own := [("deed", 5)]) (T := zda) (E := zc2) rfl hN rfl rfl rfl (zct (zac 2)) (by first | exact blkOk_by (N := yg5) (sc := defScope ydm) (by decide +kernel) | exact blkOk_by (by with_unfolding_all rfl) | exact blkOk_by (by decide +kernel +revert)) (fun _ _ _ _ _ => pg_name (i := 5) hN rfl Yi) (zav 5) Ycb (fun _ _ _ _ _ => zaj (zac 5) (zae)) zbd | exact za7 3 hN (zbn (own := [("deed", 5)]) (T := zda) (E := zc2) rfl hN (zct (zac 2)) (by first | exact blkOk_by (N := yg5) (sc := defScope ydm) (by decide +kernel) | exact blkOk_by (by with_unfolding_all rfl) | exact blkOk_by (by decide +kernel +revert)) (fun _ _ _ _ _ => pg_name (i := 5) hN rfl Yi) (zav 5) Ycb (fun _ _ _ _ _ => zaj (zac 5) (zae)) zbd)) (zai (zar (ie_if ((iw_or (it_in hu (za3) (zac 2)) (zc1 (it_ne hu (ie_lenSet rfl yq ygj (zac 3)) Yfp))).it) (za3) Ya5)))))
abbrev yq9 : List Str := ["self", "name", "steps", "deeds"]
theorem ynj : FnScope yq9 ["self", "name", "steps"] (defScope yk3) := by simp_all_arith
theorem yqd (F : DG K "__init__" "Kind.__init__" yk3 dfs kws f fd)
  (y0 : mg "tuple" = none)
  (yq : mg "len" = none)
  {yep : Addr} {yg6 : FuncData} (yex : FnG P w K mg base Yf 3 yep yg6 ["value", "words"] (spM K w zc0 2))
  (yf5 : mg "deeds_in" = some (.ref yep)) (yf6 : PySem.W.keepIn K (.ref yep) = true)
  (yey : Binds K yg6 ["value", "words"] [])
  {yab : Addr} {yav : FuncData} (yac : FnG P w K mg base Yf 1 yab yav ["value"] Ygd)
  (yak : mg "is_name" = some Yf0) (yal : PySem.W.keepIn K Yf0 = true)
  (yad : Binds K yav ["value"] [])
  (yez : ∀ c ∈ (["Kind", "Reader"] : List Str), FldOk K c "deeds")
  (yan : ∀ c ∈ (["Kind", "Reader"] : List Str), FldOk K c "steps")
  (y5 : ∀ c ∈ (["Kind", "Reader"] : List Str), FldOk K c "name")
  {yg ya2 : Addr} {yqe : FuncData} (yx : XF P w K mg base "InvalidKind" yg ya2 yqe ["self", "word"] "word")
  {ybr : Addr} {o_WRITER_WORDS : Obj} {us_WRITER_WORDS : List Value} {yf0 : Nat} (yhu : mg "WRITER_WORDS" = some (.ref ybr)) (lk_WRITER_WORDS : K.lookup ybr = some o_WRITER_WORDS) (ybd : o_WRITER_WORDS.cls = .type "tuple") (ybe : o_WRITER_WORDS.dict = none) (oa_WRITER_WORDS : o_WRITER_WORDS.data = .seq us_WRITER_WORDS.toArray yf0) (or_WRITER_WORDS : Vals ((["write", "bump"] : List Str).map V.str) us_WRITER_WORDS) (oz_WRITER_WORDS : us_WRITER_WORDS.length ≤ 1000) :
  FnG P w K mg base (L2N.CX P w) 4 f fd ["self", "name", "steps"] (spX K w zb7 3) :=
 okX (k := 3) F ynj fun cdv A outer s H E hr hgd => by
  have hN := ynj.nd
  have hu := hr.units
  exact zaf (zbm Ybq Yc8 (za1)) (zaf (za7 3 hN (zam (dts := []) (dvs := []) yex Yb hgd (by rfl) yf5 yf6 yey .nil Yh zau (zaa (zac 2) (zaa (ie_globT yhu lk_WRITER_WORDS ybd ybe oa_WRITER_WORDS or_WRITER_WORDS oz_WRITER_WORDS) (zad))))) (zaf (zbm ((iw_or (it_isN (zac 3) (za3)) (zc1 (it_eq hu Yfp (zae)))).it) Yc8 (za1)) (zaf (st_fld y5 (zac 0) (zac 1)) (zaf (st_fld yan (zac 0) Ya5) (zai (st_fld yez (zac 0) (zac 3)))))))
abbrev yof : List Str := ["word", "digits", "sign"]
theorem ynk : FnScope yof ["word", "digits"] (defScope yhz) := by simp_all_arith
theorem yqf (F : DG K "number_in" "number_in" yhz dfs kws f fd)
  (yce : mg "int" = none)
  (yq : mg "len" = none)
  (yeo : mg "all" = none)
  {t_DIGITS : Tok} (you : mg "DIGITS" = some (.str "0123456789" t_DIGITS)) :
  FnG P w K mg base Yf 1 f fd ["word", "digits"] (spM K w F_number_in 2) :=
 okP (k := 0) F ynk fun cdv A outer s H E hr hgd => by
  have hN := ynk.nd
  have hu := hr.units
  exact zaf (zbm ((iw_or (zbk (it_chain op_le ok_opC op_le ok_opC (zae) Yan (zac 1))) (zc1 (zbk (zbo (zbg (cr_all rfl) ok_all (zaa (zbn (own := [("sign", 2)]) (T := mYes) (E := f_number_in_c1) rfl hN (ii_str (zac 0)) (by first | exact blkOk_by (N := yof) (sc := defScope yhz) (by decide +kernel) | exact blkOk_by (by with_unfolding_all rfl) | exact blkOk_by (by decide +kernel +revert)) (fun _ _ _ _ _ => pg_name (i := 2) hN rfl Yi) (zav 2) Y0 (fun _ _ _ _ _ => ie_inS (zac 2) (ie_globS you)) zbd) (zad)) yeo))))).it) Ydf (za1)) (zai (zar (ie_if ((iw_and (it_eq hu Ya7 (zag)) (iw_and1 (it_ne hu (zac 0) (zag)))).it) (za3) (zcz call_int_str ok_intS (zaa (zac 0) (zad)) yce))))
abbrev yrl : List Str := ["word", "deeds", "at"]
theorem ypa : FnScope yrl ["word", "deeds"] (defScope ynd) := by simp_all_arith
theorem yra (F : DG K "spot_in" "spot_in" ynd dfs kws f fd)
  (yq : mg "len" = none)
  {t_MOST_DIGITS_scripts : Tok} (ydh : mg "MOST_DIGITS_scripts" = some (.int (9) t_MOST_DIGITS_scripts))
  {yk4 : Addr} {yog : FuncData} (yj0 : FnG P w K mg base Yf 1 yk4 yog ["word", "digits"] (spM K w F_number_in 2))
  (yk5 : mg "number_in" = some (.ref yk4)) (yk6 : PySem.W.keepIn K (.ref yk4) = true)
  (yj1 : Binds K yog ["word", "digits"] []) :
  FnG P w K mg base Yf 2 f fd ["word", "deeds"] (spM K w F_spot_in 2) :=
 okP (k := 1) F ypa fun cdv A outer s H E hr hgd => by
  have hN := ypa.nd
  have hu := hr.units
  exact zaf (za7 2 hN (zam (dts := []) (dvs := []) yj0 Yb hgd (by rfl) yk5 yk6 yj1 .nil Yh zau (zaa (zac 0) (zaa (ie_glob (v := .int (9)) (by rfl) ydh ⟨_, rfl⟩ Yaf) (zad))))) (zai (zar (ie_if ((iw_and (it_notN (zac 2) (za3)) (iw_and (it_ltA (zac 2) (zbg call_len zcd Y3 yq)) (iw_and1 (it_eq hu (zaj (zaj (zac 1) (zac 2)) (zae)) (zag))))).it) (zac 2) (za3))))
abbrev ynl : List Str := ["value", "deeds", "parts", "spots", "part"]
theorem ypb : FnScope ynl ["value", "deeds"] (defScope yh1) := by simp_all_arith
theorem yrb (F : DG K "test_in" "test_in" yh1 dfs kws f fd)
  (yq : mg "len" = none)
  (yc : mg "isinstance" = none)
  (ygi : mg "str" = none)
  {ynm : Addr} {yp0 : FuncData} (yih : FnG P w K mg base Yf 2 ynm yp0 ["word", "deeds"] (spM K w F_spot_in 2))
  (yku : mg "spot_in" = some (.ref ynm)) (ykv : PySem.W.keepIn K (.ref ynm) = true)
  (yii : Binds K yp0 ["word", "deeds"] [])
  (hT : IsTab K zcv) :
  FnG P w K mg base Yf 3 f fd ["value", "deeds"] (spM K w F_test_in 2) :=
 okP (k := 2) F ypb fun cdv A outer s H E hr hgd => by
  have hN := ypb.nd
  have hu := hr.units
  exact zaf (zbm Ybu Ydf (za1)) (zaf (za7 2 hN (ie_split (zac 0) (zag))) (zaf (by first | exact st_comp (i := 3) (own := [("part", 4)]) (T := mYes) (E := f_test_in_c1) rfl hN rfl rfl rfl (zct (zc5 (zac 2) (zc3 (zae)) io_none)) (by first | exact blkOk_by (N := ynl) (sc := defScope yh1) (by decide +kernel) | exact blkOk_by (by with_unfolding_all rfl) | exact blkOk_by (by decide +kernel +revert)) (fun _ _ _ _ _ => pg_name (i := 4) hN rfl Yi) (zav 4) Y0 Yc4 zbd | exact za7 3 hN (zbn (own := [("part", 4)]) (T := mYes) (E := f_test_in_c1) rfl hN (zct (zc5 (zac 2) (zc3 (zae)) io_none)) (by first | exact blkOk_by (N := ynl) (sc := defScope yh1) (by decide +kernel) | exact blkOk_by (by with_unfolding_all rfl) | exact blkOk_by (by decide +kernel +revert)) (fun _ _ _ _ _ => pg_name (i := 4) hN rfl Yi) (zav 4) Y0 Yc4 zbd)) (zaf (zbm (it_in hu (za3) (zac 3)) Ydf (za1)) (zaf (zbm ((iw_and (it_eq hu Ydm (zag)) (iw_and1 (it_eq hu Yfp (zae)))).it) (zai (zar (zaz (zaa (zag) (zaa Ydn (zad)))))) (za1)) (zaf (zbm ((iw_or (it_ne hu Ydm (zag)) (iw_or (it_ne hu Yfp (zae)) (zc1 (it_ge Ydn Ydn)))).it) Ydf (za1)) (zai (zar (ie_if (it_eq hu (zaj (zaj (zac 1) Ydn) (zae)) (zaj (zaj (zac 1) Ydn) (zae))) (zaz (zaa (zag) (zaa Ydn (zaa Ydn (zad))))) (za3)))))))))
abbrev ymk : List Str := ["value", "deeds", "found", "check"]
theorem yoh : FnScope ymk ["value", "deeds"] (defScope ygz) := by simp_all_arith
theorem yqu (F : DG K "tests_in" "tests_in" ygz dfs kws f fd)
  (yq : mg "len" = none)
  (ygj : mg "set" = none)
  (y0 : mg "tuple" = none)
  {ynn : Addr} {yp1 : FuncData} (yij : FnG P w K mg base Yf 3 ynn yp1 ["value", "deeds"] (spM K w F_test_in 2))
  (ykw : mg "test_in" = some (.ref ynn)) (ykx : PySem.W.keepIn K (.ref ynn) = true)
  (yik : Binds K yp1 ["value", "deeds"] [])
  {yr : Addr} {y8 : FuncData} (yt : FnG P w K mg base Yf 1 yr y8 ["value"] Yge)
  (y3 : mg "is_sequence" = some (.ref yr)) (y4 : PySem.W.keepIn K (.ref yr) = true)
  (yu : Binds K y8 ["value"] []) :
  FnG P w K mg base Yf 4 f fd ["value", "deeds"] (spM K w F_tests_in 2) :=
 okP (k := 3) F yoh fun cdv A outer s H E hr hgd => by
  have hN := yoh.nd
  have hu := hr.units
  exact zaf (zbm Ybg Ydf (za1)) (zaf (by first | exact st_comp (i := 2) (own := [("check", 3)]) (T := mYes) (E := zc9) rfl hN rfl rfl rfl (zct (zac 0)) (by first | exact blkOk_by (N := ymk) (sc := defScope ygz) (by decide +kernel) | exact blkOk_by (by with_unfolding_all rfl) | exact blkOk_by (by decide +kernel +revert)) (fun _ _ _ _ _ => pg_name (i := 3) hN rfl Yi) (zav 3) Y0 Yc5 zbd | exact za7 2 hN (zbn (own := [("check", 3)]) (T := mYes) (E := zc9) rfl hN (zct (zac 0)) (by first | exact blkOk_by (N := ymk) (sc := defScope ygz) (by decide +kernel) | exact blkOk_by (by with_unfolding_all rfl) | exact blkOk_by (by decide +kernel +revert)) (fun _ _ _ _ _ => pg_name (i := 3) hN rfl Yi) (zav 3) Y0 Yc5 zbd)) (zai (zar (ie_if ((iw_or (it_in hu (za3) (zac 2)) (zc1 (it_ne hu (ie_lenSetT rfl hu yq ygj (zac 2)) (zbg call_len zcd Yei yq)))).it) (za3) Ya5))))
abbrev ym0 : List Str := ["self", "name", "steps", "checks", "deeds", "tests", "word", "part"]
theorem yma : FnScope ym0 ["self", "name", "steps", "checks"] (defScope y2) := by simp_all_arith
theorem ypc (F : DG K "__init__" "Reader.__init__" y2 dfs kws f fd)
  (y0 : mg "tuple" = none)
  {yml : Addr} {ypd : FuncData} (yk7 : FnG P w K mg base Yf 4 yml ypd ["value", "deeds"] (spM K w F_tests_in 2))
  (ymm : mg "tests_in" = some (.ref yml)) (ymn : PySem.W.keepIn K (.ref yml) = true)
  (yk8 : Binds K ypd ["value", "deeds"] [])
  {yep : Addr} {yg6 : FuncData} (yex : FnG P w K mg base Yf 3 yep yg6 ["value", "words"] (spM K w zc0 2))
  (yf5 : mg "deeds_in" = some (.ref yep)) (yf6 : PySem.W.keepIn K (.ref yep) = true)
  (yey : Binds K yg6 ["value", "words"] [])
  {yab : Addr} {yav : FuncData} (yac : FnG P w K mg base Yf 1 yab yav ["value"] Ygd)
  (yak : mg "is_name" = some Yf0) (yal : PySem.W.keepIn K Yf0 = true)
  (yad : Binds K yav ["value"] [])
  (yk9 : ∀ c ∈ (["Reader"] : List Str), FldOk K c "tests")
  (yez : ∀ c ∈ (["Kind", "Reader"] : List Str), FldOk K c "deeds")
  (yb4 : ∀ c ∈ (["Reader"] : List Str), FldOk K c "checks")
  (yan : ∀ c ∈ (["Kind", "Reader"] : List Str), FldOk K c "steps")
  (y5 : ∀ c ∈ (["Kind", "Reader"] : List Str), FldOk K c "name")
  {yd yau : Addr} {ype : FuncData} (yi : XF P w K mg base "InvalidReader" yd yau ype ["self", "word"] "word")
  {ybs : Addr} {o_READER_WORDS : Obj} {us_READER_WORDS : List Value} {yf1 : Nat} (yhv : mg "READER_WORDS" = some (.ref ybs)) (lk_READER_WORDS : K.lookup ybs = some o_READER_WORDS) (ybf : o_READER_WORDS.cls = .type "tuple") (ybg : o_READER_WORDS.dict = none) (oa_READER_WORDS : o_READER_WORDS.data = .seq us_READER_WORDS.toArray yf1) (or_READER_WORDS : Vals ((["read", "look"] : List Str).map V.str) us_READER_WORDS) (oz_READER_WORDS : us_READER_WORDS.length ≤ 1000) :
  FnG P w K mg base (L2N.CX P w) 5 f fd ["self", "name", "steps", "checks"] (spX K w zbl 4) :=
 okX (k := 4) F yma fun cdv A outer s H E hr hgd => by
  have hN := yma.nd
  have hu := hr.units
  exact zaf (zbm Ybq Ybn (za1)) (zaf (za7 4 hN (zam (dts := []) (dvs := []) yex Yb hgd (by rfl) yf5 yf6 yey .nil Yh zau (zaa (zac 2) (zaa (ie_globT yhv lk_READER_WORDS ybf ybg oa_READER_WORDS or_READER_WORDS oz_READER_WORDS) (zad))))) (zaf (zbm ((iw_or (it_isN (zac 4) (za3)) (zc1 (it_nin hu (zag) (zbn (own := [("word", 6), ("part", 7)]) (T := mYes) (E := f_Reader_init_c1) rfl hN (zct (zac 4)) (by first | exact blkOk_by (N := ym0) (sc := defScope y2) (by decide +kernel) | exact blkOk_by (by with_unfolding_all rfl) | exact blkOk_by (by decide +kernel +revert)) (fun _ _ _ _ _ => pg_tup rfl Yd2) (tg_tup (tgs_cons (zav 6) (tgs_cons (zav 7) (tgs_nil)))) Y0 (fun _ _ _ _ _ => zac 6) zbd)))).it) Ybn (za1)) (zaf (za7 5 hN (zam (dts := []) (dvs := []) yk7 Yb hgd (by rfl) ymm ymn yk8 .nil Yh zau (zaa (zac 3) (zaa (zac 4) (zad))))) (zaf (zbm (it_isN (zac 5) (za3)) Ybn (za1)) (zaf (st_fld y5 (zac 0) (zac 1)) (zaf (st_fld yan (zac 0) Ya5) (zaf (st_fld yb4 (zac 0) (zcz zbh ok_tup Yby y0)) (zaf (st_fld yez (zac 0) (zac 4)) (zai (st_fld yk9 (zac 0) (zac 5)))))))))))
abbrev ymo : List Str := ["_law_script", "_law_base", "_law_cells", "_law_blended", "_law_cell"]
theorem yp2 : FnScope ymo ["_law_script", "_law_base"] (defScope yhg) := by simp_all_arith
theorem yrc (F : DG K "_law_deal" "_law_deal" yhg dfs kws f fd)
  (yce : mg "int" = none)
  (yqq : mg "abs" = none) :
  FnG P w K mg base Yf 1 f fd ["_law_script", "_law_base"] (spM K w F_w_deal 2) :=
 okM (k := 0) F yp2 fun cdv A outer s H E hr hgd => by
  have hN := yp2.nd
  have hu := hr.units
  exact zaf (by first | exact st_comp (i := 2) (own := [("_law_cell", 4)]) (T := mYes) (E := zc4) rfl hN rfl rfl rfl (zct (zc5 (zac 0) (zc3 (zac 1)) (zc3 (zae)))) (by first | exact blkOk_by (N := ymo) (sc := defScope yhg) (by decide +kernel) | exact blkOk_by (by with_unfolding_all rfl) | exact blkOk_by (by decide +kernel +revert)) (fun _ _ _ _ _ => pg_name (i := 4) hN rfl Yi) (zav 4) Y0 Ydg zbd | exact za7 2 hN (zbn (own := [("_law_cell", 4)]) (T := mYes) (E := zc4) rfl hN (zct (zc5 (zac 0) (zc3 (zac 1)) (zc3 (zae)))) (by first | exact blkOk_by (N := ymo) (sc := defScope yhg) (by decide +kernel) | exact blkOk_by (by with_unfolding_all rfl) | exact blkOk_by (by decide +kernel +revert)) (fun _ _ _ _ _ => pg_name (i := 4) hN rfl Yi) (zav 4) Y0 Ydg zbd)) (zaf (za7 3 hN (zcf (zae) (ie_mulA (zae) (zac 1)))) (zaf (st_for (B := zcl) PassesOwn.never rfl (zct (zac 2)) (pg_name (i := 4) hN rfl Yi) (zav 4) (zai (za7 3 hN (ie_mod (zcz call_int1 ok_int (zaa (zcf (zcf (ie_mulA (zac 3) (zae)) (ie_mod (zcz call_int1 ok_int (zaa (zac 4) (zad)) yce) (zae))) (zae)) (zad)) yce) (zae))))) (zai (zar (ie_lstL (zaa (ie_revL (zbn (own := [("_law_cell", 4)]) (T := zcm) (E := zc7) rfl hN (zct (zac 2)) (by first | exact blkOk_by (N := ymo) (sc := defScope yhg) (by decide +kernel) | exact blkOk_by (by with_unfolding_all rfl) | exact blkOk_by (by decide +kernel +revert)) (fun _ _ _ _ _ => pg_name (i := 4) hN rfl Yi) (zav 4) (fun _ _ _ _ _ => its_one (it_ge (zac 4) (ie_pow (zae) (zae)))) (fun _ _ _ _ _ => zac 4) zbd)) Yby))))))
abbrev yro : List Str := ["_law_deal_here", "_law_wide", "_law_left"]
theorem yp3 : FnScope yro ["_law_deal_here", "_law_wide"] (defScope yoq) := by simp_all_arith
theorem yrd (F : DG K "_law_draw" "_law_draw" yoq dfs kws f fd)
  (yce : mg "int" = none) :
  FnG P w K mg base Yf 1 f fd ["_law_deal_here", "_law_wide"] (spM K w zba 2) :=
 okM (k := 0) F yp3 fun cdv A outer s H E hr hgd => by
  have hN := yp3.nd
  have hu := hr.units
  exact zaf (st_while (B := zb6) 4096 PassesOwn.never ((iw_and (it_ne hu Ya7 (zaw (zad))) (iw_and1 (it_eq hu (zaj Ya7 (ie_neg (zae))) (zae)))).it) (zai (st_expr (ie_pop Ya7)))) (zaf (zbm (it_ne hu Ya7 (zaw (zad))) (zaf (za7 2 hN (ie_pop Ya7)) (zaf (st_expr (ie_append Ya7 (zaa (ie_div (zac 2) (zac 1)) (zad)))) (zai (zar (ie_mod (zcz call_int1 ok_int Yei yce) (zac 1)))))) (za1)) (zaf (st_iput (zac 0) (zae) (ie_mod (zcz call_int1 ok_int (zaa (zcf (ie_mulA Ya7 (zae)) (zae)) (zad)) yce) (zae))) (zai (zar (ie_mod (zcz call_int1 ok_int (zaa (ie_div Ya7 (zae)) (zad)) yce) (zac 1))))))
abbrev yre : List Str := ["self", "steps"]
theorem yoi : FnScope yre ["self"] (defScope ymg) := by simp_all_arith
theorem yqv (F : DG K "__str__" "Kind.__str__" ymg dfs kws f fd)
  (y5 : ∀ c ∈ (["Kind", "Reader"] : List Str), FldOk K c "name")
  (yan : ∀ c ∈ (["Kind", "Reader"] : List Str), FldOk K c "steps") :
  FnG P w K mg base Yf 1 f fd ["self"] (spM K w zbx 1) :=
 okP (k := 0) F yoi fun cdv A outer s H E hr hgd => by
  have hN := yoi.nd
  have hu := hr.units
  exact zaf (za7 1 hN (ie_join (zag) (zcr yan (zac 0)))) Ycx
abbrev yqw : List Str := ["self", "steps", "checks"]
theorem ym1 : FnScope yqw ["self"] (defScope yil) := by simp_all_arith
theorem ypq (F : DG K "__str__" "Reader.__str__" yil dfs kws f fd)
  (yq : mg "len" = none)
  (y5 : ∀ c ∈ (["Kind", "Reader"] : List Str), FldOk K c "name")
  (yb4 : ∀ c ∈ (["Reader"] : List Str), FldOk K c "checks")
  (yan : ∀ c ∈ (["Kind", "Reader"] : List Str), FldOk K c "steps") :
  FnG P w K mg base Yf 1 f fd ["self"] (spM K w zbf 1) :=
 okP (k := 0) F ym1 fun cdv A outer s H E hr hgd => by
  have hN := ym1.nd
  have hu := hr.units
  exact zaf (st_par2 rfl hN (zaa (ie_join (zag) (zcr yan (zac 0))) (zaa (ie_join (zag) (zcr yb4 (zac 0))) (zad)))) (zaf (zbm (it_eq hu (zbg call_len zcd (zaa (zcr yb4 (zac 0)) (zad)) yq) (zae)) Ycx (za1)) (zai (zar (ie_joined (zb2 (zag) (zb2 (ie_fmt (zcr y5 (zac 0))) (zb2 (zag) (zb2 (ie_fmt (zac 1)) (zb2 (zag) (zb2 (ie_fmt (zac 2)) (ij_nil)))))))))))
abbrev yrp : List Str := ["_law_deal_here", "_law_some"]
theorem yp4 : FnScope yrp ["_law_deal_here", "_law_some"] (defScope yor) := by simp_all_arith
theorem yrf (F : DG K "_law_pick" "_law_pick" yor dfs kws f fd)
  (yq : mg "len" = none)
  {yb5 : Addr} {yfe : FuncData} (ybm : FnG P w K mg base Yf 1 yb5 yfe ["_law_deal_here", "_law_wide"] (spM K w zba 2))
  (yci : mg "_law_draw" = some (.ref yb5)) (ycj : PySem.W.keepIn K (.ref yb5) = true)
  (ybn : Binds K yfe ["_law_deal_here", "_law_wide"] []) :
  FnG P w K mg base Yf 2 f fd ["_law_deal_here", "_law_some"] (spM K w zay 2) :=
 okM (k := 1) F yp4 fun cdv A outer s H E hr hgd => by
  have hN := yp4.nd
  have hu := hr.units
  exact zai (zar (zaj (zac 1) (zam (dts := []) (dvs := []) ybm Yb hgd (by rfl) yci ycj ybn .nil Yh zbt (zaa (zac 0) (zaa (zbg call_len zcd Y3 yq) (zad))))))
abbrev yrq : List Str := ["_law_deal_here", "_law_good", "_law_twin", "_law_at", "_law_odd", "_law_some"]
theorem yp5 : FnScope yrq ["_law_deal_here", "_law_good", "_law_twin"] (defScope yos) := by simp_all_arith
theorem yrg (F : DG K "_law_bent" "_law_bent" yos dfs kws f fd)
  (ygi : mg "str" = none)
  (yq : mg "len" = none)
  {yb6 : Addr} {yff : FuncData} (yax : FnG P w K mg base Yf 2 yb6 yff ["_law_deal_here", "_law_some"] (spM K w zay 2))
  (ya9 : mg "_law_pick" = some (.ref yb6)) (yba : PySem.W.keepIn K (.ref yb6) = true)
  (yay : Binds K yff ["_law_deal_here", "_law_some"] [])
  {yb5 : Addr} {yfe : FuncData} (ybm : FnG P w K mg base Yf 1 yb5 yfe ["_law_deal_here", "_law_wide"] (spM K w zba 2))
  (yci : mg "_law_draw" = some (.ref yb5)) (ycj : PySem.W.keepIn K (.ref yb5) = true)
  (ybn : Binds K yfe ["_law_deal_here", "_law_wide"] [])
  {ye : Addr} (ybb : ClsF K mg "Reader" ye)
  {yj : Addr} (ydi : ClsF K mg "Kind" yj)
  {yno : Addr} {ynp : FuncData} (yh4 : FnG P w K mg base Yf 1 yno ynp ["self"] (spM K w zbf 1))
  {ypf : Addr} {ypg : FuncData} (yla : FnG P w K mg base Yf 1 ypf ypg ["self"] (spM K w zbx 1))
  (yh5 : Meth K ye "__str__" yno)
  (ylb : Meth K yj "__str__" ypf)
  (yj2 : Binds K ynp ["self"] [])
  (ymp : Binds K ypg ["self"] []) :
  FnG P w K mg base Yf 4 f fd ["_law_deal_here", "_law_good", "_law_twin"] (spM K w zcj 3) :=
 okM (k := 3) F yp5 fun cdv A outer s H E hr hgd => by
  have hN := yp5.nd
  have hu := hr.units
  exact zaf (za7 3 hN (zam (dts := []) (dvs := []) ybm Yb hgd (by rfl) yci ycj ybn .nil Yh zbt (zaa (zac 0) (zaa (zcf (zbg call_len zcd Y3 yq) (zae)) (zad))))) (zaf (za7 4 hN (zaw (zaa (za3) (zaa (zcz (cr_strO (alts := [("Kind", zbx), ("Reader", zbf)]) ⟨.mk' ydi.cn ylb yla Yb ymp zau, ⟨.mk' ybb.cn yh5 yh4 Yb yj2 zau, True.intro⟩⟩ hgd) ok_strO Yec ygi) (zaa (zae) (zaa (zaw Yec) Yei)))))) (zaf (za7 5 hN (zaw (zaa (za3) (zaa (zae) (zaa (zaw (zad)) (zaa (zaz (zad)) (zaa (zaj (zac 1) (zae)) (zaa (zag) (zaa (zcf (zac 1) (zaw Yec)) (zad)))))))))) (zai (zar (zam (dts := []) (dvs := []) yax Yb hgd (by rfl) ya9 yba yay .nil Yh zbt (zaa (zac 0) (zaa (zcf (zac 5) (zaw (zaa (zcf (zcf (zc5 (zac 1) io_none (zc3 (zac 3))) (zaw (zaa (zam (dts := []) (dvs := []) yax Yb hgd (by rfl) ya9 yba yay .nil Yh zbt (zaa (zac 0) (zaa (zac 4) (zad)))) (zad)))) (zc5 (zac 1) (zc3 (zac 3)) io_none)) (zad)))) (zad))))))))
abbrev yph : List Str := ["_law_deal_here", "_law_odd", "_law_some"]
theorem yj3 : FnScope yph ["_law_deal_here"] (defScope yg0) := by simp_all_arith
theorem yn9 (F : DG K "_law_bent_rounds" "_law_bent_rounds" yg0 dfs kws f fd)
  {yb6 : Addr} {yff : FuncData} (yax : FnG P w K mg base Yf 2 yb6 yff ["_law_deal_here", "_law_some"] (spM K w zay 2))
  (ya9 : mg "_law_pick" = some (.ref yb6)) (yba : PySem.W.keepIn K (.ref yb6) = true)
  (yay : Binds K yff ["_law_deal_here", "_law_some"] []) :
  FnG P w K mg base Yf 3 f fd ["_law_deal_here"] (spM K w zb1 1) :=
 okM (k := 2) F yj3 fun cdv A outer s H E hr hgd => by
  have hN := yj3.nd
  have hu := hr.units
  exact zaf (za7 1 hN (zaw (zaa Yn (zaa Yn (zaa (zaz (zaa (zag) (zaa (ie_bl) (zad)))) (zaa (zaz (zaa (zag) Yap)) (zaa Yn (zaa Yn (zaa (zaz (zaa (za3) Ycq)) (zaa (zaw (zaa (zag) Ycq)) (zaa (zaz Yap) (zad)))))))))))) (zaf (za7 1 hN (zcf (zac 1) (zaw (zaa (zaz (zaa (zag) (zaa (zae) Ycq))) (zaa (zaz (zaa (zag) (zaa (ie_sub (zae) (zae)) (zad)))) (zaa (zaz (zaa (zag) (zaa (za3) (zad)))) (zaa (zag) (zaa (za3) (zad))))))))) (zaf (za7 2 hN (zaw (zaa (za3) (zaa Yn (zaa (zag) (zaa (zae) (zaa (zaw (zaa Yn (zaa Yn (zad)))) (zaa (zaw (zaa Yn (zaa Yn (zaa Yn (zad))))) (zad))))))))) (zai (zar (zam (dts := []) (dvs := []) yax Yb hgd (by rfl) ya9 yba yay .nil Yh zbt (zaa (zac 0) (zaa (zcf (zac 2) (zaw (zaa (zaw (zaa Yn (zaa Yd1 (zad)))) (zaa (zaw (zaa Yd1 (zaa Yn (zad)))) (zad))))) (zad))))))))
abbrev yrm : List Str := ["_law_work", "_law_found", "e"]
theorem yy : FnScope yrm ["_law_work"] (defScope yh2) := by simp_all_arith
abbrev yqx : List Str := ["names"]
theorem ym2 : FnScope yqx ["names"] (defScope yim) := by simp_all_arith
theorem ypr (F : DG K "are_unlike" "are_unlike" yim dfs kws f fd)
  (yq : mg "len" = none)
  (ygj : mg "set" = none) :
  FnG P w K mg base Yf 1 f fd ["names"] (spM K w zce 1) :=
 okP (k := 0) F ym2 fun cdv A outer s H E hr hgd => by
  have hN := ym2.nd
  have hu := hr.units
  exact zai (zar (ie_and (ie_gt Yan (zae)) (ie_one (ie_eq hu (ie_lenSet rfl yq ygj (zac 0)) Yan))))
abbrev ylc : List Str := ["value", "one"]
theorem ynq : FnScope ylc ["value"] (defScope yf9) := by simp_all_arith
theorem yqg (F : DG K "are_kinds" "are_kinds" yf9 dfs kws f fd)
  (yeo : mg "all" = none)
  (yc : mg "isinstance" = none)
  {yb7 : Addr} {yfg : FuncData} (yca : FnG P w K mg base Yf 1 yb7 yfg ["names"] (spM K w zce 1))
  (ydj : mg "are_unlike" = some (.ref yb7)) (ydk : PySem.W.keepIn K (.ref yb7) = true)
  (ycb : Binds K yfg ["names"] [])
  {yr : Addr} {y8 : FuncData} (yt : FnG P w K mg base Yf 1 yr y8 ["value"] Yge)
  (y3 : mg "is_sequence" = some (.ref yr)) (y4 : PySem.W.keepIn K (.ref yr) = true)
  (yu : Binds K y8 ["value"] [])
  {yj : Addr} (ydi : ClsF K mg "Kind" yj)
  (y5 : ∀ c ∈ (["Kind", "Reader"] : List Str), FldOk K c "name")
  (hT : IsTab K zcv) :
  FnG P w K mg base Yf 2 f fd ["value"] (spM K w zbb 1) :=
 okP (k := 1) F ynq fun cdv A outer s H E hr hgd => by
  have hN := ynq.nd
  have hu := hr.units
  exact zaf (zbm ((iw_or Ybg (zc1 (zbk (zbo (zbg (cr_all rfl) ok_all (zaa (zbn (own := [("one", 1)]) (T := mYes) (E := f_are_kinds_c2) rfl hN (zct (zac 0)) Yba Ybr (zav 1) Y0 (fun _ _ _ _ _ => zbg zb3 (ok_isi hT) (zaa (zac 1) (zaa (zbj ydi.cn ydi.mg) (zad))) yc) zbd) (zad)) yeo))))).it) Ya0 (za1)) (zai (zar (zam (dts := []) (dvs := []) yca Yb hgd (by rfl) ydj ydk ycb .nil Yh zau (zaa (zbn (own := [("one", 1)]) (T := mYes) (E := f_are_kinds_c1) rfl hN (zct (zac 0)) Yba Ybr (zav 1) Y0 (fun _ _ _ _ _ => zcr y5 (zac 1)) zbd) (zad)))))
abbrev yh6 : List Str := ["value", "one"]
theorem ymb : FnScope yh6 ["value"] (defScope yeq) := by simp_all_arith
theorem ypi (F : DG K "are_readers" "are_readers" yeq dfs kws f fd)
  (yeo : mg "all" = none)
  (yc : mg "isinstance" = none)
  {yb7 : Addr} {yfg : FuncData} (yca : FnG P w K mg base Yf 1 yb7 yfg ["names"] (spM K w zce 1))
  (ydj : mg "are_unlike" = some (.ref yb7)) (ydk : PySem.W.keepIn K (.ref yb7) = true)
  (ycb : Binds K yfg ["names"] [])
  {yr : Addr} {y8 : FuncData} (yt : FnG P w K mg base Yf 1 yr y8 ["value"] Yge)
  (y3 : mg "is_sequence" = some (.ref yr)) (y4 : PySem.W.keepIn K (.ref yr) = true)
  (yu : Binds K y8 ["value"] [])
  {ye : Addr} (ybb : ClsF K mg "Reader" ye)
  (y5 : ∀ c ∈ (["Kind", "Reader"] : List Str), FldOk K c "name")
  (hT : IsTab K zcv) :
  FnG P w K mg base Yf 2 f fd ["value"] (spM K w za2 1) :=
 okP (k := 1) F ymb fun cdv A outer s H E hr hgd => by
  have hN := ymb.nd
  have hu := hr.units
  exact zaf (zbm ((iw_or Ybg (zc1 (zbk (zbo (zbg (cr_all rfl) ok_all (zaa (zbn (own := [("one", 1)]) (T := mYes) (E := f_are_readers_c2) rfl hN (zct (zac 0)) Ybb Ybr (zav 1) Y0 (fun _ _ _ _ _ => zbg zb3 (ok_isi hT) (zaa (zac 1) (zaa (zbj ybb.cn ybb.mg) (zad))) yc) zbd) (zad)) yeo))))).it) Ya0 (za1)) (zai (zar (zam (dts := []) (dvs := []) yca Yb hgd (by rfl) ydj ydk ycb .nil Yh zau (zaa (zbn (own := [("one", 1)]) (T := mYes) (E := f_are_readers_c1) rfl hN (zct (zac 0)) Ybb Ybr (zav 1) Y0 (fun _ _ _ _ _ => zcr y5 (zac 1)) zbd) (zad)))))
abbrev yqy : List Str := ["value"]
theorem ym3 : FnScope yqy ["value"] (defScope yin) := by simp_all_arith
theorem yps (F : DG K "is_integer" "is_integer" yin dfs kws f fd)
  (yc : mg "isinstance" = none)
  (yqz : mg "bool" = none)
  (yce : mg "int" = none)
  (hT : IsTab K zcv) :
  FnG P w K mg base Yf 1 f fd ["value"] (spM K w F_is_integer 1) :=
 okP (k := 0) F ym3 fun cdv A outer s H E hr hgd => by
  have hN := ym3.nd
  have hu := hr.units
  exact zai (zar (ie_and (zbg zb3 (ok_isi hT) (zaa (zac 0) (zaa (ie_ty yce Yaq) (zad))) yc) (ie_one (ie_not (zbg zb3 (ok_isi hT) (zaa (zac 0) (zaa (ie_ty yqz Yaq) (zad))) yc)))))
abbrev yrh : List Str := ["value"]
theorem yoj : FnScope yrh ["value"] (defScope ymh) := by simp_all_arith
theorem yq0 (F : DG K "is_round" "is_round" ymh dfs kws f fd)
  (yc : mg "isinstance" = none)
  (y0 : mg "tuple" = none)
  (yq : mg "len" = none)
  {t_LEAST_ROUND : Tok} (yh7 : mg "LEAST_ROUND" = some (.int (2) t_LEAST_ROUND))
  {yj4 : Addr} {ynr : FuncData} (yh8 : FnG P w K mg base Yf 1 yj4 ynr ["value"] (spM K w F_is_integer 1))
  (yj5 : mg "is_integer" = some (.ref yj4)) (yj6 : PySem.W.keepIn K (.ref yj4) = true)
  (yh9 : Binds K ynr ["value"] [])
  {yab : Addr} {yav : FuncData} (yac : FnG P w K mg base Yf 1 yab yav ["value"] Ygd)
  (yak : mg "is_name" = some Yf0) (yal : PySem.W.keepIn K Yf0 = true)
  (yad : Binds K yav ["value"] [])
  (hT : IsTab K zcv) :
  FnG P w K mg base Yf 2 f fd ["value"] (spM K w F_is_round 1) :=
 okP (k := 1) F yoj fun cdv A outer s H E hr hgd => by
  have hN := yoj.nd
  have hu := hr.units
  exact zaf (zbm ((iw_or (zbk (zbo (zbg zb3 (ok_isi hT) (zaa (zac 0) (zaa (ie_ty y0 Yaq) (zad))) yc))) (iw_or (it_ne hu Yan (zae)) (zc1 (zbk (zbo (zam (dts := []) (dvs := []) yac Yb hgd (by rfl) yak yal yad .nil Yh zau (zaa Ya7 (zad)))))))).it) Ya0 (za1)) (zai (zar (ie_and (zam (dts := []) (dvs := []) yh8 Yb hgd (by rfl) yj5 yj6 yh9 .nil Yh zau (zaa Ya7 (zad))) (ie_one (ie_ge Ya7 (ie_glob (v := .int (2)) (by rfl) yh7 ⟨_, rfl⟩ Yaf))))))
abbrev yj7 : List Str := ["value", "one", "counter", "size"]
theorem ym4 : FnScope yj7 ["value"] (defScope yfc) := by simp_all_arith
theorem ypt (F : DG K "are_rounds" "are_rounds" yfc dfs kws f fd)
  (yq : mg "len" = none)
  (ygj : mg "set" = none)
  (yeo : mg "all" = none)
  {yr : Addr} {y8 : FuncData} (yt : FnG P w K mg base Yf 1 yr y8 ["value"] Yge)
  (y3 : mg "is_sequence" = some (.ref yr)) (y4 : PySem.W.keepIn K (.ref yr) = true)
  (yu : Binds K y8 ["value"] [])
  {ymq : Addr} {ypj : FuncData} (yle : FnG P w K mg base Yf 2 ymq ypj ["value"] (spM K w F_is_round 1))
  (ymr : mg "is_round" = some (.ref ymq)) (yms : PySem.W.keepIn K (.ref ymq) = true)
  (ylf : Binds K ypj ["value"] []) :
  FnG P w K mg base Yf 3 f fd ["value"] (spM K w zax 1) :=
 okP (k := 2) F ym4 fun cdv A outer s H E hr hgd => by
  have hN := ym4.nd
  have hu := hr.units
  exact zaf (zbm ((iw_or Ybg (zc1 (zbk (zbo (zbg (cr_all rfl) ok_all (zaa (zbn (own := [("one", 1)]) (T := mYes) (E := f_are_rounds_c2) rfl hN (zct (zac 0)) Ybc Ybr (zav 1) Y0 (fun _ _ _ _ _ => zam (dts := []) (dvs := []) yle Yb hgd (by rfl) ymr yms ylf .nil Yh zau Y3) zbd) (zad)) yeo))))).it) Ya0 (za1)) (zai (zar (ie_eq hu (ie_lenSet rfl yq ygj (zbn (own := [("counter", 2), ("size", 3)]) (T := mYes) (E := f_are_rounds_c1) rfl hN (zct (zac 0)) Ybc (fun _ _ _ _ _ => pg_tup rfl (pgs_cons (pg_name (i := 2) hN rfl Yi) (pgs_cons (pg_name (i := 3) hN rfl Yi) (pgs_nil)))) (tg_tup (tgs_cons (zav 2) (tgs_cons (zav 3) (tgs_nil)))) Y0 (fun _ _ _ _ _ => zac 2) zbd)) Yan)))
abbrev yqh : List Str := ["self", "kinds", "readers", "rounds"]
theorem ymc : FnScope yqh ["self", "kinds", "readers", "rounds"] (defScope y6) := by simp_all_arith
theorem ypk (F : DG K "__init__" "Design.__init__" y6 dfs kws f fd)
  (y0 : mg "tuple" = none)
  (yov : mg "sorted" = none)
  {yj8 : Addr} {yns : FuncData} (yia : FnG P w K mg base Yf 3 yj8 yns ["value"] (spM K w zax 1))
  (yj9 : mg "are_rounds" = some (.ref yj8)) (yka : PySem.W.keepIn K (.ref yj8) = true)
  (yib : Binds K yns ["value"] [])
  {yic : Addr} {ym5 : FuncData} (yhw : FnG P w K mg base Yf 2 yic ym5 ["value"] (spM K w za2 1))
  (yid : mg "are_readers" = some (.ref yic)) (yie : PySem.W.keepIn K (.ref yic) = true)
  (yhx : Binds K ym5 ["value"] [])
  {ylg : Addr} {yok : FuncData} (ykb : FnG P w K mg base Yf 2 ylg yok ["value"] (spM K w zbb 1))
  (ylh : mg "are_kinds" = some (.ref ylg)) (yli : PySem.W.keepIn K (.ref ylg) = true)
  (ykc : Binds K yok ["value"] [])
  (yaw : ∀ c ∈ (["Design"] : List Str), FldOk K c "rounds")
  (ycc : ∀ c ∈ (["Design"] : List Str), FldOk K c "readers")
  (ye0 : ∀ c ∈ (["Design"] : List Str), FldOk K c "kinds")
  {yb y7 : Addr} {ycf : FuncData} (ya : XF P w K mg base "InvalidDesign" yb y7 ycf ["self", "word"] "word") :
  FnG P w K mg base Yf 4 f fd ["self", "kinds", "readers", "rounds"] (spX K w zan 4) :=
 okX (k := 3) F ymc fun cdv A outer s H E hr hgd => by
  have hN := ymc.nd
  have hu := hr.units
  exact zaf (zbm (zbk (zbo (zam (dts := []) (dvs := []) ykb Yb hgd (by rfl) ylh yli ykc .nil Yh zau Y3))) Ybh (za1)) (zaf (zbm (zbk (zbo (zam (dts := []) (dvs := []) yhw Yb hgd (by rfl) yid yie yhx .nil Yh zau Yei))) Ybh (za1)) (zaf (zbm (zbk (zbo (zam (dts := []) (dvs := []) yia Yb hgd (by rfl) yj9 yka yib .nil Yh zau Yby))) Ybh (za1)) (zaf (st_fld ye0 (zac 0) (zcz zbh ok_tup Y3 y0)) (zaf (st_fld ycc (zac 0) Ya5) (zai (st_fld yaw (zac 0) (zcz zbh ok_tup (zaa (zbg (cr_sortRQ hu) ok_sortQ Yby yov) (zad)) y0)))))))
abbrev ye1 : List Str := ["self", "counter", "size", "left", "one"]
theorem yg7 : FnScope ye1 ["self", "counter", "size"] (defScope ya3) := by simp_all_arith
theorem ymd (F : DG K "with_round" "Design.with_round" ya3 dfs kws f fd)
  {yab : Addr} {yav : FuncData} (yac : FnG P w K mg base Yf 1 yab yav ["value"] Ygd)
  (yak : mg "is_name" = some Yf0) (yal : PySem.W.keepIn K Yf0 = true)
  (yad : Binds K yav ["value"] [])
  {y9 : Addr} (yaa : ClsF K mg "Design" y9)
  {yer : Addr} {yet : FuncData} (yag : FnG P w K mg base Yf 4 yer yet ["self", "kinds", "readers", "rounds"] (spX K w zan 4))
  (ycc : ∀ c ∈ (["Design"] : List Str), FldOk K c "readers")
  (ye0 : ∀ c ∈ (["Design"] : List Str), FldOk K c "kinds")
  (yck : Mk K y9 yer)
  (yaw : ∀ c ∈ (["Design"] : List Str), FldOk K c "rounds")
  {yb y7 : Addr} {ycf : FuncData} (ya : XF P w K mg base "InvalidDesign" yb y7 ycf ["self", "word"] "word")
  (yah : Binds K yet ["self", "kinds", "readers", "rounds"] []) :
  FnG P w K mg base Yf 6 f fd ["self", "counter", "size"] (spX K w zao 3) :=
 okX (k := 5) F yg7 fun cdv A outer s H E hr hgd => by
  have hN := yg7.nd
  have hu := hr.units
  exact zaf (zbm Ybq Ybh (za1)) (zaf (by first | exact st_comp (i := 3) (own := [("one", 4)]) (T := za5) (E := za6) rfl hN rfl rfl rfl (zct (zcr yaw (zac 0))) (by first | exact blkOk_by (N := ye1) (sc := defScope ya3) (by decide +kernel) | exact blkOk_by (by with_unfolding_all rfl) | exact blkOk_by (by decide +kernel +revert)) (fun _ _ _ _ _ => pg_name (i := 4) hN rfl Yi) (zav 4) Yf2 (fun _ _ _ _ _ => zac 4) fin_live | exact za7 3 hN (zbn (own := [("one", 4)]) (T := za5) (E := za6) rfl hN (zct (zcr yaw (zac 0))) (by first | exact blkOk_by (N := ye1) (sc := defScope ya3) (by decide +kernel) | exact blkOk_by (by with_unfolding_all rfl) | exact blkOk_by (by decide +kernel +revert)) (fun _ _ _ _ _ => pg_name (i := 4) hN rfl Yi) (zav 4) Yf2 (fun _ _ _ _ _ => zac 4) fin_live)) (zaf (zbm (it_notN (zac 2) (za3)) (zai (st_expr (ie_append (zac 3) (zaa (zaz (zaa (zac 1) Yei)) (zad))))) (za1)) (is_fz 3 (zai (zar (zcu (zca yck yaa.cn yag Yb hgd (by rfl) yaa.mg yah .nil Yfe zb9 Ys (zaa (zcr ye0 (zac 0)) (zaa (zcr ycc (zac 0)) Yby)))))))))
abbrev yrt : List Str := ["_law_script", "_law_kinds", "_law_readers", "_law_spot", "_law_deal_here", "_law_turn", "_law_one", "_law_other", "_law_rounds", "_law_good", "_law_made", "_law_called", "_law_size"]
theorem yrn : FnScope yrt ["_law_script"] (defScope yh0) := by simp_all_arith
theorem yrs (F : DG K "law" "law" yh0 dfs kws f fd)
  (yn8 : mg "range" = none)
  (yri : mg "max" = none)
  (yrj : mg "min" = none)
  (yq : mg "len" = none)
  (yc : mg "isinstance" = none)
  (y0 : mg "tuple" = none)
  {c_L P_L : Addr} (hcL : fd.code = .ref c_L) (TB : LamX.TabB base mg c_L P_L) (LT : LawTab K P_L)
  {yp6 : Addr} {yp7 : FuncData} (ybo : FunD K "_law_heard" "_law_heard" (defArgs yh2) (defBody yh2) (defScope yh2) [] [] yp6 yp7) (ycg : mg "_law_heard" = some (.ref yp6)) (ybl : Binds K yp7 ["_law_work"] [])
  {yb6 : Addr} {yff : FuncData} (yax : FnG P w K mg base Yf 2 yb6 yff ["_law_deal_here", "_law_some"] (spM K w zay 2))
  (ya9 : mg "_law_pick" = some (.ref yb6)) (yba : PySem.W.keepIn K (.ref yb6) = true)
  (yay : Binds K yff ["_law_deal_here", "_law_some"] [])
  {yb5 : Addr} {yfe : FuncData} (ybm : FnG P w K mg base Yf 1 yb5 yfe ["_law_deal_here", "_law_wide"] (spM K w zba 2))
  (yci : mg "_law_draw" = some (.ref yb5)) (ycj : PySem.W.keepIn K (.ref yb5) = true)
  (ybn : Binds K yfe ["_law_deal_here", "_law_wide"] [])
  {yg8 : Addr} {yky : FuncData} (ygq : FnG P w K mg base Yf 3 yg8 yky ["_law_deal_here"] (spM K w zb1 1))
  (yg9 : mg "_law_bent_rounds" = some (.ref yg8)) (yha : PySem.W.keepIn K (.ref yg8) = true)
  (ygr : Binds K yky ["_law_deal_here"] [])
  {yow : Addr} {yq1 : FuncData} (ykz : FnG P w K mg base Yf 4 yow yq1 ["_law_deal_here", "_law_good", "_law_twin"] (spM K w zcj 3))
  (ymt : mg "_law_bent" = some (.ref yow)) (ymu : PySem.W.keepIn K (.ref yow) = true)
  (yk0 : Binds K yq1 ["_law_deal_here", "_law_good", "_law_twin"] [])
  {yox : Addr} {yq2 : FuncData} (ynt : FnG P w K mg base Yf 1 yox yq2 ["_law_script", "_law_base"] (spM K w F_w_deal 2))
  (yoy : mg "_law_deal" = some (.ref yox)) (yoz : PySem.W.keepIn K (.ref yox) = true)
  (ynu : Binds K yq2 ["_law_script", "_law_base"] [])
  {y9 : Addr} (yaa : ClsF K mg "Design" y9)
  {ye : Addr} (ybb : ClsF K mg "Reader" ye)
  {yj : Addr} (ydi : ClsF K mg "Kind" yj)
  {yhd : Addr} {yhe : FuncData} (yaz : FnG P w K mg base Yf 6 yhd yhe ["self", "counter", "size"] (spX K w zao 3))
  {yer : Addr} {yet : FuncData} (yag : FnG P w K mg base Yf 4 yer yet ["self", "kinds", "readers", "rounds"] (spX K w zan 4))
  {ym6 : Addr} {ym7 : FuncData} (yf7 : FnG P w K mg base (L2N.CX P w) 5 ym6 ym7 ["self", "name", "steps", "checks"] (spX K w zbl 4))
  {yol : Addr} {yom : FuncData} (yhb : FnG P w K mg base (L2N.CX P w) 4 yol yom ["self", "name", "steps"] (spX K w zb7 3))
  {yb y7 : Addr} {ycf : FuncData} (ya : XF P w K mg base "InvalidDesign" yb y7 ycf ["self", "word"] "word")
  (yf : XcF K yb)
  {yd : Addr} (yh : CN K "InvalidReader" yd) (yae : mg "InvalidReader" = some Yea)
  (ym : PySem.W.kitOne K Yb7 Yea = some false)
  {yg : Addr} (yk : CN K "InvalidKind" yg) (yas : mg "InvalidKind" = some Yd9)
  (yo : PySem.W.kitOne K Yb7 Yd9 = some false)
  {yam : Addr} (yn : CN K "RecordError" yam) (yat : mg "RecordError" = some (.ref yam))
  (yp : PySem.W.kitOne K Yb7 (.ref yam) = some true)
  (y1 : PySem.W.findIn K Yb7 "word" = some none)
  (ya0 : Meth K y9 "with_round" yhd)
  (yaw : ∀ c ∈ (["Design"] : List Str), FldOk K c "rounds")
  (yck : Mk K y9 yer)
  (ymv : Mk K ye ym6)
  (ypl : Mk K yj yol)
  (ya1 : Binds K yhe ["self", "counter", "size"] [])
  (yah : Binds K yet ["self", "kinds", "readers", "rounds"] [])
  {e_Reader_init : Addr} (dt_Reader_init : ∀ s, RwL K s (([.tup []] : List T).map W.t) [V.ref e_Reader_init])
  (yf8 : Binds K ym7 ["self", "name", "steps", "checks"] [.ref e_Reader_init])
  (yhc : Binds K yom ["self", "name", "steps"] []) :
  FnG P w K mg base Yf 9 f fd ["_law_script"] (spM K w F_law 1) :=
 okMc (k := 8) F hcL yrn fun A outer s H E hr hgd => by
  have hN := yrn.nd
  have hu := hr.units
  exact zaf (za7 1 hN (zaw (zaa Ybs (zaa Ybs (zad))))) (zaf (za7 2 hN (zaw (zaa Ybi (zaa Ybi (zad))))) (zaf (st_for (B := f_law_l2) PassesOwn.never rfl (ii_rng1 (by rfl) yn8 (zaa (zbg (call_max2 rfl) ok_max2 (zaa (zae) (zaa (zbg (call_min2 rfl) ok_min2 (zaa (zae) (zaa Yan (zad))) yrj) (zad))) yri) (zad))) (pg_name (i := 3) hN rfl Yi) (zav 3) (zaf (za7 4 hN (zam (dts := []) (dvs := []) ynt Yb hgd (by rfl) yoy yoz ynu .nil Yh zbt (zaa (zac 0) Yby))) (zai (st_for (B := f_law_l1) PassesOwn.never rfl (ii_rng1 (by rfl) yn8 Ycq) (pg_name (i := 5) hN rfl Yi) (zav 5) (zaf (st_parG rfl (zaa (zam (dts := []) (dvs := []) ykz Yb hgd (by rfl) ymt ymu yk0 .nil Yh zbt (zaa (zac 4) (zaa (zac 1) (zaa Ydm (zad))))) (zaa (zam (dts := []) (dvs := []) ykz Yb hgd (by rfl) ymt ymu yk0 .nil Yh zbt (zaa (zac 4) (zaa (zac 2) Yec))) (zad))) Yd2 (tgs_cons (zav 6) (tgs_cons (zav 7) (tgs_nil)))) (zaf (za7 8 hN (zam (dts := []) (dvs := []) ygq Yb hgd (by rfl) yg9 yha ygr .nil Yh zbt (zaa (zac 4) (zad)))) (zaf (za7 9 hN (zc5 (zaw (zaa (zaz (zaa (zag) (zaa (zcf (zae) Ydz) (zad)))) (zaa Yn (zad)))) io_none (zc3 Ydz))) (zaf (zbm (it_ne hu (zdc (k := 6) (F := f_law_c7) (by rfl) ycg ybo ybl yy yy.nd (by rfl) Ye8 (by rfl) (by rfl) (by rfl) (by rfl) Ybo Yed Yaf Ydo Ya TB (by rfl) LT Yb hgd Yy (by rfl) Yb4 (fun A outer s H E f c' hr hgd => by have hu := hr.units; exact (zcu (zca yck yaa.cn yag Yb hgd (by rfl) yaa.mg yah .nil Yfe zb9 Ys (zaa (zac 6) (zaa (zac 7) (zaa (zac 8) (zad)))))))) (zag)) Ya0 (za1)) (zaf (zbm (it_ne hu (zdc (k := 6) (F := f_law_c6) (by rfl) ycg ybo ybl yy yy.nd (by rfl) Ye8 (by rfl) (by rfl) (by rfl) (by rfl) Ybo Yed Yaf Ydo Ya TB (by rfl) LT Yb hgd Yy (by rfl) Yb4 (fun A outer s H E f c' hr hgd => by have hu := hr.units; exact (zcu (zca yck yaa.cn yag Yb hgd (by rfl) yaa.mg yah .nil Yfe zb9 Ys (zaa (zac 1) (zaa (zac 7) (zaa (zac 8) (zad)))))))) (zag)) Ya0 (za1)) (zaf (zbm (it_ne hu (zdc (k := 6) (F := f_law_c5) (by rfl) ycg ybo ybl yy yy.nd (by rfl) Ye8 (by rfl) (by rfl) (by rfl) (by rfl) Ybo Yed Yaf Ydo Ya TB (by rfl) LT Yb hgd Yy (by rfl) Yb4 (fun A outer s H E f c' hr hgd => by have hu := hr.units; exact (zcu (zca yck yaa.cn yag Yb hgd (by rfl) yaa.mg yah .nil Yfe zb9 Ys (zaa (zcz zbh ok_tup Y3 y0) (zaa (zac 2) (zaa (zac 8) (zad)))))))) (zag)) Ya0 (za1)) (zaf (zbm (it_notN (zdc (k := 6) (F := f_law_c4) (by rfl) ycg ybo ybl yy yy.nd (by rfl) Ye8 (by rfl) (by rfl) (by rfl) (by rfl) Ybo Yed Yaf Ydo Ya TB (by rfl) LT Yb hgd Yy (by rfl) Yb4 (fun A outer s H E f c' hr hgd => by have hu := hr.units; exact (zcu (zca yck yaa.cn yag Yb hgd (by rfl) yaa.mg yah .nil Yfe zb9 Ys (zaa (zac 1) (zaa Ya5 (zaa (zac 9) (zad)))))))) (za3)) Ya0 (za1)) (zaf (za7 10 hN (zcu (zca yck yaa.cn yag Yb hgd (by rfl) yaa.mg yah .nil Yfe zb9 (fun σ => L2.passAt takes_nox σ) (zaa (zac 1) (zaa (zac 2) (zaa (zac 9) (zad))))))) (zaf (za7 11 hN (zam (dts := []) (dvs := []) yax Yb hgd (by rfl) ya9 yba yay .nil Yh zbt (zaa (zac 4) (zaa (zaw (zaa (zag) (zaa (zag) (zaa (za3) (zaa (zae) (zaa (zaz Yap) (zaa (zag) (zaa (zag) (zaa (zaw Yap) (zad)))))))))) (zad))))) (zaf (zbm (it_ne hu (zdc (k := 6) (F := f_law_c3) (by rfl) ycg ybo ybl yy yy.nd (by rfl) Ye8 (by rfl) (by rfl) (by rfl) (by rfl) Ybo Yed Yaf Ydo Ya TB (by rfl) LT Yb hgd Yy (by rfl) Yb4 (fun A outer s H E f c' hr hgd => by have hu := hr.units; exact (ie_methX (dts := []) (dvs := []) yaa.cn yaa.cl ya0 yaz Yb hgd ya1 .nil Yh zb9 Ys (zac 10) (zaa (zac 11) Ycq)))) (zag)) Ya0 (za1)) (zaf (zbm (it_ne hu (zdc (k := 6) (F := f_law_c2) (by rfl) ycg ybo ybl yy yy.nd (by rfl) Ye8 (by rfl) (by rfl) (by rfl) (by rfl) Ybo Yed Yaf Ydo Ya TB (by rfl) LT Yb hgd Yy (by rfl) Yb4 (fun A outer s H E f c' hr hgd => by have hu := hr.units; exact (ie_methX (dts := []) (dvs := []) yaa.cn yaa.cl ya0 yaz Yb hgd ya1 .nil Yh zb9 Ys (zac 10) (zaa (zac 11) (zaa (za3) (zad)))))) (zag)) Ya0 (za1)) (zaf (za7 12 hN (zam (dts := []) (dvs := []) yax Yb hgd (by rfl) ya9 yba yay .nil Yh zbt (zaa (zac 4) (zaa (zaw (zaa (zae) (zaa (zae) (zaa (ie_bl) (zaa (zag) (zaa (zaz Ycq) (zaa (ie_sub (zae) (zae)) (zaa (zaw Ycq) (zad))))))))) (zad))))) (zai (zbm ((iw_or (it_ne hu (zdc (k := 6) (F := f_law_c1) (by rfl) ycg ybo ybl yy yy.nd (by rfl) Ye8 (by rfl) (by rfl) (by rfl) (by rfl) Ybo Yed Yaf Ydo Ya TB (by rfl) LT Yb hgd Yy (by rfl) Yb4 (fun A outer s H E f c' hr hgd => by have hu := hr.units; exact (ie_methX (dts := []) (dvs := []) yaa.cn yaa.cl ya0 yaz Yb hgd ya1 .nil Yh zb9 Ys (zac 10) (zaa (zag) (zaa (zac 12) (zad)))))) (zag)) (zc1 (it_ne hu (zcr yaw (zac 10)) (zcz zbh ok_tup (zaa (zac 9) (zad)) y0)))).it) Ya0 (za1))))))))))))))))))) Ya0))
end
theorem all_mk : AllMk F_law := by
 intro l w K h mg fa KX G hfa y9 ydl ykh yki ykj ykk ykl ykm ydn ycl ye2 yj yaf yn0 ycz yn1 yn2 yn3 yn4 yga ygb yg1 ye yz ykn ybc yko ykp ykq ykr ye3 ye4 yfh ye5 ydo ih it ia_Kind im_Kind ia_Reader im_Reader kz_Kind_str kz_Kind_tuple kz_Kind_list kz_Kind_int ty_Kind ydp ks_bool_Kind ks_int_Kind ks_str_Kind ks_list_Kind ks_tuple_Kind kz_Reader_str kz_Reader_tuple kz_Reader_list kz_Reader_int ty_Reader ycd ks_bool_Reader ks_int_Reader ks_str_Reader ks_list_Reader ks_tuple_Reader sb_Kind_Reader ne_Kind_Reader sb_Reader_Kind ne_Reader_Kind yb ybv yio yip yiq yir ygk yis yit yiu yf yiv yiw yix yiy yiz yi0 ydq ydr ycm ya5 ybw yds y7 ybx yby yi1 ydt ydu ydv ydw yi2 ydx ya6 ybz yi3 ydy ydz yi4 yi5 ygl yi6 ygm yi7 yd0 yd1 yd2 yi8 yi9 yja yd3 yd4 yd5 yd6 ybk ycn yco yg yk ylj ylk yll ylm yhh yln ylo ylp ylq ylr yls ylt ylu ylv ylw yfi yfj ye6 yc0 ybp yfk ya2 yc1 yc2 ylx yfl yfm yfn yfo yly yfp ybq yc3 ylz yfq yfr yl0 yl1 yhi yl2 yhj yl3 yfs yft yfu yl4 yl5 yl6 yfv yfw yfx yfy ye7 ye8 ye9 yd yh yjb yjc yjd yje ygn yjf yjg yjh yji yjj yjk yjl yjm yjn yjo yd7 yd8 ycp yb0 ya7 yd9 yau yb1 yb2 yjp yea yeb yec yed yjq yee ya8 yb3 yjr yef yeg yjs yjt ygo yju ygp yjv yeh yei yej yjw yjx yjy yek yel yem yen ycq ycr ycs yct ycu ycv ycw ycx ycy yfa yam yn yfb yfz yai yaj yao yap yaq yar xsup xany xtop v_MOST_LETTERS w_MOST_LETTERS v_MOST_DIGITS_scripts w_MOST_DIGITS_scripts v_LEAST_ROUND w_LEAST_ROUND v_LETTERS w_LETTERS v_DIGITS w_DIGITS yhk o_BARRED us_BARRED ymi w_BARRED lk_BARRED ygs ygt oa_BARRED or_BARRED oz_BARRED ybr o_WRITER_WORDS us_WRITER_WORDS yf0 w_WRITER_WORDS lk_WRITER_WORDS ybd ybe oa_WRITER_WORDS or_WRITER_WORDS oz_WRITER_WORDS ybs o_READER_WORDS us_READER_WORDS yf1 w_READER_WORDS lk_READER_WORDS ybf ybg oa_READER_WORDS or_READER_WORDS oz_READER_WORDS yqi yg2 yqj yqk yn5 yo1 yql yqm yqn yo2 ymj yn6 yqo yqp ad_is_name yo3 ygu ad_is_sequence yl7 yb8 ad_deed_in yo4 ygv ad_deeds_in yoa yf2 ad_Kind_init yne yeu ad_number_in ynf yev ad_spot_in yo5 ygw ad_test_in yo6 ygx ad_tests_in yob yf3 ad_Reader_init yhl yc4 yc5 yc6 ybt yc7 yhm yc8 sl_Reader_init ybi to_Reader_init tn_Reader_init at_Reader_init fn_Reader_init ygc ygd yge e_Reader_init eo_Reader_init en_Reader_init t_Reader_init u_Reader_init el_Reader_init ec_Reader_init ed_Reader_init ea_Reader_init ad_w_deal ypu yhn ad_w_draw ypv yho ad_Kind_str yoc yg3 ad_Reader_str ymw yfd ad_w_pick ypw yhp ad_w_bent ypx yhq ad_w_bent_rounds yjz ybh ad_w_heard yo7 ygy ad_are_unlike ymx yc9 ad_are_kinds yng yew ad_are_readers yl8 yb9 ad_is_integer ymy yda ad_is_round yod yf4 ad_are_rounds ymz ydb ad_Design_init yhr ydc ydd yde ybu ydf yhs ydg sl_Design_init ybj to_Design_init tn_Design_init at_Design_init fn_Design_init ygf ygg ygh e_Design_init eo_Design_init en_Design_init t_Design_init u_Design_init el_Design_init ec_Design_init ed_Design_init ea_Design_init ad_Design_with_round yg4 ya4 ad_law yqr yn7 c_L tL o_L hcL lcL okL nT
 have e0 := hfa.symm.trans (PySem.W.mg_of KX G yn7.1)
 obtain rfl : fa = ad_law := by cases e0; rfl
 have yk1 : Cls K y9 := ⟨ykh, yki, ykj, ykk⟩
 have yaa : ClsF K mg "Design" y9 := ⟨ydl, PySem.W.mg_of KX G ydl, yk1⟩
 have yhy : Cls K yj := ⟨yn0, ycz, yn1, yn2⟩
 have ydi : ClsF K mg "Kind" yj := ⟨yaf, PySem.W.mg_of KX G yaf, yhy⟩
 have ych : Cls K ye := ⟨ykn, ybc, yko, ykp⟩
 have ybb : ClsF K mg "Reader" ye := ⟨yz, PySem.W.mg_of KX G yz, ych⟩
 have yez : ∀ c ∈ (["Kind", "Reader"] : List Str), FldOk K c "deeds" := by
  intro c hc
  simp only [List.mem_cons, List.not_mem_nil, or_false] at hc
  rcases hc with rfl | rfl
  ·exact ⟨_, yaf, yhy, yga⟩
  ·exact ⟨_, yz, ych, ye3⟩
 have yan : ∀ c ∈ (["Kind", "Reader"] : List Str), FldOk K c "steps" := by
  intro c hc
  simp only [List.mem_cons, List.not_mem_nil, or_false] at hc
  rcases hc with rfl | rfl
  ·exact ⟨_, yaf, yhy, ygb⟩
  ·exact ⟨_, yz, ych, ye4⟩
 have y5 : ∀ c ∈ (["Kind", "Reader"] : List Str), FldOk K c "name" := by
  intro c hc
  simp only [List.mem_cons, List.not_mem_nil, or_false] at hc
  rcases hc with rfl | rfl
  ·exact ⟨_, yaf, yhy, yg1⟩
  ·exact ⟨_, yz, ych, yfh⟩
 have yk9 : ∀ c ∈ (["Reader"] : List Str), FldOk K c "tests" := by
  intro c hc
  simp only [List.mem_cons, List.not_mem_nil, or_false] at hc
  subst hc
  ·exact ⟨_, yz, ych, ye5⟩
 have yb4 : ∀ c ∈ (["Reader"] : List Str), FldOk K c "checks" := by
  intro c hc
  simp only [List.mem_cons, List.not_mem_nil, or_false] at hc
  subst hc
  ·exact ⟨_, yz, ych, ydo⟩
 have yaw : ∀ c ∈ (["Design"] : List Str), FldOk K c "rounds" := by
  intro c hc
  simp only [List.mem_cons, List.not_mem_nil, or_false] at hc
  subst hc
  ·exact ⟨_, ydl, yk1, ydn⟩
 have ycc : ∀ c ∈ (["Design"] : List Str), FldOk K c "readers" := by
  intro c hc
  simp only [List.mem_cons, List.not_mem_nil, or_false] at hc
  subst hc
  ·exact ⟨_, ydl, yk1, ycl⟩
 have ye0 : ∀ c ∈ (["Design"] : List Str), FldOk K c "kinds" := by
  intro c hc
  simp only [List.mem_cons, List.not_mem_nil, or_false] at hc
  subst hc
  ·exact ⟨_, ydl, yk1, ye2⟩
 have kw_Kind_str : PySem.W.kitOne K Ya3 Ycu = some false := kt_tyb (T := "str") rfl kz_Kind_str
 have kw_Kind_tuple : PySem.W.kitOne K Ya3 Yce = some false := kt_tyb (T := "tuple") rfl kz_Kind_tuple
 have kw_Kind_list : PySem.W.kitOne K Ya3 Yes = some false := kt_tyb (T := "list") rfl kz_Kind_list
 have kw_Kind_int : PySem.W.kitOne K Ya3 Yfb = some false := kt_tyb (T := "int") rfl kz_Kind_int
 have yo0 : PySem.W.kitOne K Yex Ya3 = some false := kt_of ycz ty_Kind ydp rfl
 have kt_bool_Kind : PySem.W.kitOne K (.type "bool") Ya3 = some false := kt_of ycz ty_Kind ks_bool_Kind rfl
 have kt_int_Kind : PySem.W.kitOne K Yfb Ya3 = some false := kt_of ycz ty_Kind ks_int_Kind rfl
 have kt_str_Kind : PySem.W.kitOne K Ycu Ya3 = some false := kt_of ycz ty_Kind ks_str_Kind rfl
 have kt_list_Kind : PySem.W.kitOne K Yes Ya3 = some false := kt_of ycz ty_Kind ks_list_Kind rfl
 have kt_tuple_Kind : PySem.W.kitOne K Yce Ya3 = some false := kt_of ycz ty_Kind ks_tuple_Kind rfl
 have kw_Reader_str : PySem.W.kitOne K Yau Ycu = some false := kt_tyb (T := "str") rfl kz_Reader_str
 have kw_Reader_tuple : PySem.W.kitOne K Yau Yce = some false := kt_tyb (T := "tuple") rfl kz_Reader_tuple
 have kw_Reader_list : PySem.W.kitOne K Yau Yes = some false := kt_tyb (T := "list") rfl kz_Reader_list
 have kw_Reader_int : PySem.W.kitOne K Yau Yfb = some false := kt_tyb (T := "int") rfl kz_Reader_int
 have ynv : PySem.W.kitOne K Yex Yau = some false := kt_of ybc ty_Reader ycd rfl
 have kt_bool_Reader : PySem.W.kitOne K (.type "bool") Yau = some false := kt_of ybc ty_Reader ks_bool_Reader rfl
 have kt_int_Reader : PySem.W.kitOne K Yfb Yau = some false := kt_of ybc ty_Reader ks_int_Reader rfl
 have kt_str_Reader : PySem.W.kitOne K Ycu Yau = some false := kt_of ybc ty_Reader ks_str_Reader rfl
 have kt_list_Reader : PySem.W.kitOne K Yes Yau = some false := kt_of ybc ty_Reader ks_list_Reader rfl
 have kt_tuple_Reader : PySem.W.kitOne K Yce Yau = some false := kt_of ybc ty_Reader ks_tuple_Reader rfl
 have kr_Kind_Reader : PySem.W.kitOne K Ya3 Yau = some false := kt_of ybc ty_Reader sb_Kind_Reader (ne_of ne_Kind_Reader)
 have kr_Reader_Kind : PySem.W.kitOne K Yau Ya3 = some false := kt_of ycz ty_Kind sb_Reader_Kind (ne_of ne_Reader_Kind)
 have hT : IsTab K zcv := by
  refine ⟨fun t c b tv cv h ht hc => ?_, fun c d b C h n => ?_⟩
  ·unfold zcv at h
   split at h
   ·cases ht
    cases hc
    exact kit_ty h
   ·split at h
    ·rename_i a a2 e
     cases h
     obtain ⟨rfl, e⟩ := e
     obtain ⟨C1, rfl, n1⟩ := ht
     obtain ⟨C2, rfl, n2⟩ := hc
     cases n1.inj n2
     rcases e with rfl | rfl
     ·cases n1.inj yaf
      simp [PySem.W.kitOne]
     ·cases n1.inj yz
      simp [PySem.W.kitOne]
    ·split at h
     ·rename_i a a2 _ e
      cases h
      obtain ⟨C1, rfl, n1⟩ := ht
      obtain ⟨C2, rfl, n2⟩ := hc
      rcases e with ⟨rfl, rfl⟩ | ⟨rfl, rfl⟩
      ·cases n1.inj yaf
       cases n2.inj yz
       exact kr_Kind_Reader
      ·cases n1.inj yz
       cases n2.inj yaf
       exact kr_Reader_Kind
     ·cases h
   ·split at h
    ·rename_i a a2 e
     cases h
     obtain ⟨e, e2⟩ := e
     obtain ⟨C1, rfl, n1⟩ := ht
     cases hc
     rcases e with rfl | rfl
     ·cases n1.inj yaf
      rcases e2 with rfl | rfl | rfl | rfl
      ·exact kw_Kind_str
      ·exact kw_Kind_tuple
      ·exact kw_Kind_list
      ·exact kw_Kind_int
     ·cases n1.inj yz
      rcases e2 with rfl | rfl | rfl | rfl
      ·exact kw_Reader_str
      ·exact kw_Reader_tuple
      ·exact kw_Reader_list
      ·exact kw_Reader_int
    ·cases h
   ·split at h
    ·rename_i a a2 e
     cases h
     obtain ⟨e, e2⟩ := e
     cases ht
     obtain ⟨C2, rfl, n2⟩ := hc
     rcases e with rfl | rfl | rfl | rfl | rfl | rfl
     ·rcases e2 with rfl | rfl
      ·cases n2.inj yaf
       exact yo0
      ·cases n2.inj yz
       exact ynv
     ·rcases e2 with rfl | rfl
      ·cases n2.inj yaf
       exact kt_bool_Kind
      ·cases n2.inj yz
       exact kt_bool_Reader
     ·rcases e2 with rfl | rfl
      ·cases n2.inj yaf
       exact kt_int_Kind
      ·cases n2.inj yz
       exact kt_int_Reader
     ·rcases e2 with rfl | rfl
      ·cases n2.inj yaf
       exact kt_str_Kind
      ·cases n2.inj yz
       exact kt_str_Reader
     ·rcases e2 with rfl | rfl
      ·cases n2.inj yaf
       exact kt_list_Kind
      ·cases n2.inj yz
       exact kt_list_Reader
     ·rcases e2 with rfl | rfl
      ·cases n2.inj yaf
       exact kt_tuple_Kind
      ·cases n2.inj yz
       exact kt_tuple_Reader
    ·cases h
  ·rcases d with d | d
   ·simp only [zcv] at h
    split at h
    ·rename_i e
     rcases e.1 with rfl | rfl
     ·cases n.inj yaf
      exact ⟨yhy, ia_Kind, ih, it, im_Kind⟩
     ·cases n.inj yz
      exact ⟨ych, ia_Reader, ih, it, im_Reader⟩
    ·cases h
   ·simp only [zcv] at h
    split at h
    ·rename_i e
     obtain ⟨rfl, e⟩ := e
     rcases e with rfl | rfl
     ·cases n.inj yaf
      exact ⟨yhy, ia_Kind, ih, it, im_Kind⟩
     ·cases n.inj yz
      exact ⟨ych, ia_Reader, ih, it, im_Reader⟩
    ·split at h
     ·rename_i _ e
      rcases e with ⟨rfl, rfl⟩ | ⟨rfl, rfl⟩
      ·cases n.inj yaf
       exact ⟨yhy, ia_Kind, ih, it, im_Kind⟩
      ·cases n.inj yz
       exact ⟨ych, ia_Reader, ih, it, im_Reader⟩
     ·cases h
 have ykd : OexC K yb := ⟨⟨_, _, _, _, _, _, _, _, _, _, _, _, _, _, _, ydq, ydr⟩, ycm, ya5, ybw, yds⟩
 have yke : XIni l.prog K yb y7 "InvalidDesign.__init__" "word" (defArgs (inClass (topS 5) 0)) (defBody (inClass (topS 5) 0)) (defScope (inClass (topS 5) 0)) Yp := ⟨ykd, ⟨_, _, _, _, _, _, _, _, _, _, _, _, _, _, _, _, _, _, _, rfl, ydy, ydz, yd0, yd1, yd2, yd3⟩, ybx, yby, yd4, yd5, yd6, xsup, xany, ybk, xtop⟩
 have ya : ∀ base : Heap, XF l.prog w K mg base "InvalidDesign" yb y7 Yp ["self", "word"] "word" := fun base => ⟨ykd, ybx, yby, ybv, xini_ok yke ⟨rfl, rfl, rfl, rfl, rfl, rfl, rfl, rfl, rfl, by decide +kernel, by decide, by decide⟩ Yfs, xini_hot yke ⟨rfl, rfl, rfl, rfl, rfl, rfl, rfl, rfl, rfl, by decide +kernel, by decide, by decide⟩ Yfs, PySem.W.mg_of KX G ybv, .all fun us hl => match us, hl with | [_, _], _ => rfl, exm_self ya5 ycn ybw yco⟩
 have yme : OexC K yg := ⟨⟨_, _, _, _, _, _, _, _, _, _, _, _, _, _, _, yfi, yfj⟩, ye6, yc0, ybp, yfk⟩
 have ymf : XIni l.prog K yg ya2 "InvalidKind.__init__" "word" (defArgs (inClass (topS 3) 0)) (defBody (inClass (topS 3) 0)) (defScope (inClass (topS 3) 0)) Yr := ⟨yme, ⟨_, _, _, _, _, _, _, _, _, _, _, _, _, _, _, _, _, _, _, rfl, yfq, yfr, yfs, yft, yfu, yfv⟩, yc1, yc2, yfw, yfx, yfy, xsup, xany, ye7, xtop⟩
 have yx : ∀ base : Heap, XF l.prog w K mg base "InvalidKind" yg ya2 Yr ["self", "word"] "word" := fun base => ⟨yme, yc1, yc2, yk, xini_ok ymf ⟨rfl, rfl, rfl, rfl, rfl, rfl, rfl, rfl, rfl, by decide +kernel, by decide, by decide⟩ Yfs, xini_hot ymf ⟨rfl, rfl, rfl, rfl, rfl, rfl, rfl, rfl, rfl, by decide +kernel, by decide, by decide⟩ Yfs, PySem.W.mg_of KX G yk, .all fun us hl => match us, hl with | [_, _], _ => rfl, exm_self yc0 ye8 ybp ye9⟩
 have ykf : OexC K yd := ⟨⟨_, _, _, _, _, _, _, _, _, _, _, _, _, _, _, yd7, yd8⟩, ycp, yb0, ya7, yd9⟩
 have ykg : XIni l.prog K yd yau "InvalidReader.__init__" "word" (defArgs (inClass (topS 4) 0)) (defBody (inClass (topS 4) 0)) (defScope (inClass (topS 4) 0)) Yq := ⟨ykf, ⟨_, _, _, _, _, _, _, _, _, _, _, _, _, _, _, _, _, _, _, rfl, yef, yeg, yeh, yei, yej, yek⟩, yb1, yb2, yel, yem, yen, xsup, xany, ycq, xtop⟩
 have yi : ∀ base : Heap, XF l.prog w K mg base "InvalidReader" yd yau Yq ["self", "word"] "word" := fun base => ⟨ykf, yb1, yb2, yh, xini_ok ykg ⟨rfl, rfl, rfl, rfl, rfl, rfl, rfl, rfl, rfl, by decide +kernel, by decide, by decide⟩ Yfs, xini_hot ykg ⟨rfl, rfl, rfl, rfl, rfl, rfl, rfl, rfl, rfl, by decide +kernel, by decide, by decide⟩ Yfs, PySem.W.mg_of KX G yh, .all fun us hl => match us, hl with | [_, _], _ => rfl, exm_self yb0 ycr ya7 ycs⟩
 have yf : XcF K yb := ⟨yct, ycu, ya5, ycv, ycw, ih, it, ycx⟩
 have y1 := ybk
 have yae := PySem.W.mg_of KX G yh
 have yas := PySem.W.mg_of KX G yk
 have yat := PySem.W.mg_of KX G yn
 have ym := kt_ofb ycy ya7 yai (ne_ofb yaj)
 have yo := kt_ofb yfa ybp yao (ne_ofb yap)
 have yp := kt_ofb yfb yfz yaq (ne_ofb yar)
 have yht := PySem.W.mg_of KX G w_MOST_LETTERS
 have ydh := PySem.W.mg_of KX G w_MOST_DIGITS_scripts
 have yh7 := PySem.W.mg_of KX G w_LEAST_ROUND
 have ynh := PySem.W.mg_of KX G w_LETTERS
 have you := PySem.W.mg_of KX G w_DIGITS
 have yot := PySem.W.mg_of KX G w_BARRED
 have yhu := PySem.W.mg_of KX G w_WRITER_WORDS
 have yhv := PySem.W.mg_of KX G w_READER_WORDS
 have yeo := PySem.W.mg_none_of KX G yqi
 have yc := PySem.W.mg_none_of KX G yg2
 have ygi := PySem.W.mg_none_of KX G yqj
 have yq := PySem.W.mg_none_of KX G yqk
 have y0 := PySem.W.mg_none_of KX G yn5
 have yqs := PySem.W.mg_none_of KX G yo1
 have ygj := PySem.W.mg_none_of KX G yql
 have yce := PySem.W.mg_none_of KX G yqm
 have yqq := PySem.W.mg_none_of KX G yqn
 have yqz := PySem.W.mg_none_of KX G yo2
 have yov := PySem.W.mg_none_of KX G ymj
 have yn8 := PySem.W.mg_none_of KX G yn6
 have yri := PySem.W.mg_none_of KX G yqo
 have yrj := PySem.W.mg_none_of KX G yqp
 have yak := PySem.W.mg_of KX G ygu.1
 have yal := ygu.2.kp
 have yp8 := ygu.2
 have y3 := PySem.W.mg_of KX G yb8.1
 have y4 := yb8.2.kp
 have ym8 := yb8.2
 have yks := PySem.W.mg_of KX G ygv.1
 have ykt := ygv.2.kp
 have yp9 := ygv.2
 have yf5 := PySem.W.mg_of KX G yf2.1
 have yf6 := yf2.2.kp
 have ypm := yf2.2
 have ypl : Mk K yj ad_Kind_init := ⟨yn3, yeu.1, yeu.2.1, yn4⟩
 have yon := yeu.2.2
 have yk5 := PySem.W.mg_of KX G yev.1
 have yk6 := yev.2.kp
 have yoo := yev.2
 have yku := PySem.W.mg_of KX G ygw.1
 have ykv := ygw.2.kp
 have yqa := ygw.2
 have ykw := PySem.W.mg_of KX G ygx.1
 have ykx := ygx.2.kp
 have yqb := ygx.2
 have ymm := PySem.W.mg_of KX G yf3.1
 have ymn := yf3.2.kp
 have ypn := yf3.2
 have ymv : Mk K ye ad_Reader_init := ⟨ykq, at_Reader_init, fn_Reader_init, ykr⟩
 have dt_Reader_init : ∀ s, RwL K s (([.tup []] : List T).map W.t) [V.ref e_Reader_init] := fun s => ⟨V.ref e_Reader_init, [], rfl, by simp only [Rw, Rf]; exact ⟨e_Reader_init, [], rfl, .inr ⟨eo_Reader_init, #[], en_Reader_init, el_Reader_init, ec_Reader_init, ed_Reader_init, ea_Reader_init, by simp, .nil⟩, rfl⟩, rfl⟩
 have ym9 : FunD K "__init__" "Reader.__init__" (defArgs y2) (defBody y2) (defScope y2) [V.ref e_Reader_init] [] ad_Reader_init Yaj := ⟨⟨yhl, yhm, (.ref ybi), yc4, yc5, yc6, yc8, ybt, yc7, sl_Reader_init, rfl, ygc, ygd, .inr ⟨by simp, ybi, to_Reader_init, [.ref e_Reader_init], tn_Reader_init, rfl, t_Reader_init, u_Reader_init, .cons rfl .nil⟩, .inl rfl⟩, yge⟩
 have yoy := PySem.W.mg_of KX G yhn.1
 have yoz := yhn.2.kp
 have yq3 := yhn.2
 have yci := PySem.W.mg_of KX G yho.1
 have ycj := yho.2.kp
 have yq4 := yho.2
 have ylb := yg3.me
 have ypo := yg3.2.2
 have yh5 := yfd.me
 have ynw := yfd.2.2
 have ya9 := PySem.W.mg_of KX G yhp.1
 have yba := yhp.2.kp
 have yq5 := yhp.2
 have ymt := PySem.W.mg_of KX G yhq.1
 have ymu := yhq.2.kp
 have yq6 := yhq.2
 have yg9 := PySem.W.mg_of KX G ybh.1
 have yha := ybh.2.kp
 have yk2 := ybh.2
 have ycg := PySem.W.mg_of KX G ygy.1
 have yru := ygy.2.kp
 have ybo := ygy.2
 have ydj := PySem.W.mg_of KX G yc9.1
 have ydk := yc9.2.kp
 have ynx := yc9.2
 have ylh := PySem.W.mg_of KX G yew.1
 have yli := yew.2.kp
 have yop := yew.2
 have yid := PySem.W.mg_of KX G yb9.1
 have yie := yb9.2.kp
 have yna := yb9.2
 have yj5 := PySem.W.mg_of KX G yda.1
 have yj6 := yda.2.kp
 have yny := yda.2
 have ymr := PySem.W.mg_of KX G yf4.1
 have yms := yf4.2.kp
 have ypp := yf4.2
 have yj9 := PySem.W.mg_of KX G ydb.1
 have yka := ydb.2.kp
 have ynz := ydb.2
 have yck : Mk K y9 ad_Design_init := ⟨ykl, at_Design_init, fn_Design_init, ykm⟩
 have dt_Design_init : ∀ s, RwL K s (([.tup []] : List T).map W.t) [V.ref e_Design_init] := fun s => ⟨V.ref e_Design_init, [], rfl, by simp only [Rw, Rf]; exact ⟨e_Design_init, [], rfl, .inr ⟨eo_Design_init, #[], en_Design_init, el_Design_init, ec_Design_init, ed_Design_init, ea_Design_init, by simp, .nil⟩, rfl⟩, rfl⟩
 have ynb : FunD K "__init__" "Design.__init__" (defArgs y6) (defBody y6) (defScope y6) [V.ref e_Design_init] [] ad_Design_init Yak := ⟨⟨yhr, yhs, (.ref ybj), ydc, ydd, yde, ydg, ybu, ydf, sl_Design_init, rfl, ygf, ygg, .inr ⟨by simp, ybj, to_Design_init, [.ref e_Design_init], tn_Design_init, rfl, t_Design_init, u_Design_init, .cons rfl .nil⟩, .inl rfl⟩, ygh⟩
 have ya0 := ya4.me
 have yhf := ya4.2.2
 have yrr := yn7.2
 have yad := yp8.bindsN (ps := ["value"]) fun _ _ _ _ _ _ us hl => match us, hl with | [_], _ => rfl
 have yig := yp9.bindsN (ps := ["value", "words"]) fun _ _ _ _ _ _ us hl => match us, hl with | [_, _], _ => rfl
 have yu := ym8.bindsN (ps := ["value"]) fun _ _ _ _ _ _ us hl => match us, hl with | [_], _ => rfl
 have yey := ypm.bindsN (ps := ["value", "words"]) fun _ _ _ _ _ _ us hl => match us, hl with | [_, _], _ => rfl
 have yj1 := yoo.bindsN (ps := ["word", "digits"]) fun _ _ _ _ _ _ us hl => match us, hl with | [_, _], _ => rfl
 have yii := yqa.bindsN (ps := ["word", "deeds"]) fun _ _ _ _ _ _ us hl => match us, hl with | [_, _], _ => rfl
 have yik := yqb.bindsN (ps := ["value", "deeds"]) fun _ _ _ _ _ _ us hl => match us, hl with | [_, _], _ => rfl
 have yk8 := ypn.bindsN (ps := ["value", "deeds"]) fun _ _ _ _ _ _ us hl => match us, hl with | [_, _], _ => rfl
 have ybn := yq4.bindsN (ps := ["_law_deal_here", "_law_wide"]) fun _ _ _ _ _ _ us hl => match us, hl with | [_, _], _ => rfl
 have yay := yq5.bindsN (ps := ["_law_deal_here", "_law_some"]) fun _ _ _ _ _ _ us hl => match us, hl with | [_, _], _ => rfl
 have yj2 := ynw.bindsN (ps := ["self"]) fun _ _ _ _ _ _ us hl => match us, hl with | [_], _ => rfl
 have ymp := ypo.bindsN (ps := ["self"]) fun _ _ _ _ _ _ us hl => match us, hl with | [_], _ => rfl
 have ycb := ynx.bindsN (ps := ["names"]) fun _ _ _ _ _ _ us hl => match us, hl with | [_], _ => rfl
 have yh9 := yny.bindsN (ps := ["value"]) fun _ _ _ _ _ _ us hl => match us, hl with | [_], _ => rfl
 have ylf := ypp.bindsN (ps := ["value"]) fun _ _ _ _ _ _ us hl => match us, hl with | [_], _ => rfl
 have yib := ynz.bindsN (ps := ["value"]) fun _ _ _ _ _ _ us hl => match us, hl with | [_], _ => rfl
 have yhx := yna.bindsN (ps := ["value"]) fun _ _ _ _ _ _ us hl => match us, hl with | [_], _ => rfl
 have ykc := yop.bindsN (ps := ["value"]) fun _ _ _ _ _ _ us hl => match us, hl with | [_], _ => rfl
 have yah : Binds K Yak ["self", "kinds", "readers", "rounds"] [] := by
  obtain ⟨ds, r, b⟩ := ynb.binds1 (ps := ["self", "kinds", "readers", "rounds"]) 4 1 Ycc Ycc fun T kV doc pm an cdv ct us its hu hi => match us, hu, its, hi with | [_, _, _, _], _, [_], _ => ⟨_, rfl, rfl⟩
  cases r
  exact b
 have ybl := ybo.bindsN (ps := ["_law_work"]) fun _ _ _ _ _ _ us hl => match us, hl with | [_], _ => rfl
 have ygr := yk2.bindsN (ps := ["_law_deal_here"]) fun _ _ _ _ _ _ us hl => match us, hl with | [_], _ => rfl
 have yk0 := yq6.bindsN (ps := ["_law_deal_here", "_law_good", "_law_twin"]) fun _ _ _ _ _ _ us hl => match us, hl with | [_, _, _], _ => rfl
 have ynu := yq3.bindsN (ps := ["_law_script", "_law_base"]) fun _ _ _ _ _ _ us hl => match us, hl with | [_, _], _ => rfl
 have ya1 := yhf.bindsN (ps := ["self", "counter", "size"]) fun _ _ _ _ _ _ us hl => match us, hl with | [_, _, _], _ => rfl
 have yf8 : Binds K Yaj ["self", "name", "steps", "checks"] [.ref e_Reader_init] := by
  obtain ⟨ds, r, b⟩ := ym9.binds1 (ps := ["self", "name", "steps", "checks"]) 3 0 Ycc Ycc fun T kV doc pm an cdv ct us its hu hi => match us, hu, its, hi with | [_, _, _], _, [_], _ => ⟨_, rfl, rfl⟩
  cases r with
  | cons a z =>
   cases z
   cases (show _ = Value.ref e_Reader_init from a)
   exact b
 have yhc := yon.bindsN (ps := ["self", "name", "steps"]) fun _ _ _ _ _ _ us hl => match us, hl with | [_, _, _], _ => rfl
 have yac := fun base : Heap => yq7 (P := l.prog) (w := w) (mg := mg) (base := base) yp8 yeo yc ygi yq yht ynh hT yot lk_BARRED ygs ygt oa_BARRED or_BARRED oz_BARRED
 have yt := fun base : Heap => yo8 (P := l.prog) (w := w) (mg := mg) (base := base) ym8 yc y0 yqs hT
 have yif := fun base : Heap => yq8 (P := l.prog) (w := w) (mg := mg) (base := base) yp9 yq yc ygi (yac base) yak yal yad hT
 have yex := fun base : Heap => yqt (P := l.prog) (w := w) (mg := mg) (base := base) ypm yq ygj y0 (yif base) yks ykt yig (yt base) y3 y4 yu
 have yhb := fun base : Heap => yqd (P := l.prog) (w := w) (mg := mg) (base := base) yon y0 yq (yex base) yf5 yf6 yey (yac base) yak yal yad yez yan y5 (yx base) yhu lk_WRITER_WORDS ybd ybe oa_WRITER_WORDS or_WRITER_WORDS oz_WRITER_WORDS
 have yj0 := fun base : Heap => yqf (P := l.prog) (w := w) (mg := mg) (base := base) yoo yce yq yeo you
 have yih := fun base : Heap => yra (P := l.prog) (w := w) (mg := mg) (base := base) yqa yq ydh (yj0 base) yk5 yk6 yj1
 have yij := fun base : Heap => yrb (P := l.prog) (w := w) (mg := mg) (base := base) yqb yq yc ygi (yih base) yku ykv yii hT
 have yk7 := fun base : Heap => yqu (P := l.prog) (w := w) (mg := mg) (base := base) ypn yq ygj y0 (yij base) ykw ykx yik (yt base) y3 y4 yu
 have yf7 := fun base : Heap => ypc (P := l.prog) (w := w) (mg := mg) (base := base) ym9 y0 (yk7 base) ymm ymn yk8 (yex base) yf5 yf6 yey (yac base) yak yal yad yk9 yez yb4 yan y5 (yi base) yhv lk_READER_WORDS ybf ybg oa_READER_WORDS or_READER_WORDS oz_READER_WORDS
 have ynt := fun base : Heap => yrc (P := l.prog) (w := w) (mg := mg) (base := base) yq3 yce yqq
 have ybm := fun base : Heap => yrd (P := l.prog) (w := w) (mg := mg) (base := base) yq4 yce
 have yla := fun base : Heap => yqv (P := l.prog) (w := w) (mg := mg) (base := base) ypo y5 yan
 have yh4 := fun base : Heap => ypq (P := l.prog) (w := w) (mg := mg) (base := base) ynw yq y5 yb4 yan
 have yax := fun base : Heap => yrf (P := l.prog) (w := w) (mg := mg) (base := base) yq5 yq (ybm base) yci ycj ybn
 have ykz := fun base : Heap => yrg (P := l.prog) (w := w) (mg := mg) (base := base) yq6 ygi yq (yax base) ya9 yba yay (ybm base) yci ycj ybn ybb ydi (yh4 base) (yla base) yh5 ylb yj2 ymp
 have ygq := fun base : Heap => yn9 (P := l.prog) (w := w) (mg := mg) (base := base) yk2 (yax base) ya9 yba yay
 have yca := fun base : Heap => ypr (P := l.prog) (w := w) (mg := mg) (base := base) ynx yq ygj
 have ykb := fun base : Heap => yqg (P := l.prog) (w := w) (mg := mg) (base := base) yop yeo yc (yca base) ydj ydk ycb (yt base) y3 y4 yu ydi y5 hT
 have yhw := fun base : Heap => ypi (P := l.prog) (w := w) (mg := mg) (base := base) yna yeo yc (yca base) ydj ydk ycb (yt base) y3 y4 yu ybb y5 hT
 have yh8 := fun base : Heap => yps (P := l.prog) (w := w) (mg := mg) (base := base) yny yc yqz yce hT
 have yle := fun base : Heap => yq0 (P := l.prog) (w := w) (mg := mg) (base := base) ypp yc y0 yq yh7 (yh8 base) yj5 yj6 yh9 (yac base) yak yal yad hT
 have yia := fun base : Heap => ypt (P := l.prog) (w := w) (mg := mg) (base := base) ynz yq ygj yeo (yt base) y3 y4 yu (yle base) ymr yms ylf
 have yag := fun base : Heap => ypk (P := l.prog) (w := w) (mg := mg) (base := base) ynb y0 yov (yia base) yj9 yka yib (yhw base) yid yie yhx (ykb base) ylh yli ykc yaw ycc ye0 (ya base)
 have yaz := fun base : Heap => ymd (P := l.prog) (w := w) (mg := mg) (base := base) yhf (yac base) yak yal yad yaa (yag base) ycc ye0 yck yaw (ya base) yah
 have LT : LawTab K tL := lawTab_of yn7 hcL lcL okL
 exact ⟨_, c_L, nT, codeHd_of KX lcL okL, LT, fun s v => yrr.bindsA (ps := ["_law_script"]) (fun _ _ _ _ _ _ us hl => match us, hl with | [_], _ => rfl) s [v] rfl, fun base _ _ TB => yrs yrr yn8 yri yrj yq yc y0 hcL TB LT ybo ycg ybl (yax base) ya9 yba yay (ybm base) yci ycj ybn (ygq base) yg9 yha ygr (ykz base) ymt ymu yk0 (ynt base) yoy yoz ynu yaa ybb ydi (yaz base) (yag base) (yf7 base) (yhb base) (ya base) yf yh yae ym yk yas yo yn yat yp y1 ya0 yaw yck ymv ypl ya1 yah dt_Reader_init yf8 yhc⟩
end D
theorem PySem.Challenge.cw_untorn_k09_designs_refused_holds : PySem.Challenge.rw_untorn_k09_designs_refused.Holds :=
 D.early D.all_mk fun h => D.law_is h
