import PyProof.Rows.All
import PySem.Challenge.RW_untorn_k06_readers_refused
import KE.OsRunLaw
import HandS.Head0
import HandS.Head1
import HandS.Head2
import KE.KDictKeyed
import Wide.All
import OpenK.AllK
import Wide.FinOn
import HandS.ForMost
import HandS.Zip
import HandS.Style
import HandS.Star
import KE.DataEq
import KE.GoesEnum
import KE.GoesMore
import HandS.WordsExc
import HandS.Defaults
import HandS.Conv
import HandS.Wide
import HandS.TupAny
import HandS.RaiseMore
import HandS.Strs
import KE.KIndexOf
import HandS.SortInts
import HandS.Dict
import HandS.TryOnly
import HandS.List
import PyProof.ReprRoads
import HandS.Sort
import HandS.WideMore
import KE.SortKeyHeap
import HandS.SortKw
import PyProof.TupleOfSeq
import HandS.DictEq
import KE.KDictPairs
import KE.KDictZip
import PyProof.StrLawsRepr
import HandS.Property
import HandS.ClsMeth
import HandS.ExcInit
import HandS.ExcInitHot
import KE.KExcSuper
import HandS.CallSlots
import HandS.ExcCtx
import HandS.CallLocal
import HandS.SuiteRaise
import HandS.RaiseFrom
import HandS.ExcField
import HandS.ExcIs
import HandS.IsInst
import HandS.Text
import HandS.FStr
import PyProof.Rows.SetFrom
import HandS.SetKeys
import HandS.DictComp
import PyProof.InstSpecial
import HandS.TupSets
import HandS.TupMul
import HandS.Codes
import KE.SortData
import HandS.SetFor
import HandS.SetBool
import HandS.More
import HandS.SetTxt0
import PyProof.Rows.SortShellAny
import KE.KDictDisplayH
import PyProof.DictTable
import KE.KCallOwn
import HandS.ListItems
import HandS.OwnEq
import PyProof.InstNe
import KE.LtData
import KE.KDictSum
import KE.KDictCopyH
import HandS.TryMany
import KE.KExcIs
set_option Elab.async false
set_option linter.all false
set_option maxRecDepth 100000
set_option maxHeartbeats 4000000
set_option autoImplicit false
set_option hygiene false
local macro_rules | `($x:ident) => do
 let .str .anonymous s := x.getId | Lean.Macro.throwUnsupported
 if s.front != 'Y' then Lean.Macro.throwUnsupported
 match s with
 | "Ya" => `((hr.mono (by decide)))
 | "Yb" => `((.Call (.Attribute (.Call (.Name "super" p0) [] [] p1) "__init__" p2) [.Constant (.str txt) j p3] [] p4))
 | "Yc" => `((by omega))
 | "Yd" => `((mC (.int 0)))
 | "Ye" => `((by simp [Rw, Rf]))
 | "Yf" => `((fun s => rfl))
 | "Yg" => `((Aft.refl s))
 | "Yh" => `((mBin wAdd (mBin wAdd (mSl (mVar 1) zbc (zca (mVar 3))) (mApp zaj (zab (zan za0 [] (zab (mVar 0) (zab (mVar 2) (mNil)))) (mNil)))) (mSl (mVar 1) (zca (mVar 3)) zbc)))
 | "Yi" => `((.tup (ds.map dTr)))
 | "Yj" => `((mC (.int 1)))
 | "Yk" => `((L2.CX P w))
 | "Yl" => `((ts.map W.t))
 | "Ym" => `((zab (mVar 2) (mNil)))
 | "Yn" => `((PySem.W.ksFn "__init__" "InvalidReader.__init__" (defArgs (inClass (topS 3) 0)) (defBody (inClass (topS 3) 0)) (defScope (inClass (topS 3) 0)) .none ybu ybv ybw yby (.ref yah) ybx ya1))
 | "Yo" => `((zaf truW (mApp (oIsi zc1) (zab (mVar 0) (zab (mC (.ty "str")) (mNil))))))
 | "Yp" => `((zaa (zae) (zad)))
 | "Yq" => `((zab (zan zau [] (zab (mVar 3) (zab (mVar 1) (mNil)))) (zab (zan zaq [] (zab (mVar 3) (zab (mVar 6) (mNil)))) (mNil))))
 | "Yr" => `((zab (mVar 1) (mNil)))
 | "Ys" => `((by simp_all_arith!))
 | "Yt" => `((SetTable.insertAt es j (hK P w k, Value.ref x)))
 | "Yu" => `((getMethod ov "__init__" (do return (← importBound (.Call (.Name "super" p0) [] [] p1) env).getD true)))
 | "Yv" => `((by decide +kernel))
 | "Yw" => `((mC .non))
 | "Yx" => `((List.mem_cons_self ..))
 | _ => Lean.Macro.throwUnsupported
local macro_rules | `($x:ident) => do
 let .str .anonymous s := x.getId | Lean.Macro.throwUnsupported
 if s.front != 'Y' then Lean.Macro.throwUnsupported
 match s with
 | "Yy" => `((some (.lst (([] : List Int).map wI))))
 | "Yz" => `((NestedKey × Addr × V))
 | "Y0" => `((X.suite a ((a, oe) :: pn)))
 | "Y1" => `((hp.set j (some (.lst (ys.map wI)))))
 | "Y2" => `((.tup ((w0 :: ws).map T.str)))
 | "Y3" => `((.t (.lst ts)))
 | "Y4" => `((zab (mVar 3) (zab (mApp zaj (zab (mC (.str "same 0 2")) (zab (mC (.str "even 0")) (zab (mC (.str "even 3")) (mNil))))) (mNil))))
 | "Y5" => `((some (.lst [.r j, .t (.int ((st * 48271 + 43) % 2147483647))])))
 | "Y6" => `((ds.map fun d => .str (dTx d)))
 | "Y7" => `((.t (.tup ts)))
 | "Y8" => `((.builtin "object.__class__"))
 | "Y9" => `((.scr (ns.map T.int)))
 | "Yaa" => `((zab (mVar 0) (mNil)))
 | "Yab" => `((.Call (.Name x p) (e :: es) [] pos))
 | "Yac" => `((PySem.W.fnOf "__init__" "Reader.__init__" (defArgs yc) (defBody yc) (defScope yc) (.ref yap) ybj ybk ybl ybn yat ybm))
 | "Yad" => `((PySem.W.fnOf x q (defArgs s) (defBody s) (defScope s) .none kV dc pm an cd ct))
 | "Yae" => `((fun _ _ _ _ _ => zb3))
 | "Yaf" => `((model X.prog X.w))
 | "Yag" => `((X.blk s H scope (compEnvC scope cl C X.env) fp))
 | "Yah" => `((eqW true))
 | "Yai" => `((zaa (zac 1) (zad)))
 | "Yaj" => `((mBin (inW true) (mC (.str "read")) (zbq zaj (mSq (mVar 4)) (gT 2 (gsC (gN 6) (gsC (gN 7) gsN))) mYes zaw [6, 7])))
 | "Yak" => `((it_not (it_tru (zcl call_isiA (ok_isi hT) (zaa (zac 0) (zaa (ie_ty yee (by with_unfolding_all rfl)) (zad))) yd))))
 | "Yal" => `((.t (.int i)))
 | _ => Lean.Macro.throwUnsupported
local macro_rules | `($x:ident) => do
 let .str .anonymous s := x.getId | Lean.Macro.throwUnsupported
 if s.front != 'Y' then Lean.Macro.throwUnsupported
 match s with
 | "Yam" => `((hK P w k))
 | "Yan" => `((hp.set j (some (.lst (g2.map wI)))))
 | "Yao" => `((.tup (ws.map T.str)))
 | "Yap" => `((.t (.int (n : Nat))))
 | "Yaq" => `((.t (.int wide)))
 | "Yar" => `((.t .non))
 | "Yas" => `((Nat.le_of_ble_eq_true rfl))
 | "Yat" => `((Value × (Addr → Value → Option Addr → TS)))
 | "Yau" => `((mC (.str "read a")))
 | "Yav" => `((by simp))
 | "Yaw" => `((.Call (.Name "len" p) [.Call (.Name "set" p2) [a] [] q] [] pos))
 | "Yax" => `((zab (mVar 3) (mNil)))
 | "Yay" => `((NestedKey × Addr × Value))
 | "Yaz" => `((A.deeper (envOfC qual (defScope st) s.heap.objs.size f cdv)))
 | "Ya0" => `((fun acc k => if memT k acc = true then acc else acc ++ [k]))
 | "Ya1" => `((("read", "a") : Deed))
 | "Ya2" => `((by simp; omega))
 | "Ya3" => `((.bl false))
 | "Ya4" => `((by first | exact blkOk_by (N := yiq) (sc := defScope yga) (by decide +kernel) | exact blkOk_by (by with_unfolding_all rfl) | exact blkOk_by (by decide +kernel +revert)))
 | "Ya5" => `((hp.objs.size + 1))
 | "Ya6" => `((Addr × List Key))
 | "Ya7" => `((defScope st))
 | "Ya8" => `((zaa (zac 2) (zad)))
 | "Ya9" => `((.t (.lst Fd)))
 | _ => Lean.Macro.throwUnsupported
local macro_rules | `($x:ident) => do
 let .str .anonymous s := x.getId | Lean.Macro.throwUnsupported
 if s.front != 'Y' then Lean.Macro.throwUnsupported
 match s with
 | "Yba" => `((zab (mBin wAdd (mVar 1) (mApp zaj (zab (mC (.str "read q")) (zab (mC (.str "read q")) (mNil))))) (zab (mApp zaj (zab (mC (.str "look c")) (mNil))) (mNil))))
 | "Ybb" => `((s.heap.objs.size + 1))
 | "Ybc" => `((mIf (mOr (zaf asB (mBin Yah (mApp oLen Ym) (mC (.int 2)))) (mOr (zaf asB (mBin (inW true) (mBin ixW (mVar 2) Yd) (mVar 1))) (mNot (zaf truW (zan zbb [] (zab (mBin ixW (mVar 2) Yj) (mNil))))))) (mRet Yw) (zbu)))
 | "Ybd" => `((by decide))
 | "Ybe" => `((zab (zan za0 [] (zab (mVar 0) (zab (mApp zaj (zab Yw (zab Yau (zab (mC (.int 3)) (zab (mApp zce (mNil)) (zab (mApp zaj (mNil)) (zab (mBin ixW (mVar 1) Yd) (mNil)))))))) (mNil)))) (mNil)))
 | "Ybf" => `((zaa (zae) (zaa (zae) (zaa (zae) (zaa (zae) (zaa (zae) (zaa (zae) Yp)))))))
 | "Ybg" => `((zaa (zak (dts := []) (dvs := []) ya3 Ya hgd (by rfl) ya8 ya9 ya4 .nil Yf zaz (zaa (zac 3) (zaa (zac 6) (zad)))) (zad)))
 | "Ybh" => `((.Call (.Name "super" p0) [] [] p1))
 | "Ybi" => `((zar (st_raise rfl (L2N.takes_of rfl rfl rfl rfl) (xc_cold yb.T yb.iC yb.tI yb.cn yb.ok Ya yb.bd rfl yb.mg Yp))))
 | "Ybj" => `((mBin ixW (mVar 0) Yd))
 | "Ybk" => `((mBin ixW (mVar 2) Yd))
 | "Ybl" => `((zbk (zbk (zb4 (zac 1) io_none (zcb (zac 3))) (zas (zaa (zak (dts := []) (dvs := []) yz Ya hgd (by rfl) y8 y9 y0 .nil Yf zaz (zaa (zac 0) Ya8)) (zad)))) (zb4 (zac 1) (zcb (zac 3)) io_none)))
 | "Ybm" => `((zab Yh (zab (mBin wAdd (mVar 1) (mApp zaj (zab (mC (.str "even 2")) (zab (mC (.str "even 2")) (mNil))))) (zab Yw (zab (mC (.str "even 0")) (zab (mC (.int 3)) (mNil)))))))
 | "Ybn" => `((mBin Yah (zan zam [] (zab (mVar 5) (zab (mVar 1) (zab (mApp zaj (zab (zan F_w_any [] (zab (mVar 3) (zab (mC (.int 6)) (mNil)))) (mNil))) (mNil))))) (mC (.str "checks"))))
 | "Ybo" => `((fun _ _ _ _ _ => zak (dts := []) (dvs := []) ycl (hr.mono (Nat.le_refl _)) hgd (by rfl) yd5 yd6 yc7 .nil Yf hG (zaa (zac 0) (zaa (ie_sub (zac 1) (zah)) (zad)))))
 | "Ybp" => `((.t (.int j)))
 | "Ybq" => `((zan zam [] (zab (mC (.str "r")) (zab (mApp zaj (zab Yau (zab (mC (.str "look a")) (mNil)))) (zab (mApp zaj (zab (mC (.str "even 1")) (mNil))) (mNil))))))
 | "Ybr" => `((ev_eqs.trans rfl))
 | "Ybs" => `((mBin Yah (zan zam [] (zab (mVar 5) (zab (mApp zaj (zab Yau (mNil))) (zab (mApp zaj (zab (mC (.str "even 0")) (mNil))) (mNil))))) (mC (.str "checks"))))
 | "Ybt" => `((model P w))
 | "Ybu" => `((eqW false))
 | "Ybv" => `((za5 3 hN (zak (dts := []) (dvs := []) yg Ya hgd (by rfl) yj yk yh .nil Yf zaz (zaa (zac 0) (zaa (zbk (zcl call_len zc3 Yai ye) (zah)) (zad))))))
 | "Ybw" => `((zcs (it_not (it_tru (zak (dts := []) (dvs := []) yav Ya hgd (by rfl) ya6 ya7 yaw .nil Yf za9 (zaa (zac 0) (zad))))) (zar (zay (za4))) (zbr)))
 | "Ybx" => `((mBin Yah (zan zam [] (zab (mVar 5) (zab (mVar 1) (zab (zan zaq [] (zab (mVar 3) (zab (mVar 6) (mNil)))) (mNil))))) (mC (.str "checks"))))
 | _ => Lean.Macro.throwUnsupported
local macro_rules | `($x:ident) => do
 let .str .anonymous s := x.getId | Lean.Macro.throwUnsupported
 if s.front != 'Y' then Lean.Macro.throwUnsupported
 match s with
 | "Yby" => `((.lst xs))
 | "Ybz" => `((fun t ht => zc4 (List.all_eq_true.mp a t ht)))
 | "Yb0" => `((starEach es X.env))
 | "Yb1" => `((PySem.HandSPX.excO C hp.objs.size))
 | "Yb2" => `((zap (zac 0) (zah)))
 | "Yb3" => `((e :: es))
 | "Yb4" => `((.str ⟨#[c]⟩))
 | "Yb5" => `((.ref ya))
 | "Yb6" => `((zaa (zah) (zad)))
 | "Yb7" => `((zaf asB (mBin (isN true) (zan zam [] (zab (mVar 5) (zab (mApp oTup Yr) (zab (mApp oTup (zab (mVar 6) (mNil))) (mNil))))) Yw)))
 | "Yb8" => `((fun _ _ _ _ _ => its_one ((iw_and (it_notN (zac 5) (za4)) (iw_and1 (it_eq hu (zap (zac 5) (zah)) (zap (zac 1) (zah))))).it)))
 | "Yb9" => `((pe_var (X := X.suite a ((a, oe) :: pn)) (i := i) hN hv hd hcd))
 | "Yca" => `((zaf truW (zan zav [] Yaa)))
 | "Ycb" => `((mOr (zaf asB (mBin Yah (mApp oLen Yax) (mC (.int 2)))) (zaf asB (mBin iGe (mBin ixW (mVar 3) Yd) (mBin ixW (mVar 3) Yj)))))
 | "Ycc" => `((fun _ => wq_raise rfl ⟨rfl, rfl, rfl⟩))
 | "Ycd" => `((w0 :: ws))
 | "Yce" => `((fun _ _ => rfl))
 | "Ycf" => `((starEach [.Constant (.str txt) j p3] env))
 | "Ycg" => `((ds.map dTr))
 | "Ych" => `((mBin (inW false) (mVar 0) (mC (.tup ((["if", "bump", "even", "kind", "look", "read", "same"] : List Str).map T.str)))))
 | "Yci" => `((some (.lst ((ys ++ [y / wide]).map wI))))
 | "Ycj" => `((((zcd ks).length : Nat) : Int))
 | "Yck" => `((by simp only [List.length_cons]; omega))
 | "Ycl" => `((fun v H2 => v = .non ∧ Q (.ref x) H2))
 | _ => Lean.Macro.throwUnsupported
local macro_rules | `($x:ident) => do
 let .str .anonymous s := x.getId | Lean.Macro.throwUnsupported
 if s.front != 'Y' then Lean.Macro.throwUnsupported
 match s with
 | "Ycm" => `((.r hp.length))
 | "Ycn" => `((ns.map V.int))
 | "Yco" => `((mMakeX "Reader" za2 [] (zab (mVar 0) (zab (mVar 1) Ym))))
 | "Ycp" => `((.lst (ps.map T.str)))
 | "Ycq" => `((.bl true))
 | "Ycr" => `((sqT b ts))
 | "Ycs" => `((mBin Ybu (mBin ixW (mBin ixW (mVar 1) (mBin ixW (mVar 3) Yd)) Yj) (mBin ixW (mBin ixW (mVar 1) (mBin ixW (mVar 3) Yj)) Yj)))
 | "Yct" => `((mRet (mApp zce (zab Ybk (zab (mBin ixW (mVar 2) Yj) (mNil))))))
 | "Ycu" => `((mBin Ybu (mBin ixW (mVar 5) Yd) (mBin ixW (mVar 1) Yd)))
 | "Ycv" => `((G5 ++ [.str "read q", .str "read q"]))
 | "Ycw" => `((fun _ _ _ _ _ => zak (dts := []) (dvs := []) yef Ya hgd (by rfl) yfp yfq yeg .nil Yf za9 (zaa (zac 4) Yai)))
 | "Ycx" => `((fun _ _ _ _ _ => zak (dts := []) (dvs := []) yeh Ya hgd (by rfl) yfr yfs yei .nil Yf za9 (zaa (zac 4) Yai)))
 | "Ycy" => `((fun _ _ _ _ _ => zak (dts := []) (dvs := []) yej Ya hgd (by rfl) yft yfu yek .nil Yf za9 (zaa (zac 3) Yai)))
 | "Ycz" => `((("self" : Str), Value.ref e))
 | "Yc0" => `((q.mono fun _ _ q => Wp.ok q))
 | "Yc1" => `((.nx eta))
 | "Yc2" => `((cxOf CX P w K mg base N qual Ya7 f cdv A outer s H E))
 | "Yc3" => `((fun r s' => r = .ok (.ret (.bool true)) ∧ OldK s1.heap s'.heap ∧ s'.os = s1.os ∧ AllBare s'.gens))
 | "Yc4" => `((mApp oInt (zab (mBin wAdd (mBin wMul (mBin ixW (mVar 0) Yj) (mC (.int 48271))) (mC (.int 43))) (mNil))))
 | "Yc5" => `((Sum.inr : Str → Key))
 | "Yc6" => `((zct (by rw [List.length_map]; omega) ⟨rfl, rfl⟩))
 | "Yc7" => `((fun _ _ _ _ _ => zcl call_abs ok_abs (zaa (ie_bt call_int1 ok_int (zaa (zac 4) (zad)) ycg) (zad)) yjh))
 | "Yc8" => `((Option Value))
 | "Yc9" => `((zaa (zak (dts := []) (dvs := []) ych Ya hgd (by rfl) ycy ycz yci .nil Yf zaz (zaa (zac 3) Yai)) Ybg))
 | _ => Lean.Macro.throwUnsupported
local macro_rules | `($x:ident) => do
 let .str .anonymous s := x.getId | Lean.Macro.throwUnsupported
 if s.front != 'Y' then Lean.Macro.throwUnsupported
 match s with
 | "Yda" => `((t_const fun s => by simp [Rw, Rf]))
 | "Ydb" => `((List Key × T))
 | "Ydc" => `((List.mem_cons_of_mem _ hu))
 | "Ydd" => `((zan zam [] (zab (mC (.str "r")) (zab (mApp zaj (zab Yau (mNil))) (zab (mApp zce (mNil)) (mNil))))))
 | "Yde" => `((zar (zay (ie_bl))))
 | "Ydf" => `((zap (zac 3) (zah)))
 | "Ydg" => `((.lst [.str "read a"]))
 | "Ydh" => `((.ListComp elt [⟨tg, iter, ifs, 0⟩] scope pos))
 | "Ydi" => `((zaf asB (mBin (isN true) (zan zam [] (zab (mVar 5) (zab (mVar 1) (zab (mVar 6) (mNil))))) Yw)))
 | "Ydj" => `((F eta hp))
 | "Ydk" => `((Addr × Obj))
 | "Ydl" => `((.t (.bl b)))
 | "Ydm" => `((fun z => by cases z))
 | "Ydn" => `((fun e => by cases e))
 | "Ydo" => `((eta.set i (some a)))
 | "Ydp" => `((fun _ _ _ => False))
 | "Ydq" => `((List Key × V))
 | "Ydr" => `((Key × W))
 | "Yds" => `((ws.map some ++ List.replicate (nn - n) none))
 | "Ydt" => `((some (.builtin "getset_descriptor.__get__")))
 | "Ydu" => `((.lst G5))
 | "Ydv" => `((zbq zaj (mSq (mSl (mVar 0) (zca (mVar 1)) (zca (mC (.int 62))))) (gN 4) mYes zc5 [4]))
 | "Ydw" => `((mBin (inW false) Yw (mVar 2)))
 | "Ydx" => `((RwL.of_trees.mp l))
 | _ => Lean.Macro.throwUnsupported
local macro_rules | `($x:ident) => do
 let .str .anonymous s := x.getId | Lean.Macro.throwUnsupported
 if s.front != 'Y' then Lean.Macro.throwUnsupported
 match s with
 | "Ydy" => `((isN false))
 | "Ydz" => `((sqT bc (cs.map T.str)))
 | "Yd0" => `((zaa (zac 3) (zad)))
 | "Yd1" => `((zap (zac 2) (zah)))
 | "Yd2" => `((zaf truW (mApp oAll (zab (zbq zaj (mStrI (mVar 0)) (gN 2) mYes zbh [2]) (mNil)))))
 | "Yd3" => `((fun _ (a b : Bool) => a = b))
 | "Yd4" => `((.lst ts))
 | "Yd5" => `((fun _ (x y : Bool) => x = y))
 | "Yd6" => `((zaf asB (mBin Yah Ybj (mApp zaj (mNil)))))
 | "Yd7" => `((zab (mVar 2) (zab (mC (.tup ((["read", "look"] : List Str).map T.str))) (mNil))))
 | "Yd8" => `((gsC (gN 6) (gsC (gN 7) gsN)))
 | "Yd9" => `((za7 u1 (fun _ => za8 (vc_c (vc_rt ⟨_, rfl, rfl, rfl⟩))) fun z => by cases z))
 | "Yea" => `((Str × V))
 | "Yeb" => `((eval o X.env))
 | "Yec" => `((.ref cda))
 | "Yed" => `(("self" : Str))
 | "Yee" => `((PySem.W.fnOf x x (defArgs s) (defBody s) (defScope s) .none kV dc pm an cd ct))
 | "Yef" => `(((["if", "bump", "even", "kind", "look", "read", "same"] : List Str).map V.str))
 | "Yeg" => `((mSet 3 (zan za3 [] (zab (mVar 0) (zab (mBin wAdd (mApp oLen Yr) Yj) (mNil))))))
 | "Yeh" => `((mSrc rng1 (zab (zan za3 [] (zab (mVar 0) (zab (mC (.int 3)) (mNil)))) (mNil))))
 | "Yei" => `((zcl call_len zc3 (zaa (zac 0) (zad)) ye))
 | "Yej" => `((Obj.putSet Yt t2))
 | "Yek" => `((PySem.W.kxs_mw "ValueError.__init__" e))
 | "Yel" => `((i _ _ _ hw))
 | _ => Lean.Macro.throwUnsupported
local macro_rules | `($x:ident) => do
 let .str .anonymous s := x.getId | Lean.Macro.throwUnsupported
 if s.front != 'Y' then Lean.Macro.throwUnsupported
 match s with
 | "Yem" => `((Nat.le_refl _))
 | "Yen" => `((cutL ts lo hi))
 | "Yeo" => `((some (.builtin "ValueError.__init__")))
 | "Yep" => `((some (.ref a)))
 | "Yeq" => `((by with_unfolding_all rfl))
 | "Yer" => `((List.mem_cons_of_mem _ hb))
 | "Yes" => `((zab (mVar 4) (mNil)))
 | "Yet" => `((mRet (mC Ya3)))
 | "Yeu" => `((.lst (cs.map T.int)))
 | "Yev" => `((Nat.lt_of_sub_eq_succ rfl))
 | "Yew" => `((fun h => by cases h))
 | "Yex" => `((spM K w za3 2))
 | "Yey" => `((Str × W))
 | "Yez" => `((.t (.str a)))
 | "Ye0" => `((.ExceptHandler (some (.Name x np)) (some n) (b₀ :: suite) pos' :: hds))
 | "Ye1" => `((xs ++ [.str "even 2", .str "even 2"]))
 | "Ye2" => `((zar (zay (za4))))
 | "Ye3" => `((m (.r s.hp.length :: (ws ++ dts.map W.t)) (s.hp ++ [some (.ins c [])])))
 | "Ye4" => `((mBin Ybu (mBin ixW (mBin ixW (mVar 1) (mVar 2)) Yd) (mC (.str "look"))))
 | "Ye5" => `((eta.set i (some w)))
 | "Ye6" => `((by rw [wipe_length]; simpa using hl))
 | "Ye7" => `((Nat.lt_succ_self _))
 | "Ye8" => `((.lst [.str "read a", .str "look a"]))
 | "Ye9" => `((.t (.tup [.str (ds.getD n ("", "")).1, .str (ds.getD n ("", "")).2])))
 | _ => Lean.Macro.throwUnsupported
local macro_rules | `($x:ident) => do
 let .str .anonymous s := x.getId | Lean.Macro.throwUnsupported
 if s.front != 'Y' then Lean.Macro.throwUnsupported
 match s with
 | "Yfa" => `((.ins C dx []))
 | "Yfb" => `((.r h1.length :: (ws ++ ds.map W.t)))
 | "Yfc" => `((Int × Value))
 | "Yfd" => `((mSq (mVar 2)))
 | "Yfe" => `((.str (dTx d)))
 | "Yff" => `((.ref yf))
 | "Yfg" => `((zaa (zae) Yp))
 | "Yfh" => `(((List.range (j - i).toNat).map fun k => W.t (.int (i + (k : Nat)))))
 | "Yfi" => `((eta.set i none))
 | "Yfj" => `((.int (k : Nat)))
 | "Yfk" => `((by simpa using hl))
 | "Yfl" => `((.frz o (.lst Ycn)))
 | "Yfm" => `((fun _ (a b : Option Int) => a = b))
 | "Yfn" => `((xs.map W.t))
 | "Yfo" => `((defBody st))
 | "Yfp" => `((mMeth isL oAppend Ybj (zab (mBin iDiv (mVar 2) (mVar 1)) (mNil))))
 | "Yfq" => `((.t (.bl (if neg then !decide (x ∈ l) else decide (x ∈ l)))))
 | "Yfr" => `((.Name x pos))
 | "Yfs" => `((fun e p => e.set p.1 (some p.2)))
 | "Yft" => `((L2.CX X.prog X.w))
 | "Yfu" => `((s3.addF p' (.lst (cutV xs l u))))
 | "Yfv" => `((l.map T.str))
 | "Yfw" => `((.type "function"))
 | "Yfx" => `((.ref x :: (vs ++ dvs)))
 | _ => Lean.Macro.throwUnsupported
local macro_rules | `($x:ident) => do
 let .str .anonymous s := x.getId | Lean.Macro.throwUnsupported
 if s.front != 'Y' then Lean.Macro.throwUnsupported
 match s with
 | "Yfy" => `((.builtin "isinstance"))
 | "Yfz" => `((.type "BaseException"))
 | "Yf0" => `((way t.mask Yam n))
 | "Yf1" => `((mC (.str "even")))
 | "Yf2" => `((mBin Yah Ybk (mC (.str "same"))))
 | "Yf3" => `((.t (.lst Ycg)))
 | "Yf4" => `((.t (.str n)))
 | "Yf5" => `((by rw [oLen_l, List.length_map]))
 | "Yf6" => `((.int (if i < 0 then -i else i)))
 | "Yf7" => `((q.mono fun _ _ q => Wp.bind (q.mono fun _ _ q => Wp.bind q)))
 | "Yf8" => `((zaf asB (mChain iLe iLe Yj (mApp oLen Yaa) (mC (.int (4))))))
 | "Yf9" => `((mBin Yah (zan zam [] (zab (mVar 5) Yq)) (mC (.str "steps"))))
 | "Yga" => `(((mSeq Ybc Yct : M Fl) [w0, some (.t Yao), some (.t Ycp)] []))
 | "Ygb" => `((.t (.bl (if neg then !decide (i = j) else decide (i = j)))))
 | "Ygc" => `((.t (.lst (xs ++ ys))))
 | "Ygd" => `((.t (.bl (if neg then !decide (b = c) else decide (b = c)))))
 | "Yge" => `((.ins c (putA f v fs)))
 | "Ygf" => `((zca (zan za3 [] (zab (mVar 3) (zab (mC (.int 4)) (mNil))))))
 | "Ygg" => `((mBin Yah (zan zam [] (zab (mVar 7) Yq)) (mC (.str "name"))))
 | "Ygh" => `((.lst [.str "even 0"]))
 | _ => Lean.Macro.throwUnsupported
set_option hygiene true
namespace Mir
open PySem PySem.Spec L2
open PyProof.Rows hiding St
/-- a frozen value as a tree -/
inductive T where
 | non | bl (b : Bool) | int (i : Int) | str (s : Str) | ty (n : String)
 | tup (xs : List T) | lst (xs : List T) | scr (xs : List T) | pr (xs : List T)
 | dic (ks : List Key) (vs : List T) | ins (c : Str) (ns : List Str) (vs : List T)
 | cls (c : Str) | dit (ks : List (List Key)) (vs : List T) | exc (c : Str) (ns : List Str) (vs : List T)
/-- a value: a tree, or a live cell -/
inductive W where
 | t (x : T) | r (i : Nat)
inductive Cell where
 | lst (xs : List W)
 | dic (kvs : List (Key × W))
 | ins (c : Str) (fs : List (Str × W))
 | dit (kvs : List (T × W))
 | tpl (ws : List W)
 /-- a dict keyed by nested tuples, locked for good -/
 | dil (kvs : List (T × W))
def Cell.alive : Cell → Prop
 | .dil _ => False
 | _ => True
abbrev IH := List (Option Cell)
structure Ex where
 cls : Str
 fs : List Yey
inductive Res (A : Type) where
 | ok (a : A) (h : IH) | er (e : Ex) (eta : List (Option W)) (h : IH) | bad
abbrev IS := List (Option W)
abbrev M (A : Type) := IS → IH → Res A
def Res.bind {A B : Type} (r : Res A) (k : A → IH → Res B) : Res B := match r with
 | .ok a h => k a h
 | .er e eta h => .er e eta h
 | .bad => .bad
/-- the state of the relation -/
structure S4 where
 rho : List Addr
 fz : Addr → Prop
 hp : IH
 H : Hp
def KTup (K : PySem.W.Frag) (a : Addr) (xs : List V) : Prop :=
 ∃ (o : Obj) (its : Array Value) (n : Nat), K.lookup a = some o ∧ o.cls = .type "tuple" ∧ o.dict = none ∧ o.data = .seq its n ∧ its.size ≤ sizeLine ∧ Vals xs its.toList
def KLst (K : PySem.W.Frag) (a : Addr) (xs : List V) : Prop :=
 ∃ (o : Obj) (its : Array Value) (n : Nat), K.lookup a = some o ∧ o.cls = .type "list" ∧ o.dict = none ∧ o.data = .seq its n ∧ its.size ≤ sizeLine ∧ Vals xs its.toList
def FTup (K : PySem.W.Frag) (fz : Addr → Prop) (H : Hp) (a : Addr) (xs : List V) : Prop := (fz a ∧ ∃ o : Obj, H a = some (.frz o (.tup xs)) ∧ o.dict = none) ∨ KTup K a xs
/-- a pair that a walk lays -/
def FPr (fz : Addr → Prop) (H : Hp) (a : Addr) (xs : List V) : Prop := fz a ∧ H a = some (.tup xs)
/-- a dict whose keys are tuples -/
def FDit (fz : Addr → Prop) (H : Hp) (a : Addr) (kvs : List Ydq) : Prop := fz a ∧ H a = some (.dT kvs)
def FLst (fz : Addr → Prop) (H : Hp) (a : Addr) (xs : List V) : Prop := fz a ∧ H a = some Yby
def FDic (fz : Addr → Prop) (H : Hp) (a : Addr) (kvs : List (Key × V)) : Prop := fz a ∧ ∃ o, H a = some (.frz o (.dK kvs))
def FScr (K : PySem.W.Frag) (fz : Addr → Prop) (H : Hp) (a : Addr) (xs : List V) : Prop := (fz a ∧ ∃ o, H a = some (.frz o Yby)) ∨ KLst K a xs
/-- the class that the module's name c holds -/
def CN (K : PySem.W.Frag) (c : Str) (C : Addr) : Prop := PySem.W.nsIn K mainGlobals c = some (some (.ref C))
/-- a frozen instance -/
def FIns (fz : Addr → Prop) (H : Hp) (a C : Addr) (fs : List Yea) : Prop := fz a ∧ ∃ dx, H a = some (.ins C dx fs)
mutual
def Rf (K : PySem.W.Frag) (fz : Addr → Prop) (H : Hp) : T → V → Prop
 | .non, v => v = .non
 | .bl b, v => v = .bl b
 | .int i, v => v = .int i
 | .str s, v => v = .str s
 | .ty n, v => v = .ty n
 | .tup xs, v => ∃ a vs, v = .ref a ∧ FTup K fz H a vs ∧ RfL K fz H xs vs
 | .lst xs, v => ∃ a vs, v = .ref a ∧ FLst fz H a vs ∧ RfL K fz H xs vs
 | .scr xs, v => ∃ a vs, v = .ref a ∧ FScr K fz H a vs ∧ RfL K fz H xs vs
 | .pr xs, v => ∃ a vs, v = .ref a ∧ FPr fz H a vs ∧ RfL K fz H xs vs
 | .dic ks xs, v => ∃ a vs, v = .ref a ∧ FDic fz H a (ks.zip vs) ∧ ks.length = xs.length ∧ RfL K fz H xs vs
 | .cls c, v => ∃ C, v = .ref C ∧ CN K c C
 | .dit ks xs, v => ∃ a vs, v = .ref a ∧ FDit fz H a (ks.zip vs) ∧ ks.length = xs.length ∧ RfL K fz H xs vs
 | .exc _ _ _, _ => False
 | .ins c ns xs, v => ∃ a C vs, v = .ref a ∧ CN K c C ∧ FIns fz H a C (ns.zip vs) ∧ ns.length = xs.length ∧ RfL K fz H xs vs
def RfL (K : PySem.W.Frag) (fz : Addr → Prop) (H : Hp) : List T → List V → Prop
 | [], vs => vs = []
 | x :: xs, vs => ∃ v r, vs = v :: r ∧ Rf K fz H x v ∧ RfL K fz H xs r
end
def Rw (K : PySem.W.Frag) (s : S4) : W → V → Prop
 | .t x, v => Rf K s.fz s.H x v
 | .r i, v => ∃ a, s.rho[i]? = some a ∧ v = .ref a
def RwL (K : PySem.W.Frag) (s : S4) : List W → List V → Prop
 | [], vs => vs = []
 | x :: xs, vs => ∃ v r, vs = v :: r ∧ Rw K s x v ∧ RwL K s xs r
def RwK (K : PySem.W.Frag) (s : S4) : List Ydr → List (Key × V) → Prop
 | [], vs => vs = []
 | x :: xs, vs => ∃ v r, vs = (x.1, v) :: r ∧ Rw K s x.2 v ∧ RwK K s xs r
def RwF (K : PySem.W.Frag) (s : S4) : List Yey → List Yea → Prop
 | [], vs => vs = []
 | x :: xs, vs => ∃ v r, vs = (x.1, v) :: r ∧ Rw K s x.2 v ∧ RwF K s xs r
mutual
/-- a tree as a key -/
def nkT : T → Option NestedKey
 | .non => some .none
 | .bl b => some (.num (if b = true then 1 else 0))
 | .int i => some (.num i)
 | .str s => some (.text s)
 | .tup xs => (nkTL xs).map .tup
 | .ty _ => none | .lst _ => none | .scr _ => none | .pr _ => none | .dic _ _ => none | .ins _ _ _ => none | .cls _ => none | .dit _ _ => none | .exc _ _ _ => none
def nkTL : List T → Option (List NestedKey)
 | [] => some []
 | x :: xs => match nkT x, nkTL xs with | some k, some ks => some (k :: ks) | _, _ => none
end
/-- a dict whose keys are nested tuples: its entries, by the world's hash -/
def DitO (ω : World) (a : Addr) (xs : List Yz) : HO := .ext fun h => xs.length ≤ sizeLine ∧ (a == sysModules) = false ∧
 ∃ ys : List Yay, Paired (fun (p : NestedKey × Addr × V) (q : NestedKey × Addr × Value) => p.1 = q.1 ∧ p.2.1 = q.2.1 ∧ RelV p.2.2 q.2.2) xs ys ∧ (ys.map (·.1)).Nodup ∧
 ∃ o es ep, h.get? a = some o ∧ o.ExactDict ∧ o.data = .dict es ep ∧ es.toList = ys.map fun y => (⟨y.1.hash ω, .ref y.2.1, y.2.2⟩ : DictEntry)
def RwD (K : PySem.W.Frag) (s : S4) : List (T × W) → List Yz → Prop
 | [], vs => vs = []
 | x :: xs, vs => ∃ k b v r, vs = (k, b, v) :: r ∧ nkT x.1 = some k ∧ k.depth ≤ 8 ∧ Rf K s.fz s.H x.1 (.ref b) ∧ Rw K s x.2 v ∧ RwD K s xs r
def CellOk (K : PySem.W.Frag) (ω : World) (s : S4) (a : Addr) : Cell → Option HO → Prop
 | .lst ws, o => ∃ vs, o = some (.lst vs) ∧ RwL K s ws vs
 | .dic kvs, o => ∃ vs, o = some (.dK vs) ∧ RwK K s kvs vs
 | .ins c fs, o => ∃ C dx vs, o = some (.ins C dx vs) ∧ CN K c C ∧ RwF K s fs vs
 | .dit kvs, o => ∃ xs, o = some (DitO ω a xs) ∧ RwD K s kvs xs
 | .tpl ws, o => ∃ ob vs, o = some (.frz ob (.tup vs)) ∧ ob.dict = none ∧ RwL K s ws vs
 | .dil kvs, o => ∃ ob xs, o = some (.frz ob (DitO ω a xs)) ∧ RwD K s kvs xs
def Live (s : S4) (a : Addr) : Prop := ∃ (i : Nat) (c : Cell), (s.hp[i]? = some (some c) ∧ c.alive) ∧ s.rho[i]? = some a
structure Rel (K : PySem.W.Frag) (ω : World) (s : S4) : Prop where
 len : s.rho.length = s.hp.length
 nd : s.rho.Nodup
 trk : ∀ a ∈ s.rho, s.H a ≠ none
 ftrk : ∀ a, s.fz a → s.H a ≠ none
 fz : ∀ a, Live s a → ¬ s.fz a
 cell : ∀ (i : Nat) (c : Cell) (a : Addr), s.hp[i]? = some (some c) → s.rho[i]? = some a → CellOk K ω s a c (s.H a)
structure Aft (s s' : S4) : Prop where
 pre : ∃ ex, s'.rho = s.rho ++ ex ∧ ∀ a ∈ ex, s.H a = none
 fz : ∀ a, s.fz a → s'.fz a
 keep : ∀ a o, s.H a = some o → ¬ Live s a → s'.H a = some o
 fnew : ∀ a, s'.fz a → s.fz a ∨ s.H a = none ∨ Live s a
 live : ∀ a, Live s' a → Live s a ∨ s.H a = none
 trk : ∀ a, s.H a ≠ none → s'.H a ≠ none
theorem Aft.refl (s : S4) : Aft s s := ⟨⟨[], by simp, by simp⟩, fun _ h => h, fun _ _ h _ => h, fun _ h => .inl h, fun _ h => .inl h, fun _ h => h⟩
theorem Aft.trans {s s1 s2 : S4} (a : Aft s s1) (b : Aft s1 s2) : Aft s s2 := by
 have none_of : ∀ x, s1.H x = none → s.H x = none := fun x h => by
  cases q : s.H x with
  | none => rfl
  | some o => exact absurd h (a.trk x (by rw [q]; intro z; cases z))
 refine ⟨?_, fun x h => b.fz x (a.fz x h), fun x o h nl => ?_, fun x h => ?_, fun x h => ?_, fun x h => b.trk x (a.trk x h)⟩
 ·obtain ⟨e1, p1, q1⟩ := a.pre
  obtain ⟨e2, p2, q2⟩ := b.pre
  refine ⟨e1 ++ e2, by rw [p2, p1, List.append_assoc], fun x hx => ?_⟩
  rcases List.mem_append.mp hx with hx | hx
  ·exact q1 x hx
  ·exact none_of x (q2 x hx)
 ·refine b.keep x o (a.keep x o h nl) fun l => ?_
  rcases a.live x l with l | l
  ·exact nl l
  ·rw [l] at h; cases h
 ·rcases b.fnew x h with h | h | h
  ·exact a.fnew x h
  ·exact .inr (.inl (none_of x h))
  ·rcases a.live x h with h | h
   ·exact .inr (.inr h)
   ·exact .inr (.inl h)
 ·rcases b.live x h with h | h
  ·exact a.live x h
  ·exact .inr (none_of x h)
section
variable {K : PySem.W.Frag} {ω : World} {s s' : S4}
theorem FTup.aft {a : Addr} {xs : List V} (h : FTup K s.fz s.H a xs) (A : Aft s s') (R : Rel K ω s) : FTup K s'.fz s'.H a xs := by
 rcases h with ⟨f, o, h, d⟩ | h
 ·exact .inl ⟨A.fz a f, o, A.keep a _ h fun l => R.fz a l f, d⟩
 ·exact .inr h
theorem FPr.aft {a : Addr} {xs : List V} (h : FPr s.fz s.H a xs) (A : Aft s s') (R : Rel K ω s) : FPr s'.fz s'.H a xs := by
 obtain ⟨f, h⟩ := h
 exact ⟨A.fz a f, A.keep a _ h fun l => R.fz a l f⟩
theorem FDit.aft {a : Addr} {xs : List Ydq} (h : FDit s.fz s.H a xs) (A : Aft s s') (R : Rel K ω s) : FDit s'.fz s'.H a xs := by
 obtain ⟨f, h⟩ := h
 exact ⟨A.fz a f, A.keep a _ h fun l => R.fz a l f⟩
theorem FLst.aft {a : Addr} {xs : List V} (h : FLst s.fz s.H a xs) (A : Aft s s') (R : Rel K ω s) : FLst s'.fz s'.H a xs :=
 ⟨A.fz a h.1, A.keep a _ h.2 fun l => R.fz a l h.1⟩
theorem FDic.aft {a : Addr} {xs : List (Key × V)} (h : FDic s.fz s.H a xs) (A : Aft s s') (R : Rel K ω s) : FDic s'.fz s'.H a xs :=
 let ⟨o, e⟩ := h.2; ⟨A.fz a h.1, o, A.keep a _ e fun l => R.fz a l h.1⟩
theorem FIns.aft {a C : Addr} {fs : List Yea} (h : FIns s.fz s.H a C fs) (A : Aft s s') (R : Rel K ω s) : FIns s'.fz s'.H a C fs :=
 let ⟨dx, e⟩ := h.2; ⟨A.fz a h.1, dx, A.keep a _ e fun l => R.fz a l h.1⟩
theorem FScr.aft {a : Addr} {xs : List V} (h : FScr K s.fz s.H a xs) (A : Aft s s') (R : Rel K ω s) : FScr K s'.fz s'.H a xs :=
 h.imp (fun h => let ⟨o, e⟩ := h.2; ⟨A.fz a h.1, o, A.keep a _ e fun l => R.fz a l h.1⟩) id
mutual
theorem Rf.aft (A : Aft s s') (R : Rel K ω s) : ∀ (x : T) (v : V), Rf K s.fz s.H x v → Rf K s'.fz s'.H x v
 | .non, _, h => by simpa [Rf] using h
 | .bl _, _, h => by simpa [Rf] using h
 | .int _, _, h => by simpa [Rf] using h
 | .str _, _, h => by simpa [Rf] using h
 | .ty _, _, h => by simpa [Rf] using h
 | .cls _, _, h => by simpa [Rf] using h
 | .exc _ _ _, _, h => by simp [Rf] at h
 | .tup xs, v, h => by
  simp only [Rf] at h ⊢
  obtain ⟨a, vs, e, t, l⟩ := h
  exact ⟨a, vs, e, t.aft A R, RfL.aft A R xs vs l⟩
 | .lst xs, v, h => by
  simp only [Rf] at h ⊢
  obtain ⟨a, vs, e, t, l⟩ := h
  exact ⟨a, vs, e, t.aft A R, RfL.aft A R xs vs l⟩
 | .scr xs, v, h => by
  simp only [Rf] at h ⊢
  obtain ⟨a, vs, e, t, l⟩ := h
  exact ⟨a, vs, e, t.aft A R, RfL.aft A R xs vs l⟩
 | .pr xs, v, h => by
  simp only [Rf] at h ⊢
  obtain ⟨a, vs, e, t, l⟩ := h
  exact ⟨a, vs, e, t.aft A R, RfL.aft A R xs vs l⟩
 | .dic ks xs, v, h => by
  simp only [Rf] at h ⊢
  obtain ⟨a, vs, e, t, n, l⟩ := h
  exact ⟨a, vs, e, t.aft A R, n, RfL.aft A R xs vs l⟩
 | .dit ks xs, v, h => by
  simp only [Rf] at h ⊢
  obtain ⟨a, vs, e, t, n, l⟩ := h
  exact ⟨a, vs, e, t.aft A R, n, RfL.aft A R xs vs l⟩
 | .ins c ns xs, v, h => by
  simp only [Rf] at h ⊢
  obtain ⟨a, C, vs, e, cn, t, n, l⟩ := h
  exact ⟨a, C, vs, e, cn, t.aft A R, n, RfL.aft A R xs vs l⟩
theorem RfL.aft (A : Aft s s') (R : Rel K ω s) : ∀ (xs : List T) (vs : List V), RfL K s.fz s.H xs vs → RfL K s'.fz s'.H xs vs
 | [], _, h => by simpa [RfL] using h
 | x :: xs, vs, h => by
  simp only [RfL] at h ⊢
  obtain ⟨v, r, e, a, b⟩ := h
  exact ⟨v, r, e, Rf.aft A R x v a, RfL.aft A R xs r b⟩
end
theorem Rw.aft {w : W} {v : V} (h : Rw K s w v) (A : Aft s s') (R : Rel K ω s) : Rw K s' w v := by
 cases w with
 | t x => exact Rf.aft A R x v h
 | r i =>
  obtain ⟨a, e1, e2⟩ := h
  obtain ⟨ex, p, _⟩ := A.pre
  exact ⟨a, by rw [p, List.getElem?_append_left (List.getElem?_eq_some_iff.mp e1).1]; exact e1, e2⟩
theorem RwL.aft (A : Aft s s') (R : Rel K ω s) : ∀ (ws : List W) (vs : List V), RwL K s ws vs → RwL K s' ws vs
 | [], _, h => h
 | x :: xs, vs, h => by
  obtain ⟨v, r, e, a, b⟩ := h
  exact ⟨v, r, e, a.aft A R, RwL.aft A R xs r b⟩
theorem RwK.aft (A : Aft s s') (R : Rel K ω s) : ∀ (ws : List (Key × W)) (vs : List (Key × V)), RwK K s ws vs → RwK K s' ws vs
 | [], _, h => h
 | x :: xs, vs, h => by
  obtain ⟨v, r, e, a, b⟩ := h
  exact ⟨v, r, e, a.aft A R, RwK.aft A R xs r b⟩
theorem RwF.aft (A : Aft s s') (R : Rel K ω s) : ∀ (ws : List (Str × W)) (vs : List (Str × V)), RwF K s ws vs → RwF K s' ws vs
 | [], _, h => h
 | x :: xs, vs, h => by
  obtain ⟨v, r, e, a, b⟩ := h
  exact ⟨v, r, e, a.aft A R, RwF.aft A R xs r b⟩
theorem RwD.aft (A : Aft s s') (R : Rel K ω s) : ∀ (ws : List (T × W)) (vs : List (NestedKey × Addr × V)), RwD K s ws vs → RwD K s' ws vs
 | [], _, h => h
 | x :: xs, vs, h => by
  obtain ⟨k, b, v, r, e, h1, h2, h3, h4, h5⟩ := h
  exact ⟨k, b, v, r, e, h1, h2, Rf.aft A R _ _ h3, h4.aft A R, RwD.aft A R xs r h5⟩
theorem CellOk.aft {a : Addr} {c : Cell} {o : Option HO} (h : CellOk K ω s a c o) (A : Aft s s') (R : Rel K ω s) : CellOk K ω s' a c o := by
 cases c with
 | lst ws => obtain ⟨vs, e, l⟩ := h; exact ⟨vs, e, RwL.aft A R ws vs l⟩
 | dic kvs => obtain ⟨vs, e, l⟩ := h; exact ⟨vs, e, RwK.aft A R kvs vs l⟩
 | ins c fs => obtain ⟨C, dx, vs, e, cn, l⟩ := h; exact ⟨C, dx, vs, e, cn, RwF.aft A R fs vs l⟩
 | dit kvs => obtain ⟨vs, e, l⟩ := h; exact ⟨vs, e, RwD.aft A R kvs vs l⟩
 | tpl ws => obtain ⟨ob, vs, e, d, l⟩ := h; exact ⟨ob, vs, e, d, RwL.aft A R ws vs l⟩
 | dil kvs => obtain ⟨ob, vs, e, l⟩ := h; exact ⟨ob, vs, e, RwD.aft A R kvs vs l⟩
theorem RwL.length : ∀ {ws : List W} {vs : List V}, RwL K s ws vs → ws.length = vs.length
 | [], _, h => by rw [show _ = [] from h]; rfl
 | x :: xs, vs, h => by
  obtain ⟨v, r, e, a, b⟩ := h
  rw [e, List.length_cons, List.length_cons, RwL.length b]
theorem RfL.length : ∀ {ws : List T} {vs : List V}, RfL K s.fz s.H ws vs → ws.length = vs.length
 | [], _, h => by simp only [RfL] at h; rw [h]; rfl
 | x :: xs, vs, h => by
  simp only [RfL] at h
  obtain ⟨v, r, e, a, b⟩ := h
  rw [e, List.length_cons, List.length_cons, RfL.length b]
theorem RwL.get : ∀ {ws : List W} {vs : List V} {i : Nat} {w : W}, RwL K s ws vs → ws[i]? = some w → ∃ v, vs[i]? = some v ∧ Rw K s w v
 | [], _, _, _, _, h => by simp at h
 | x :: xs, vs, 0, w, h, e => by
  obtain ⟨v, r, e', a, b⟩ := h
  simp at e
  subst e
  exact ⟨v, by rw [e']; rfl, a⟩
 | x :: xs, vs, i + 1, w, h, e => by
  obtain ⟨v, r, e', a, b⟩ := h
  obtain ⟨v', h1, h2⟩ := RwL.get (i := i) (w := w) b (by simpa using e)
  exact ⟨v', by rw [e']; simpa using h1, h2⟩
theorem RfL.get : ∀ {ws : List T} {vs : List V} {i : Nat} {w : T}, RfL K s.fz s.H ws vs → ws[i]? = some w → ∃ v, vs[i]? = some v ∧ Rf K s.fz s.H w v
 | [], _, _, _, _, h => by simp at h
 | x :: xs, vs, 0, w, h, e => by
  simp only [RfL] at h
  obtain ⟨v, r, e', a, b⟩ := h
  simp at e
  subst e
  exact ⟨v, by rw [e']; rfl, a⟩
 | x :: xs, vs, i + 1, w, h, e => by
  simp only [RfL] at h
  obtain ⟨v, r, e', a, b⟩ := h
  obtain ⟨v', h1, h2⟩ := RfL.get (i := i) (w := w) b (by simpa using e)
  exact ⟨v', by rw [e']; simpa using h1, h2⟩
/-- trees among values -/
theorem RwL.of_trees : ∀ {ts : List T} {vs : List V}, RwL K s Yl vs ↔ RfL K s.fz s.H ts vs
 | [], vs => by simp [RwL, RfL]
 | x :: xs, vs => by
  simp only [List.map_cons, RwL, RfL, Rw]
  constructor
  ·rintro ⟨v, r, e, a, b⟩; exact ⟨v, r, e, a, RwL.of_trees.mp b⟩
  ·rintro ⟨v, r, e, a, b⟩; exact ⟨v, r, e, a, RwL.of_trees.mpr b⟩
theorem RwL.append : ∀ {ws ws' : List W} {vs vs' : List V}, RwL K s ws vs → RwL K s ws' vs' → RwL K s (ws ++ ws') (vs ++ vs')
 | [], _, _, _, h, h' => by rw [show _ = [] from h]; exact h'
 | x :: xs, _, vs, _, h, h' => by
  obtain ⟨v, r, e, a, b⟩ := h
  rw [e]
  exact ⟨v, _, rfl, a, RwL.append b h'⟩
theorem FTup.sq {fz : Addr → Prop} {H : Hp} {a : Addr} {xs : List V} (h : FTup K fz H a xs) : SqT K H a xs := by
 rcases h with ⟨_, o, h, _⟩ | ⟨o, its, n, h1, h2, _, h3⟩
 ·exact .inl (.inr ⟨o, h⟩)
 ·exact .inr ⟨o, its, n, h1, h2, h3⟩
theorem FPr.sq {K : PySem.W.Frag} {fz : Addr → Prop} {H : Hp} {a : Addr} {xs : List V} (h : FPr fz H a xs) : SqT K H a xs := .inl (.inl h.2)
theorem FLst.sq {K : PySem.W.Frag} {fz : Addr → Prop} {H : Hp} {a : Addr} {xs : List V} (h : FLst fz H a xs) : SqL K H a xs := .inl (.inl h.2)
theorem FScr.sq {K : PySem.W.Frag} {fz : Addr → Prop} {H : Hp} {a : Addr} {xs : List V} (h : FScr K fz H a xs) : SqL K H a xs := h.elim (fun h => let ⟨o, e⟩ := h.2; .inl (.inr ⟨o, e⟩)) .inr
end
def Sl (K : PySem.W.Frag) (s : S4) (eta : IS) (σ : St) : Prop :=
 eta.length = σ.length ∧ ∀ (i : Nat) (w : W), eta[i]? = some (some w) → ∃ v, σ[i]? = some (some v) ∧ Rw K s w v
theorem Sl.aft {K : PySem.W.Frag} {ω : World} {s s' : S4} {eta : IS} {σ : St} (h : Sl K s eta σ) (A : Aft s s') (R : Rel K ω s) : Sl K s' eta σ :=
 ⟨h.1, fun i w e => let ⟨v, a, b⟩ := h.2 i w e; ⟨v, a, b.aft A R⟩⟩
theorem Sl.set {K : PySem.W.Frag} {s : S4} {eta : IS} {σ : St} {w : W} {v : V} (h : Sl K s eta σ) (i : Nat) (r : Rw K s w v) : Sl K s Ye5 (σ.set i (some v)) := by
 refine ⟨by simp [h.1], fun j u e => ?_⟩
 by_cases hj : i = j
 ·subst hj
  by_cases hl : i < eta.length
  ·rw [List.getElem?_set_self hl] at e
   cases e
   exact ⟨v, by rw [List.getElem?_set_self (by rw [← h.1]; exact hl)], r⟩
  ·rw [List.getElem?_eq_none Yfk] at e
   cases e
 ·rw [List.getElem?_set_ne hj] at e
  obtain ⟨x, a, b⟩ := h.2 j u e
  exact ⟨x, by rw [List.getElem?_set_ne hj]; exact a, b⟩
theorem Sl.wipe {K : PySem.W.Frag} {s : S4} {eta : IS} {σ : St} (h : Sl K s eta σ) : ∀ (vs : List Nat), Sl K s (vs.foldr (fun v e => e.set v none) eta) (wipe σ vs)
 | [] => h
 | v :: vs => by
  have ih := Sl.wipe h vs
  refine ⟨by simp only [List.foldr_cons, L2.wipe, List.length_set]; exact ih.1, fun j u e => ?_⟩
  simp only [List.foldr_cons] at e
  by_cases hj : v = j
  ·subst hj
   by_cases hl : v < (vs.foldr (fun v e => e.set v none) eta).length
   ·rw [List.getElem?_set_self hl] at e; cases e
   ·rw [List.getElem?_eq_none Yfk] at e; cases e
  ·rw [List.getElem?_set_ne hj] at e
   obtain ⟨x, a, b⟩ := ih.2 j u e
   exact ⟨x, by simp only [L2.wipe]; rw [List.getElem?_set_ne hj]; exact a, b⟩
/-- how a raised error lies: its class by name, its fields in its own dict -/
def ExR (K : PySem.W.Frag) (s : S4) (e : Ex) (cls : Value) (d : Option Addr) : Prop :=
 ∃ C, cls = .ref C ∧ CN K e.cls C ∧ ((e.fs = [] ∧ d = none) ∨ ∃ dd vs, d = some dd ∧ s.H dd = some (.xd vs) ∧ RwF K s e.fs vs)
abbrev WX := Value → Option Addr → St → Hp → Prop
def Go {A B : Type} (K : PySem.W.Frag) (ω : World) (Wx : WX) (Fam : S4 → A → B → Prop) (s : S4) (r : Res A) (Q : B → Hp → Prop) : Prop := match r with
 | .ok a hp' => ∀ (b : B) (s' : S4), s'.hp = hp' → Aft s s' → Rel K ω s' → Fam s' a b → Q b s'.H
 | .er e eta' hp' => ∀ (s' : S4) (σ' : St) (cls : Value) (d : Option Addr), s'.hp = hp' → Aft s s' → Rel K ω s' → Sl K s' eta' σ' → ExR K s' e cls d → Wx cls d σ' s'.H
 | .bad => False
section
variable {K : PySem.W.Frag} {ω : World} {Wx : WX} {s s' : S4} {A B C D : Type} {Fam : S4 → A → B → Prop} {Gam : S4 → C → D → Prop}
theorem Go.aft {r : Res A} {Q : B → Hp → Prop} (g : Go K ω Wx Fam s r Q) (a : Aft s s') : Go K ω Wx Fam s' r Q := by
 cases r with
 | ok x hp => exact fun b s2 h1 h2 h3 h4 => g b s2 h1 (a.trans h2) h3 h4
 | er e eta hp => exact fun s2 σ' cls d h1 h2 h3 h4 h5 => g s2 σ' cls d h1 (a.trans h2) h3 h4 h5
 | bad => exact g
theorem Go.mono {r : Res A} {Q Q' : B → Hp → Prop} (g : Go K ω Wx Fam s r Q) (h : ∀ b H, Q b H → Q' b H) : Go K ω Wx Fam s r Q' := by
 cases r with
 | ok x hp => exact fun b s2 h1 h2 h3 h4 => h _ _ (g b s2 h1 h2 h3 h4)
 | er e eta hp => exact g
 | bad => exact g
/-- a run, then more -/
theorem Go.bind {r : Res A} {k : A → IH → Res C} {Q : D → Hp → Prop} {R : B → Hp → Prop} (g : Go K ω Wx Gam s (r.bind k) Q)
  (h : ∀ a b s', Aft s s' → Rel K ω s' → Fam s' a b → r = .ok a s'.hp → Go K ω Wx Gam s' (k a s'.hp) Q → R b s'.H) : Go K ω Wx Fam s r R := by
 cases r with
 | ok x hp =>
  intro b s2 h1 h2 h3 h4
  subst h1
  exact h x b s2 h2 h3 h4 rfl (Go.aft (show Go K ω Wx Gam s (k x s2.hp) Q from g) h2)
 | er e eta hp => exact g
 | bad => exact g
theorem Go.ret {a : A} {b : B} {hp : IH} {Q : B → Hp → Prop} (g : Go K ω Wx Fam s (.ok a hp) Q) (s' : S4) (h1 : s'.hp = hp) (h2 : Aft s s') (h3 : Rel K ω s') (h4 : Fam s' a b) : Q b s'.H := g b s' h1 h2 h3 h4
end
/-- the reading made of a plain function -/
def tM {A B : Type} (K : PySem.W.Frag) (ω : World) (Wx : WX) (Fam : S4 → A → B → Prop) (F : M A) : St → Hp → (B → Hp → Prop) → Prop := fun σ H Q =>
 ∃ (s : S4) (eta : IS), s.H = H ∧ Rel K ω s ∧ Sl K s eta σ ∧ Go K ω Wx Fam s (F eta s.hp) Q
abbrev tE (K : PySem.W.Frag) (ω : World) (Wx : WX) (F : M W) : TE := tM K ω Wx (Rw K) F
abbrev tA (K : PySem.W.Frag) (ω : World) (Wx : WX) (F : M (List W)) : TA := tM K ω Wx (RwL K) F
abbrev tT (K : PySem.W.Frag) (ω : World) (Wx : WX) (F : M Bool) : TT := tM K ω Wx Yd3 F
/-- judgements -/
def IE (X : Cx) (Wx : WX) (e : Expr) (F : M W) : Prop := PE X e (tE X.K X.w Wx F)
def IA (X : Cx) (Wx : WX) (es : List Expr) (F : M (List W)) : Prop := PA X es (tA X.K X.w Wx F)
def IT (X : Cx) (Wx : WX) (e : Expr) (F : M Bool) : Prop := PT X e (tT X.K X.w Wx F)
theorem PE.imp {X : Cx} {e : Expr} {t t' : TE} (h : PE X e t) (i : ∀ σ H Q, t' σ H Q → t σ H Q) : PE X e t' := ⟨fun pins s σ H Q I hw => h.run pins s σ H Q I Yel⟩
theorem PT.imp {X : Cx} {e : Expr} {t t' : TT} (h : PT X e t) (i : ∀ σ H Q, t' σ H Q → t σ H Q) : PT X e t' := ⟨fun pins s σ H Q I hw => h.run pins s σ H Q I Yel⟩
theorem PW.imp {X : Cx} {e : Expr} {t t' : TT} (h : PW X e t) (i : ∀ σ H Q, t' σ H Q → t σ H Q) : PW X e t' := ⟨fun wh pins s σ H Q I hw => h.run wh pins s σ H Q I Yel⟩
theorem PA.imp {X : Cx} {e : List Expr} {t t' : TA} (h : PA X e t) (i : ∀ σ H Q, t' σ H Q → t σ H Q) : PA X e t' := ⟨fun pos pins s σ H Q I hw => h.run pos pins s σ H Q I Yel⟩
theorem PS.imp {X : Cx} {e : Stmt} {t t' : TS} (h : PS X e t) (i : ∀ D σ H, t' D σ H → t D σ H) : PS X e t' := ⟨fun pins s σ H D I hw => h.run pins s σ H D I Yel⟩
theorem PSs.imp {X : Cx} {e : List Stmt} {t t' : TS} (h : PSs X e t) (i : ∀ D σ H, t' D σ H → t D σ H) : PSs X e t' := ⟨fun pins s σ H D I hw => h.run pins s σ H D I Yel⟩
theorem PG.imp {X : Cx} {e : Expr} {t t' : TG} (h : PG X e t) (i : ∀ v σ H Q, t' v σ H Q → t v σ H Q) : PG X e t' := ⟨fun pins s σ H v u Q I r hw => h.run pins s σ H v u Q I r (i _ _ _ _ hw)⟩
theorem PI.imp {X : Cx} {tg e : Expr} {t t' : TI} (h : PI X tg e t) (i : ∀ σ H Q, t' σ H Q → t σ H Q) : PI X tg e t' := ⟨fun pins s σ H Q I hw => h.run pins s σ H Q I Yel⟩
end Mir
namespace Mir
open PySem PySem.Spec L2
open PyProof.Rows hiding St
mutual
def dat : T → PyData
 | .non => .none | .bl b => .bool b | .int i => .int i | .str s => .str s
 | .tup xs => .tuple (datL xs) | .lst xs => .list (datL xs) | .scr _ => .none | .pr _ => .none
 | .ty _ => .none | .dic _ _ => .none | .ins _ _ _ => .none | .cls _ => .none | .dit _ _ => .none | .exc _ _ _ => .none
def datL : List T → List PyData
 | [] => [] | x :: xs => dat x :: datL xs
end
mutual
/-- no dict, no instance; nested at most n deep -/
def fit : T → Nat → Bool
 | .non, _ => true | .bl _, _ => true | .int _, _ => true | .str _, _ => true
 | .tup xs, n => match n with | 0 => false | n + 1 => fitL xs n
 | .lst xs, n => match n with | 0 => false | n + 1 => fitL xs n
 | .scr _, _ => false | .pr _, _ => false | .ty _, _ => false | .dic _ _, _ => false | .ins _ _ _, _ => false | .cls _, _ => false | .dit _ _, _ => false | .exc _ _ _, _ => false
def fitL : List T → Nat → Bool
 | [], _ => true | x :: xs, n => fit x n && fitL xs n
end
mutual
def eqT : T → T → Bool
 | .non, y => match y with | .non => true | _ => false
 | .bl a, y => match y with | .bl b => a == b | .int j => (if a then 1 else 0) == j | _ => false
 | .int i, y => match y with | .bl b => i == (if b then 1 else 0) | .int j => i == j | _ => false
 | .str x, y => match y with | .str z => x == z | _ => false
 | .tup xs, y => match y with | .tup ys => eqTL xs ys | _ => false
 | .lst xs, y => match y with | .lst ys => eqTL xs ys | _ => false
 | .scr _, _ => false | .pr _, _ => false | .ty _, _ => false | .dic _ _, _ => false | .ins _ _ _, _ => false | .cls _, _ => false | .dit _ _, _ => false | .exc _ _ _, _ => false
def eqTL : List T → List T → Bool
 | [], ys => match ys with | [] => true | _ :: _ => false
 | x :: xs, ys => match ys with | [] => false | y :: ys => eqT x y && eqTL xs ys
end
mutual
theorem zcy : ∀ (x : T) (n : Nat), fit x n = true → (dat x).plain = true ∧ (dat x).depth ≤ n
 | .non, n, _ => by simp [dat, PyData.plain, PyData.depth]
 | .bl _, n, _ => by simp [dat, PyData.plain, PyData.depth]
 | .int _, n, _ => by simp [dat, PyData.plain, PyData.depth]
 | .str _, n, _ => by simp [dat, PyData.plain, PyData.depth]
 | .tup xs, 0, h => by simp [fit] at h
 | .tup xs, n + 1, h => by
  have := fit_plainL xs n (by simpa [fit] using h)
  simp only [dat, PyData.plain, PyData.depth]
  exact ⟨this.1, by omega⟩
 | .lst xs, 0, h => by simp [fit] at h
 | .lst xs, n + 1, h => by
  have := fit_plainL xs n (by simpa [fit] using h)
  simp only [dat, PyData.plain, PyData.depth]
  exact ⟨this.1, by omega⟩
 | .ty _, n, h => by simp [fit] at h
 | .scr _, n, h => by simp [fit] at h
 | .pr _, n, h => by simp [fit] at h
 | .dic _ _, n, h => by simp [fit] at h
 | .ins _ _ _, n, h => by simp [fit] at h
 | .cls _, n, h => by simp [fit] at h
 | .dit _ _, n, h => by simp [fit] at h
 | .exc _ _ _, n, h => by simp [fit] at h
theorem fit_plainL : ∀ (xs : List T) (n : Nat), fitL xs n = true → PyData.plainAll (datL xs) = true ∧ PyData.depthAll (datL xs) ≤ n
 | [], n, _ => by simp [datL, PyData.plainAll, PyData.depthAll]
 | x :: xs, n, h => by
  simp only [fitL, Bool.and_eq_true] at h
  have h1 := zcy x n h.1
  have h2 := fit_plainL xs n h.2
  simp only [datL, PyData.plainAll, PyData.depthAll, h1.1, h2.1, Bool.and_self, true_and]
  omega
end
mutual
theorem eqT_dat : ∀ (x y : T) (n m : Nat), fit x n = true → fit y m = true → PyData.eqv (dat x) (dat y) = eqT x y
 | .non, y, n, m, _, hy => by cases y <;> simp_all [dat, PyData.eqv, eqT, fit]
 | .bl a, y, n, m, _, hy => by cases y <;> simp_all [dat, PyData.eqv, eqT, fit]
 | .int i, y, n, m, _, hy => by cases y <;> simp_all [dat, PyData.eqv, eqT, fit]
 | .str x, y, n, m, _, hy => by cases y <;> simp_all [dat, PyData.eqv, eqT, fit]
 | .tup xs, .tup ys, 0, _, h, _ => by simp [fit] at h
 | .tup xs, .tup ys, n + 1, 0, _, h => by simp [fit] at h
 | .tup xs, .tup ys, n + 1, m + 1, hx, hy => by
  simp only [dat, PyData.eqv, eqT]
  exact eqTL_dat xs ys n m (by simpa [fit] using hx) (by simpa [fit] using hy)
 | .lst xs, .lst ys, 0, _, h, _ => by simp [fit] at h
 | .lst xs, .lst ys, n + 1, 0, _, h => by simp [fit] at h
 | .lst xs, .lst ys, n + 1, m + 1, hx, hy => by
  simp only [dat, PyData.eqv, eqT]
  exact eqTL_dat xs ys n m (by simpa [fit] using hx) (by simpa [fit] using hy)
 | .tup xs, .non, _, _, _, _ => by simp [dat, PyData.eqv, eqT]
 | .tup xs, .bl _, _, _, _, _ => by simp [dat, PyData.eqv, eqT]
 | .tup xs, .int _, _, _, _, _ => by simp [dat, PyData.eqv, eqT]
 | .tup xs, .str _, _, _, _, _ => by simp [dat, PyData.eqv, eqT]
 | .tup xs, .lst _, _, _, _, _ => by simp [dat, PyData.eqv, eqT]
 | .tup xs, .ty _, _, _, _, h => by simp [fit] at h
 | .tup xs, .scr _, _, _, _, h => by simp [fit] at h
 | .tup xs, .pr _, _, _, _, h => by simp [fit] at h
 | .tup xs, .dic _ _, _, _, _, h => by simp [fit] at h
 | .tup xs, .ins _ _ _, _, _, _, h => by simp [fit] at h
 | .tup xs, .cls _, _, _, _, h => by simp [fit] at h
 | .tup xs, .dit _ _, _, _, _, h => by simp [fit] at h
 | .tup xs, .exc _ _ _, _, _, _, h => by simp [fit] at h
 | .lst xs, .non, _, _, _, _ => by simp [dat, PyData.eqv, eqT]
 | .lst xs, .bl _, _, _, _, _ => by simp [dat, PyData.eqv, eqT]
 | .lst xs, .int _, _, _, _, _ => by simp [dat, PyData.eqv, eqT]
 | .lst xs, .str _, _, _, _, _ => by simp [dat, PyData.eqv, eqT]
 | .lst xs, .tup _, _, _, _, _ => by simp [dat, PyData.eqv, eqT]
 | .lst xs, .ty _, _, _, _, h => by simp [fit] at h
 | .lst xs, .scr _, _, _, _, h => by simp [fit] at h
 | .lst xs, .pr _, _, _, _, h => by simp [fit] at h
 | .lst xs, .dic _ _, _, _, _, h => by simp [fit] at h
 | .lst xs, .ins _ _ _, _, _, _, h => by simp [fit] at h
 | .lst xs, .cls _, _, _, _, h => by simp [fit] at h
 | .lst xs, .dit _ _, _, _, _, h => by simp [fit] at h
 | .lst xs, .exc _ _ _, _, _, _, h => by simp [fit] at h
 | .ty _, _, _, _, h, _ => by simp [fit] at h
 | .scr _, _, _, _, h, _ => by simp [fit] at h
 | .pr _, _, _, _, h, _ => by simp [fit] at h
 | .dic _ _, _, _, _, h, _ => by simp [fit] at h
 | .ins _ _ _, _, _, _, h, _ => by simp [fit] at h
 | .cls _, _, _, _, h, _ => by simp [fit] at h
 | .dit _ _, _, _, _, h, _ => by simp [fit] at h
 | .exc _ _ _, _, _, _, h, _ => by simp [fit] at h
theorem eqTL_dat : ∀ (xs ys : List T) (n m : Nat), fitL xs n = true → fitL ys m = true → PyData.eqvAll (datL xs) (datL ys) = eqTL xs ys
 | [], [], _, _, _, _ => by simp [datL, PyData.eqvAll, eqTL]
 | [], _ :: _, _, _, _, _ => by simp [datL, PyData.eqvAll, eqTL]
 | _ :: _, [], _, _, _, _ => by simp [datL, PyData.eqvAll, eqTL]
 | x :: xs, y :: ys, n, m, hx, hy => by
  simp only [fitL, Bool.and_eq_true] at hx hy
  simp only [datL, PyData.eqvAll, eqTL, eqT_dat x y n m hx.1 hy.1, eqTL_dat xs ys n m hx.2 hy.2]
end
section
variable {K : PySem.W.Frag} {ω : World} {s : S4}
mutual
theorem Rf.dp : ∀ (x : T) (v : V) (n : Nat), fit x n = true → Rf K s.fz s.H x v → Dp K s.H v (dat x)
 | .non, v, _, _, h => by simp only [Rf] at h; subst h; exact .non
 | .bl b, v, _, _, h => by simp only [Rf] at h; subst h; exact .bl b
 | .int b, v, _, _, h => by simp only [Rf] at h; subst h; exact .int b
 | .str b, v, _, _, h => by simp only [Rf] at h; subst h; exact .str b
 | .tup xs, v, 0, f, _ => by simp [fit] at f
 | .tup xs, v, n + 1, f, h => by
  simp only [Rf] at h
  obtain ⟨a, vs, e, t, l⟩ := h
  subst e
  exact .tup t.sq (RfL.dp xs vs n (by simpa [fit] using f) l)
 | .lst xs, v, 0, f, _ => by simp [fit] at f
 | .lst xs, v, n + 1, f, h => by
  simp only [Rf] at h
  obtain ⟨a, vs, e, t, l⟩ := h
  subst e
  exact .lst t.sq (RfL.dp xs vs n (by simpa [fit] using f) l)
 | .ty _, _, _, f, _ => by simp [fit] at f
 | .scr _, _, _, f, _ => by simp [fit] at f
 | .pr _, _, _, f, _ => by simp [fit] at f
 | .dic _ _, _, _, f, _ => by simp [fit] at f
 | .ins _ _ _, _, _, f, _ => by simp [fit] at f
 | .cls _, _, _, f, _ => by simp [fit] at f
 | .dit _ _, _, _, f, _ => by simp [fit] at f
 | .exc _ _ _, _, _, f, _ => by simp [fit] at f
theorem RfL.dp : ∀ (xs : List T) (vs : List V) (n : Nat), fitL xs n = true → RfL K s.fz s.H xs vs → DpAll K s.H vs (datL xs)
 | [], vs, _, _, h => by simp only [RfL] at h; subst h; exact .nil
 | x :: xs, vs, n, f, h => by
  simp only [fitL, Bool.and_eq_true] at f
  simp only [RfL] at h
  obtain ⟨v, r, e, a, b⟩ := h
  subst e
  exact .cons (Rf.dp x v n f.1 a) (RfL.dp xs r n f.2 b)
end
end
def allT : List W → Option (List T)
 | [] => some []
 | .t x :: ws => (allT ws).map (x :: ·)
 | .r _ :: _ => none
theorem zbt : ∀ {ws : List W} {ts : List T}, allT ws = some ts → ws = ts.map W.t
 | [], ts, h => by simp [allT] at h; subst h; rfl
 | .t x :: ws, ts, h => by
  simp only [allT, Option.map_eq_some_iff] at h
  obtain ⟨r, h1, h2⟩ := h
  subst h2
  rw [zbt h1]
  rfl
 | .r _ :: _, _, h => by simp [allT] at h
/-- a live list's items -/
def getL (hp : IH) (i : Nat) : Option (List W) := match hp[i]? with
 | some (some (.lst ws)) => some ws
 | _ => none
theorem zbs {hp : IH} {i : Nat} {ws : List W} (h : getL hp i = some ws) : hp[i]? = some (some (.lst ws)) := by
 unfold getL at h
 split at h
 ·cases h; assumption
 ·cases h
/-- as a tree (a live list of trees too) -/
def asT (hp : IH) : W → Option T
 | .t x => some x
 | .r i => ((getL hp i).bind allT).map T.lst
section
variable {K : PySem.W.Frag} {ω : World} {s : S4}
/-- where a live list lies -/
theorem Rel.lst (R : Rel K ω s) {i : Nat} {v : V} {ws : List W} (g : getL s.hp i = some ws) (r : Rw K s (.r i) v) : ∃ a vs, v = .ref a ∧ s.rho[i]? = some a ∧ s.H a = some (.lst vs) ∧ RwL K s ws vs ∧ ¬ s.fz a := by
 obtain ⟨a, e1, e2⟩ := r
 obtain ⟨vs, h1, h2⟩ := R.cell i _ a (zbs g) e1
 exact ⟨a, vs, e2, e1, h1, h2, R.fz a ⟨i, _, ⟨zbs g, True.intro⟩, e1⟩⟩
theorem asT_dp (R : Rel K ω s) {w : W} {x : T} {v : V} {n : Nat} (h : asT s.hp w = some x) (r : Rw K s w v) (f : fit x n = true) : Dp K s.H v (dat x) := by
 cases w with
 | t y => simp only [asT, Option.some.injEq] at h; subst h; exact Rf.dp _ v n f r
 | r i =>
  simp only [asT, Option.map_eq_some_iff, Option.bind_eq_some_iff] at h
  obtain ⟨ts, ⟨ws, g, h1⟩, h2⟩ := h
  subst h2
  obtain ⟨a, vs, e, _, e2, l, _⟩ := R.lst g r
  subst e
  cases n with
  | zero => simp [fit] at f
  | succ n =>
   rw [zbt h1] at l
   exact .lst (.inl (.inl e2)) (RfL.dp ts vs n (by simpa [fit] using f) Ydx)
end
section
variable {X : Cx}
def rEqP (K : PySem.W.Frag) : R2 := fun x y H Q => ∃ d e, Dp K H x d ∧ Dp K H y e ∧ d.plain = true ∧ e.plain = true ∧ d.depth ≤ 60 ∧ Q (.bl (PyData.eqv d e)) H
def rNeP (K : PySem.W.Frag) : R2 := fun x y H Q => ∃ d e, Dp K H x d ∧ Dp K H y e ∧ d.plain = true ∧ e.plain = true ∧ d.depth ≤ 60 ∧ Q (.bl (!PyData.eqv d e)) H
theorem op_eqP (hu : X.A.units + 64 < cLine) : OpR X (compareOp .Eq) (rEqP X.K) := by
 intro pins s σ H x y v u Q I rx ry h
 obtain ⟨d, e, hd, he, sd, se, dd, q⟩ := h
 obtain ⟨as, r1⟩ := Dp.reads I d x v hd rx
 obtain ⟨bs, r2⟩ := Dp.reads I e y u he ry
 exact SeqAt.eq_plain r1 r2 sd se (by have : min d.depth e.depth ≤ d.depth := Nat.min_le_left _ _; omega) ⟨.bl _, H, I, rfl, q⟩
theorem op_neP (hu : X.A.units + 64 < cLine) : OpR X (compareOp .NotEq) (rNeP X.K) := by
 intro pins s σ H x y v u Q I rx ry h
 obtain ⟨d, e, hd, he, sd, se, dd, q⟩ := h
 obtain ⟨as, r1⟩ := Dp.reads I d x v hd rx
 obtain ⟨bs, r2⟩ := Dp.reads I e y u he ry
 exact SeqAt.ne_plain r1 r2 sd se (by have : min d.depth e.depth ≤ d.depth := Nat.min_le_left _ _; omega) ⟨.bl _, H, I, rfl, q⟩
/-- x in c: c a list or a tuple of data -/
def rInP (K : PySem.W.Frag) (neg : Bool) : R2 := fun x y H Q => ∃ d e, Dp K H x d ∧ (Dp K H y (.list e) ∨ Dp K H y (.tuple e)) ∧ d.plain = true ∧ PyData.plainAll e = true ∧ d.depth ≤ 60 ∧
 Q (.bl (if neg then !(e.any fun z => PyData.eqv z d) else e.any fun z => PyData.eqv z d)) H
theorem op_inP (hu : X.A.units + 64 < cLine) : OpR X (compareOp .In) (rInP X.K false) := by
 intro pins s σ H x y v u Q I rx ry h
 obtain ⟨d, e, hd, he, sd, se, dd, q⟩ := h
 obtain ⟨as, r1⟩ := Dp.reads I d x v hd rx
 have hm : X.A.units + 1 + min (PyData.depthAll e) d.depth < cLine := by have : min (PyData.depthAll e) d.depth ≤ d.depth := Nat.min_le_right _ _; omega
 rcases he with he | he
 ·obtain ⟨bs, r2⟩ := Dp.reads I _ y u he ry
  exact SeqAt.in_list_data r2 r1 se sd hm ⟨.bl _, H, I, rfl, q⟩
 ·obtain ⟨bs, r2⟩ := Dp.reads I _ y u he ry
  exact SeqAt.in_tuple_data r2 r1 se sd hm ⟨.bl _, H, I, rfl, q⟩
theorem op_ninP (hu : X.A.units + 64 < cLine) : OpR X (compareOp .NotIn) (rInP X.K true) := by
 intro pins s σ H x y v u Q I rx ry h
 obtain ⟨d, e, hd, he, sd, se, dd, q⟩ := h
 obtain ⟨as, r1⟩ := Dp.reads I d x v hd rx
 have hm : X.A.units + 1 + min (PyData.depthAll e) d.depth < cLine := by have : min (PyData.depthAll e) d.depth ≤ d.depth := Nat.min_le_right _ _; omega
 rcases he with he | he
 ·obtain ⟨bs, r2⟩ := Dp.reads I _ y u he ry
  exact SeqAt.notIn_list_data r2 r1 se sd hm ⟨.bl _, H, I, rfl, q⟩
 ·obtain ⟨bs, r2⟩ := Dp.reads I _ y u he ry
  exact SeqAt.notIn_tuple_data r2 r1 se sd hm ⟨.bl _, H, I, rfl, q⟩
end
abbrev Op2 := W → W → IH → Res W
abbrev Op1 := W → IH → Res W
abbrev OpN := List W → IH → Res W
def zco (K : PySem.W.Frag) (ω : World) (Wx : WX) (f : Op2) (r : R2) : Prop := ∀ (s : S4) (a b : W) (x y : V) (Q : VK), Rel K ω s → Rw K s a x → Rw K s b y → Go K ω Wx (Rw K) s (f a b s.hp) Q → r x y s.H Q
def Op1Ok (K : PySem.W.Frag) (ω : World) (Wx : WX) (f : Op1) (r : V → Hp → VK → Prop) : Prop := ∀ (s : S4) (a : W) (x : V) (Q : VK), Rel K ω s → Rw K s a x → Go K ω Wx (Rw K) s (f a s.hp) Q → r x s.H Q
def OpNOk (K : PySem.W.Frag) (ω : World) (Wx : WX) (f : OpN) (r : List V → Hp → VK → Prop) : Prop := ∀ (s : S4) (a : List W) (x : List V) (Q : VK), Rel K ω s → RwL K s a x → Go K ω Wx (Rw K) s (f a s.hp) Q → r x s.H Q
def mBin (f : Op2) (Fa Fb : M W) : M W := fun eta hp => (Fa eta hp).bind fun a h1 => (Fb eta h1).bind fun b h2 => f a b h2
def mUn (f : Op1) (Fa : M W) : M W := fun eta hp => (Fa eta hp).bind fun a h1 => f a h1
def mNil : M (List W) := fun _ hp => .ok [] hp
def zab (Fa : M W) (Fr : M (List W)) : M (List W) := fun eta hp => (Fa eta hp).bind fun a h1 => (Fr eta h1).bind fun r h2 => .ok (a :: r) h2
def mApp (f : OpN) (Fa : M (List W)) : M W := fun eta hp => (Fa eta hp).bind fun a h1 => f a h1
section
variable {X : Cx} {Wx : WX} {a b c e : Expr} {es : List Expr} {Fa Fb Fc F : M W} {Fs : M (List W)} {pos : Pos}
theorem tM.bind1 {A B C D : Type} {K : PySem.W.Frag} {ω : World} {Fam : S4 → A → B → Prop} {Gam : S4 → C → D → Prop} {Fa : M A} {k : A → IS → IH → Res C} {σ : St} {H : Hp} {Q : D → Hp → Prop} {R : B → Hp → Prop}
  (h : tM K ω Wx Gam (fun eta hp => (Fa eta hp).bind fun a h1 => k a eta h1) σ H Q)
  (n : ∀ (s : S4) (eta : IS) (a : A) (b : B), Rel K ω s → Sl K s eta σ → Fam s a b → Go K ω Wx Gam s (k a eta s.hp) Q → R b s.H) : tM K ω Wx Fam Fa σ H R := by
 obtain ⟨s, eta, e1, R1, S1, g⟩ := h
 refine ⟨s, eta, e1, R1, S1, Go.bind g fun a b s' A' R' f _ g' => n s' eta a b R' (S1.aft A' R1) f g'⟩
theorem tM.bind2 {A B C D A' B' : Type} {K : PySem.W.Frag} {ω : World} {Fam : S4 → A → B → Prop} {Fam' : S4 → A' → B' → Prop} {Gam : S4 → C → D → Prop} {Fa : M A} {Fb : M A'} {k : A → A' → IS → IH → Res C} {σ : St} {H : Hp} {Q : D → Hp → Prop} {R : B → B' → Hp → Prop}
  (keep : ∀ s s' a b, Fam s a b → Aft s s' → Rel K ω s → Fam s' a b)
  (h : tM K ω Wx Gam (fun eta hp => (Fa eta hp).bind fun a h1 => (Fb eta h1).bind fun b h2 => k a b eta h2) σ H Q)
  (n : ∀ (s : S4) (eta : IS) (a : A) (b : B) (a' : A') (b' : B'), Rel K ω s → Sl K s eta σ → Fam s a b → Fam' s a' b' → Go K ω Wx Gam s (k a a' eta s.hp) Q → R b b' s.H) : tM K ω Wx Fam Fa σ H fun b H1 => tM K ω Wx Fam' Fb σ H1 fun b' H2 => R b b' H2 := by
 refine tM.bind1 (k := fun a eta h1 => (Fb eta h1).bind fun b h2 => k a b eta h2) h fun s eta a b R1 S1 f g => ?_
 refine ⟨s, eta, rfl, R1, S1, Go.bind g fun a' b' s' A' R' f' _ g' => n s' eta a b a' b' R' (S1.aft A' R1) (keep _ _ _ _ f A' R1) f' g'⟩
theorem Rw.keep {K : PySem.W.Frag} {ω : World} : ∀ (s s' : S4) (a : W) (b : V), Rw K s a b → Aft s s' → Rel K ω s → Rw K s' a b := fun _ _ _ _ h A R => h.aft A R
theorem RwL.keep {K : PySem.W.Frag} {ω : World} : ∀ (s s' : S4) (a : List W) (b : List V), RwL K s a b → Aft s s' → Rel K ω s → RwL K s' a b := fun _ _ _ _ h A R => RwL.aft A R _ _ h
theorem t_bin {f : Op2} {r : R2} (hf : zco X.K X.w Wx f r) : ∀ σ H Q, tE X.K X.w Wx (mBin f Fa Fb) σ H Q → tOp r (tE X.K X.w Wx Fa) (tE X.K X.w Wx Fb) σ H Q := by
 intro σ H Q h
 exact tM.bind2 (R := fun x y H2 => r x y H2 Q) (k := fun a b _ hp => f a b hp) Rw.keep h fun s eta a b a' b' R1 S1 f1 f2 g => hf s a a' b b' Q R1 f1 f2 g
theorem ie_bin {op : Operator} {f : Op2} {r : R2} (ho : OpR X (binaryOp op) r) (hf : zco X.K X.w Wx f r) (ha : IE X Wx a Fa) (hb : IE X Wx b Fb) : IE X Wx (.BinOp a op b pos) (mBin f Fa Fb) :=
 PE.imp (pe_op ho ha hb) (t_bin hf)
theorem ie_cmp {op : CmpOp} {f : Op2} {r : R2} (ho : OpR X (compareOp op) r) (hf : zco X.K X.w Wx f r) (ha : IE X Wx a Fa) (hb : IE X Wx b Fb) (hm : behindInMarks op b = false) : IE X Wx (.Compare a [op] [b] pos) (mBin f Fa Fb) :=
 PE.imp (pe_cmpR ho ha hb hm) (t_bin hf)
theorem ie_un {op : UnaryOp} {f : Op1} {r : V → Hp → VK → Prop} (ho : UnR X (unaryOp op) r) (hf : Op1Ok X.K X.w Wx f r) (ha : IE X Wx a Fa) : IE X Wx (.UnaryOp op a pos) (mUn f Fa) :=
 PE.imp (pe_un ho ha) fun σ H Q h => tM.bind1 (R := fun x H1 => r x H1 Q) (k := fun a _ hp => f a hp) h fun s eta a b R1 _ f1 g => hf s a b Q R1 f1 g
theorem ie_ix {f : Op2} {r : R2} (hr : IxR X r) (hf : zco X.K X.w Wx f r) (ha : IE X Wx a Fa) (hb : IE X Wx b Fb) (hs : PlainIx b) : IE X Wx (.Subscript a b pos) (mBin f Fa Fb) :=
 PE.imp (pe_ix hr ha hb hs) (t_bin hf)
theorem zad : IA X Wx [] mNil := PA.imp pa_nil fun σ H Q h => by
 obtain ⟨s, eta, e1, R1, S1, g⟩ := h
 subst e1
 exact g [] s rfl Yg R1 rfl
theorem zaa (ha : IE X Wx e Fa) (hr : IA X Wx es Fs) (hs : starEach Yb3 X.env = (false, eval e X.env) :: starEach es X.env := by rfl) : IA X Wx Yb3 (zab Fa Fs) :=
 PA.imp (pa_cons ha hr hs) fun σ H Q h => tM.bind2 (R := fun x xs H2 => Q (x :: xs) H2) (k := fun a r _ hp => .ok (a :: r) hp) Rw.keep h fun s eta a b a' b' R1 S1 f1 f2 g => g (b :: b') s rfl Yg R1 ⟨b, b', rfl, f1, f2⟩
/-- *e: a tuple or a list -/
def items (hp : IH) : W → Option (List W)
 | .t (.tup xs) => some Yfn
 | .t (.lst xs) => some Yfn
 | .t (.scr xs) => some Yfn
 | .t _ => none
 | .r i => getL hp i
theorem items_sq {K : PySem.W.Frag} {ω : World} {s : S4} (R : Rel K ω s) {w : W} {v : V} {ws : List W} (h : items s.hp w = some ws) (r : Rw K s w v) : ∃ p xs, v = .ref p ∧ (SqT K s.H p xs ∨ SqL K s.H p xs) ∧ RwL K s ws xs := by
 cases w with
 | t x =>
  cases x with
  | tup xs =>
   simp only [items, Option.some.injEq] at h
   subst h
   obtain ⟨a, vs, e, t, l⟩ : ∃ a vs, v = .ref a ∧ FTup K s.fz s.H a vs ∧ RfL K s.fz s.H xs vs := by simpa only [Rw, Rf] using r
   exact ⟨a, vs, e, .inl t.sq, RwL.of_trees.mpr l⟩
  | lst xs =>
   simp only [items, Option.some.injEq] at h
   subst h
   obtain ⟨a, vs, e, t, l⟩ : ∃ a vs, v = .ref a ∧ FLst s.fz s.H a vs ∧ RfL K s.fz s.H xs vs := by simpa only [Rw, Rf] using r
   exact ⟨a, vs, e, .inr t.sq, RwL.of_trees.mpr l⟩
  | scr xs =>
   simp only [items, Option.some.injEq] at h
   subst h
   obtain ⟨a, vs, e, t, l⟩ : ∃ a vs, v = .ref a ∧ FScr K s.fz s.H a vs ∧ RfL K s.fz s.H xs vs := by simpa only [Rw, Rf] using r
   exact ⟨a, vs, e, .inr t.sq, RwL.of_trees.mpr l⟩
  | _ => simp [items] at h
 | r i =>
  obtain ⟨a, vs, e, _, e2, l, _⟩ := R.lst (show getL s.hp i = some ws from h) r
  exact ⟨a, vs, e, .inr (.inl (.inl e2)), l⟩
def mStar (Fa : M W) (Fr : M (List W)) : M (List W) := fun eta hp => (Fa eta hp).bind fun a h1 => match items h1 a with
 | some ws => (Fr eta h1).bind fun r h2 => .ok (ws ++ r) h2
 | none => .bad
end
section
variable {X : Cx} {Wx : WX} {pos : Pos}
def mVar (i : Nat) : M W := fun eta hp => match eta[i]? with
 | some (some w) => .ok w hp
 | _ => .bad
def mC (x : T) : M W := fun _ hp => .ok (.t x) hp
theorem zac (i : Nat) {x : Str} (hN : X.N[i]? = some x := by rfl) (hv : Vis X.env.scope x := by first | exact Or.inl rfl | exact Or.inr (Or.inl rfl) | exact Or.inr (Or.inr rfl)) (hd : (x == ("__debug__" : Str)) = false := by decide)
  (hcd : (x == ("__classdict__" : Str)) = false := by decide) : IE X Wx Yfr (mVar i) := PE.imp (pe_var hN hv hd hcd) fun σ H Q h => by
 obtain ⟨s, eta, e1, R1, S1, g⟩ := h
 subst e1
 unfold mVar at g
 split at g
 ·rename_i w hw
  obtain ⟨v, h1, h2⟩ := S1.2 i w hw
  exact ⟨v, h1, g v s rfl Yg R1 h2⟩
 ·exact g.elim
theorem t_const {v : V} {x : T} (hx : ∀ s, Rw X.K s (.t x) v) : ∀ σ H Q, tE X.K X.w Wx (mC x) σ H Q → tC v σ H Q := fun σ H Q h => by
 obtain ⟨s, eta, e1, R1, S1, g⟩ := h
 subst e1
 exact g v s rfl Yg R1 (hx s)
theorem zah {i j} : IE X Wx (.Constant (.int i) j pos) (mC (.int i)) := PE.imp pe_int Yda
theorem ie_bl {b j} : IE X Wx (.Constant (.bool b) j pos) (mC (.bl b)) := PE.imp pe_bl Yda
theorem za4 {j} : IE X Wx (.Constant .none j pos) Yw := PE.imp pe_non Yda
theorem zae {x j} : IE X Wx (.Constant (.str x) j pos) (mC (.str x)) := PE.imp pe_str Yda
/-- a module's constant: what stands in the written part -/
def KT (K : PySem.W.Frag) (x : T) (v : V) : Prop := ∀ s, Rw K s (.t x) v
theorem ie_glob {x : Str} {v : V} {u : Value} {t : T} (hg : Gl X x) (hm : X.mg x = some u) (r : RelV v u) (k : KT X.K t v) (hd : (x == ("__debug__" : Str)) = false := by decide) : IE X Wx Yfr (mC t) :=
 PE.imp (pe_glob hg hm r hd) (t_const k)
end
end Mir
namespace Mir
open PySem PySem.Spec L2
open PyProof.Rows hiding St
section
variable {K : PySem.W.Frag} {ω : World} {s : S4}
theorem Rel.fresh (R : Rel K ω s) {p : Addr} (h : s.H p = none) : p ∉ s.rho ∧ ¬ s.fz p := ⟨fun m => R.trk p m h, fun f => R.ftrk p f h⟩
theorem Rel.notlive (R : Rel K ω s) {p : Addr} (h : s.H p = none) : ¬ Live s p := fun ⟨i, c, _, e⟩ => (R.fresh h).1 (List.mem_of_getElem? e)
theorem Rel.liveH (R : Rel K ω s) {i : Nat} {c : Cell} {a : Addr} (h : s.hp[i]? = some (some c)) (e : s.rho[i]? = some a) : s.H a ≠ none := R.trk a (List.mem_of_getElem? e)
/-- a new frozen object -/
def S4.addF (s : S4) (p : Addr) (o : HO) : S4 := ⟨s.rho, fun a => s.fz a ∨ a = p, s.hp, upd s.H p o⟩
theorem zbj (R : Rel K ω s) {p : Addr} {o : HO} (h : s.H p = none) : Aft s (s.addF p o) := by
 refine ⟨⟨[], by simp [S4.addF], by simp⟩, fun a f => .inl f, fun a u e _ => ?_, fun a f => ?_, fun a l => .inl l, fun a e => ?_⟩
 ·show upd s.H p o a = some u
  rw [upd_ne (ne_of_none e h)]; exact e
 ·rcases f with f | f
  ·exact .inl f
  ·exact .inr (.inl (by rw [f]; exact h))
 ·show upd s.H p o a ≠ none
  by_cases q : a = p
  ·rw [q, upd_same]; intro z; cases z
  ·rw [upd_ne q]; exact e
theorem zby (R : Rel K ω s) {p : Addr} {o : HO} (h : s.H p = none) : Rel K ω (s.addF p o) := by
 have A := zbj (o := o) R h
 refine ⟨R.len, R.nd, fun a m => A.trk a (R.trk a m), fun a f => ?_, fun a l f => ?_, fun i c a e1 e2 => ?_⟩
 ·rcases f with f | f
  ·exact A.trk a (R.ftrk a f)
  ·show upd s.H p o a ≠ none
   rw [f, upd_same]; intro z; cases z
 ·rcases f with f | f
  ·exact R.fz a l f
  ·rw [f] at l; exact R.notlive h l
 ·have q := R.cell i c a e1 e2
  have ne : a ≠ p := fun z => R.liveH e1 e2 (by rw [z]; exact h)
  show CellOk K ω (s.addF p o) a c (upd s.H p o a)
  rw [upd_ne ne]
  exact q.aft A R
theorem addF_tup (R : Rel K ω s) {p : Addr} {o : Obj} {ts : List T} {vs : List V} (h : s.H p = none) (d : o.dict = none) (l : RfL K s.fz s.H ts vs) : Rw K (s.addF p (.frz o (.tup vs))) Y7 (.ref p) := by
 have A := zbj (o := .frz o (.tup vs)) R h
 simp only [Rw, Rf]
 exact ⟨p, vs, rfl, .inl ⟨.inr rfl, o, upd_same, d⟩, RfL.aft A R _ _ l⟩
theorem zc7 (R : Rel K ω s) {p : Addr} {ts : List T} {vs : List V} (h : s.H p = none) (l : RfL K s.fz s.H ts vs) : Rw K (s.addF p (.lst vs)) Y3 (.ref p) := by
 have A := zbj (o := .lst vs) R h
 simp only [Rw, Rf]
 exact ⟨p, vs, rfl, ⟨.inr rfl, upd_same⟩, RfL.aft A R _ _ l⟩
/-- a new live cell -/
def S4.addL (s : S4) (p : Addr) (c : Cell) (o : HO) : S4 := ⟨s.rho ++ [p], s.fz, s.hp ++ [some c], upd s.H p o⟩
theorem live_addL (R : Rel K ω s) {p a : Addr} {c : Cell} {o : HO} (l : Live (s.addL p c o) a) : Live s a ∨ a = p := by
 obtain ⟨i, d, ⟨e1, al⟩, e2⟩ := l
 have e1 : (s.hp ++ [some c])[i]? = some (some d) := e1
 have e2 : (s.rho ++ [p])[i]? = some a := e2
 by_cases hi : i < s.hp.length
 ·rw [List.getElem?_append_left hi] at e1
  rw [List.getElem?_append_left (by rw [R.len]; exact hi)] at e2
  exact .inl ⟨i, d, ⟨e1, al⟩, e2⟩
 ·rw [List.getElem?_append_right (by rw [R.len]; omega)] at e2
  have : i - s.rho.length = 0 := by
   have := (List.getElem?_eq_some_iff.mp e2).1
   simp at this
   omega
  rw [this] at e2
  simp at e2
  exact .inr e2.symm
theorem aft_addL (R : Rel K ω s) {p : Addr} {c : Cell} {o : HO} (h : s.H p = none) : Aft s (s.addL p c o) := by
 refine ⟨⟨[p], rfl, by simp [h]⟩, fun a f => f, fun a u e _ => ?_, fun a f => .inl f, fun a l => ?_, fun a e => ?_⟩
 ·show upd s.H p o a = some u
  rw [upd_ne (ne_of_none e h)]; exact e
 ·rcases live_addL R l with l | l
  ·exact .inl l
  ·exact .inr (by rw [l]; exact h)
 ·show upd s.H p o a ≠ none
  by_cases q : a = p
  ·rw [q, upd_same]; intro z; cases z
  ·rw [upd_ne q]; exact e
theorem rel_addL (R : Rel K ω s) {p : Addr} {c : Cell} {o : HO} (h : s.H p = none) (ok : CellOk K ω s p c (some o)) : Rel K ω (s.addL p c o) := by
 have A := aft_addL (c := c) (o := o) R h
 have hp := R.fresh h
 refine ⟨by simp [S4.addL, R.len], ?_, fun a m => ?_, fun a f => A.trk a (R.ftrk a f), fun a l f => ?_, fun i d a e1 e2 => ?_⟩
 ·show (s.rho ++ [p]).Nodup
  refine List.nodup_append.mpr ⟨R.nd, by simp, fun a m b hb => ?_⟩
  simp at hb
  rintro rfl
  exact hp.1 (hb ▸ m)
 ·have m : a ∈ s.rho ++ [p] := m
  rcases List.mem_append.mp m with m | m
  ·exact A.trk a (R.trk a m)
  ·simp at m
   show upd s.H p o a ≠ none
   rw [m, upd_same]; intro z; cases z
 ·rcases live_addL R l with l | l
  ·exact R.fz a l f
  ·exact hp.2 (l ▸ f)
 ·have e1 : (s.hp ++ [some c])[i]? = some (some d) := e1
  have e2 : (s.rho ++ [p])[i]? = some a := e2
  show CellOk K ω (s.addL p c o) a d (upd s.H p o a)
  by_cases hi : i < s.hp.length
  ·rw [List.getElem?_append_left hi] at e1
   rw [List.getElem?_append_left (by rw [R.len]; exact hi)] at e2
   have ne : a ≠ p := fun z => R.liveH e1 e2 (by rw [z]; exact h)
   rw [upd_ne ne]
   exact (R.cell i d a e1 e2).aft A R
  ·have h0 : i = s.hp.length := by
    have := (List.getElem?_eq_some_iff.mp e1).1
    simp at this
    omega
   subst h0
   simp at e1
   rw [List.getElem?_append_right (by rw [R.len]; exact Nat.le_refl _), R.len] at e2
   simp at e2
   subst e1 e2
   rw [upd_same]
   exact ok.aft A R
theorem addL_r (R : Rel K ω s) {p : Addr} {c : Cell} {o : HO} : Rw K (s.addL p c o) (.r s.hp.length) (.ref p) :=
 ⟨p, by show (s.rho ++ [p])[s.hp.length]? = some p; rw [List.getElem?_append_right (by rw [R.len]; exact Nat.le_refl _), R.len]; simp, rfl⟩
/-- a live cell is changed -/
def S4.setL (s : S4) (i : Nat) (a : Addr) (c : Cell) (o : HO) : S4 := ⟨s.rho, s.fz, s.hp.set i (some c), upd s.H a o⟩
theorem live_setL {i : Nat} {a b : Addr} {c c0 : Cell} {o : HO} (h0 : s.hp[i]? = some (some c0)) (l : Live (s.setL i a c o) b) (hv : c0.alive := by exact True.intro) : Live s b := by
 obtain ⟨j, d, ⟨e1, al⟩, e2⟩ := l
 have e1 : (s.hp.set i (some c))[j]? = some (some d) := e1
 by_cases hj : i = j
 ·subst hj
  exact ⟨i, c0, ⟨h0, hv⟩, e2⟩
 ·rw [List.getElem?_set_ne hj] at e1
  exact ⟨j, d, ⟨e1, al⟩, e2⟩
theorem aft_setL (R : Rel K ω s) {i : Nat} {a : Addr} {c c0 : Cell} {o : HO} (h0 : s.hp[i]? = some (some c0)) (ha : s.rho[i]? = some a) (hv : c0.alive := by exact True.intro) : Aft s (s.setL i a c o) := by
 refine ⟨⟨[], by simp [S4.setL], by simp⟩, fun _ f => f, fun b u e nl => ?_, fun _ f => .inl f, fun b l => .inl (live_setL h0 l hv), fun b e => ?_⟩
 ·show upd s.H a o b = some u
  rw [upd_ne (fun z => nl (by rw [z]; exact ⟨i, c0, ⟨h0, hv⟩, ha⟩))]; exact e
 ·show upd s.H a o b ≠ none
  by_cases q : b = a
  ·rw [q, upd_same]; intro z; cases z
  ·rw [upd_ne q]; exact e
theorem rel_setL (R : Rel K ω s) {i : Nat} {a : Addr} {c c0 : Cell} {o : HO} (h0 : s.hp[i]? = some (some c0)) (ha : s.rho[i]? = some a) (ok : CellOk K ω s a c (some o)) (hv : c0.alive := by exact True.intro) : Rel K ω (s.setL i a c o) := by
 have A := aft_setL (c := c) (o := o) R h0 ha hv
 refine ⟨by simp [S4.setL, R.len], R.nd, fun b m => A.trk b (R.trk b m), fun b f => A.trk b (R.ftrk b f), fun b l f => R.fz b (live_setL h0 l hv) f, fun j d b e1 e2 => ?_⟩
 have e1 : (s.hp.set i (some c))[j]? = some (some d) := e1
 show CellOk K ω (s.setL i a c o) b d (upd s.H a o b)
 by_cases hj : i = j
 ·subst hj
  have e2 : s.rho[i]? = some b := e2
  rw [ha] at e2; cases e2
  rw [List.getElem?_set_self (List.getElem?_eq_some_iff.mp h0).1] at e1
  cases e1
  rw [upd_same]
  exact ok.aft A R
 ·rw [List.getElem?_set_ne hj] at e1
  have e2 : s.rho[j]? = some b := e2
  have ne : b ≠ a := fun z => by
   subst z
   exact hj ((List.getElem?_inj (List.getElem?_eq_some_iff.mp ha).1 R.nd).mp (ha.trans e2.symm))
  rw [upd_ne ne]
  exact (R.cell j d b e1 e2).aft A R
/-- a live cell is frozen -/
def S4.frz (s : S4) (i : Nat) (a : Addr) : S4 := ⟨s.rho, fun b => s.fz b ∨ b = a, s.hp.set i none, s.H⟩
theorem live_frz (R : Rel K ω s) {i : Nat} {a b : Addr} (ha : s.rho[i]? = some a) (l : Live (s.frz i a) b) : Live s b ∧ b ≠ a := by
 obtain ⟨j, d, ⟨e1, al⟩, e2⟩ := l
 have e1 : (s.hp.set i none)[j]? = some (some d) := e1
 have e2 : s.rho[j]? = some b := e2
 by_cases hj : i = j
 ·subst hj
  by_cases hl : i < s.hp.length
  ·rw [List.getElem?_set_self hl] at e1; cases e1
  ·rw [List.getElem?_eq_none Yfk] at e1; cases e1
 ·rw [List.getElem?_set_ne hj] at e1
  refine ⟨⟨j, d, ⟨e1, al⟩, e2⟩, fun z => ?_⟩
  subst z
  exact hj ((List.getElem?_inj (List.getElem?_eq_some_iff.mp ha).1 R.nd).mp (ha.trans e2.symm))
theorem aft_frz (R : Rel K ω s) {i : Nat} {a : Addr} {c0 : Cell} (h0 : s.hp[i]? = some (some c0)) (ha : s.rho[i]? = some a) (hv : c0.alive := by exact True.intro) : Aft s (s.frz i a) := by
 refine ⟨⟨[], by simp [S4.frz], by simp⟩, fun _ f => .inl f, fun b u e nl => e, fun b f => ?_, fun b l => .inl (live_frz R ha l).1, fun b e => e⟩
 rcases f with f | f
 ·exact .inl f
 ·exact .inr (.inr (by rw [f]; exact ⟨i, c0, ⟨h0, hv⟩, ha⟩))
theorem rel_frz (R : Rel K ω s) {i : Nat} {a : Addr} {c0 : Cell} (h0 : s.hp[i]? = some (some c0)) (ha : s.rho[i]? = some a) (hv : c0.alive := by exact True.intro) : Rel K ω (s.frz i a) := by
 have A := aft_frz R h0 ha hv
 refine ⟨by simp [S4.frz, R.len], R.nd, R.trk, fun b f => ?_, fun b l f => ?_, fun j d b e1 e2 => ?_⟩
 ·rcases f with f | f
  ·exact R.ftrk b f
  ·rw [f]; exact R.liveH h0 ha
 ·obtain ⟨l1, ne⟩ := live_frz R ha l
  rcases f with f | f
  ·exact R.fz b l1 f
  ·exact ne f
 ·have e1 : (s.hp.set i none)[j]? = some (some d) := e1
  by_cases hj : i = j
  ·subst hj
   rw [List.getElem?_set_self (List.getElem?_eq_some_iff.mp h0).1] at e1; cases e1
  ·rw [List.getElem?_set_ne hj] at e1
   exact (R.cell j d b e1 e2).aft A R
end
/-- a live list of trees becomes a tree -/
def zcf (w : W) (hp : IH) : Res W := match w with
 | .t x => .ok (.t x) hp
 | .r i => match (getL hp i).bind allT with
  | some ts => .ok Y3 (hp.set i none)
  | none => .bad
def mFrz (F : M W) : M W := fun eta hp => (F eta hp).bind fun a h1 => zcf a h1
section
variable {X : Cx} {Wx : WX} {e : Expr} {es : List Expr} {F : M W} {Fs : M (List W)} {pos : Pos}
def zce (ws : List W) (hp : IH) : Res W := match allT ws with
 | some ts => if ts.length ≤ 16777216 then .ok Y7 hp else .bad
 | none => .bad
def zaj (ws : List W) (hp : IH) : Res W := match allT ws with
 | some ts => if ts.length ≤ 16777216 then .ok Y3 hp else .bad
 | none => .bad
def newL (ws : List W) (hp : IH) : Res W := if ws.length ≤ 16777216 then .ok Ycm (hp ++ [some (.lst ws)]) else .bad
section
variable {K : PySem.W.Frag} {ω : World} {s : S4} {ws : List W} {vs : List V} {Q : VK}
theorem go_tup (R : Rel K ω s) (r : RwL K s ws vs) (g : Go K ω Wx (Rw K) s (zce ws s.hp) Q) : vs.length ≤ sizeLine ∧ ∀ (p : Addr) (o : Obj), s.H p = none → o.dict = none → Q (.ref p) (upd s.H p (.frz o (.tup vs))) := by
 unfold zce at g
 split at g
 ·rename_i ts ht
  split at g
  ·rename_i hz
   rw [zbt ht] at r
   refine ⟨by rw [← RwL.length r, List.length_map, sizeLine_eq]; exact hz, fun p o hp d => g (.ref p) (s.addF p (.frz o (.tup vs))) rfl (zbj R hp) (zby R hp) (addF_tup R hp d (RwL.of_trees.mp r))⟩
  ·exact g.elim
 ·exact g.elim
theorem go_lst (R : Rel K ω s) (r : RwL K s ws vs) (g : Go K ω Wx (Rw K) s (zaj ws s.hp) Q) : vs.length ≤ sizeLine ∧ ∀ p, s.H p = none → Q (.ref p) (upd s.H p (.lst vs)) := by
 unfold zaj at g
 split at g
 ·rename_i ts ht
  split at g
  ·rename_i hz
   rw [zbt ht] at r
   refine ⟨by rw [← RwL.length r, List.length_map, sizeLine_eq]; exact hz, fun p hp => g (.ref p) (s.addF p (.lst vs)) rfl (zbj R hp) (zby R hp) (zc7 R hp (RwL.of_trees.mp r))⟩
  ·exact g.elim
 ·exact g.elim
theorem go_newL (R : Rel K ω s) (r : RwL K s ws vs) (g : Go K ω Wx (Rw K) s (newL ws s.hp) Q) : vs.length ≤ sizeLine ∧ ∀ p, s.H p = none → Q (.ref p) (upd s.H p (.lst vs)) := by
 unfold newL at g
 split at g
 ·rename_i hz
  refine ⟨by rw [← RwL.length r, sizeLine_eq]; exact hz, fun p hp => g (.ref p) (s.addL p (.lst ws) (.lst vs)) rfl (aft_addL R hp) (rel_addL R hp ⟨vs, rfl, r⟩) (addL_r R)⟩
 ·exact g.elim
end
/-- a tuple laid, its object known to have no dict -/
def tTupS (t : TA) : TE := fun σ H Q => t σ H fun xs H1 => xs.length ≤ sizeLine ∧ ∀ (p : Addr) (o : Obj), H1 p = none → o.dict = none → Q (.ref p) (upd H1 p (.frz o (.tup xs)))
theorem laid_tup {pins : List Ydk} {σ : St} {H : Hp} {s : Shared} {xs : List V} {us : List Value} {t' : Nat} {Q : VK} (I : Inv X pins σ H s) (r : Vals xs us) (z : xs.length ≤ sizeLine)
  (q : ∀ (p : Addr) (o : Obj), H p = none → o.dict = none → Q (.ref p) (upd H p (.frz o (.tup xs)))) : EP X pins σ Q (.ref s.heap.objs.size) { s with heap := s.heap.push { cls := .type "tuple", data := .seq us.toArray }, toks := t' } := by
 refine ⟨.ref s.heap.objs.size, _, I.laid (t' := t') (o := .frz { cls := .type "tuple", data := .seq us.toArray } (.tup xs)) (fun b u e => Heap.get?_push_of_some _ e) Yem ?_, rfl, q _ _ I.fresh rfl⟩
 exact ⟨Heap.get?_push_size _ rfl, z, us, r, ⟨_, Heap.get?_push_size _ rfl, rfl, _, rfl⟩⟩
theorem pe_tupS {x1} {t : TA} (h : PA X es t) : PE X (.Tuple es x1 pos) (tTupS t) := by
 refine ⟨fun pn s0 σ H Q J hq => ?_⟩
 refine wpAny_Tuple_spliced (thn (h.run pos pn s0 σ H _ J hq) fun us s1 w => ?_)
 obtain ⟨xs, H1, J1, r, z, q⟩ := w
 exact ⟨by rw [← r.length]; exact z, laid_tup (t' := s1.toks) J1 r z q⟩
theorem ie_tup {x1} (h : IA X Wx es Fs) : IE X Wx (.Tuple es x1 pos) (mApp zce Fs) := PE.imp (pe_tupS h) fun σ H Q h =>
 tM.bind1 (R := fun (xs : List V) (H1 : Hp) => xs.length ≤ sizeLine ∧ ∀ (p : Addr) (o : Obj), H1 p = none → o.dict = none → Q (.ref p) (upd H1 p (.frz o (.tup xs)))) (k := fun (a : List W) _ hp => zce a hp) h fun s eta a b R1 _ f1 g => go_tup R1 f1 g
theorem zas (h : IA X Wx es Fs) : IE X Wx (.List es pos) (mApp zaj Fs) := PE.imp (pe_lst h) fun σ H Q h =>
 tM.bind1 (R := fun (xs : List V) (H1 : Hp) => xs.length ≤ sizeLine ∧ ∀ p, H1 p = none → Q (.ref p) (upd H1 p Yby)) (k := fun (a : List W) _ hp => zaj a hp) h fun s eta a b R1 _ f1 g => go_lst R1 f1 g
theorem ie_lstL (h : IA X Wx es Fs) : IE X Wx (.List es pos) (mApp newL Fs) := PE.imp (pe_lst h) fun σ H Q h =>
 tM.bind1 (R := fun (xs : List V) (H1 : Hp) => xs.length ≤ sizeLine ∧ ∀ p, H1 p = none → Q (.ref p) (upd H1 p Yby)) (k := fun (a : List W) _ hp => newL a hp) h fun s eta a b R1 _ f1 g => go_newL R1 f1 g
end
def asB (w : W) (hp : IH) : Res Bool := match w with
 | .t (.bl b) => .ok b hp
 | _ => .bad
/-- a value's truth -/
def truW (w : W) (hp : IH) : Res Bool := match w with
 | .t .non => .ok false hp
 | .t (.bl b) => .ok b hp
 | .t (.int i) => .ok (i != 0) hp
 | .t (.str s) => if s.length ≤ 16777216 then .ok ((s.length : Int) != 0) hp else .bad
 | w => match items hp w with
  | some ws => .ok (!ws.isEmpty) hp
  | none => .bad
def zaf (f : W → IH → Res Bool) (F : M W) : M Bool := fun eta hp => (F eta hp).bind fun a h1 => f a h1
def mAnd (A B : M Bool) : M Bool := fun eta hp => (A eta hp).bind fun a h1 => if a then B eta h1 else .ok false h1
def mOr (A B : M Bool) : M Bool := fun eta hp => (A eta hp).bind fun a h1 => if a then .ok true h1 else B eta h1
def mNot (A : M Bool) : M Bool := fun eta hp => (A eta hp).bind fun a h1 => .ok (!a) h1
def mIf {A : Type} (T : M Bool) (F G : M A) : M A := fun eta hp => (T eta hp).bind fun b h1 => if b then F eta h1 else G eta h1
section
variable {X : Cx} {Wx : WX} {a b c e : Expr} {rest : List Expr} {Fa Fb Fc F : M W} {A B : M Bool} {pos : Pos}
theorem go_asB {K : PySem.W.Frag} {ω : World} {s : S4} {w : W} {v : V} {Q : Bool → Hp → Prop} (R : Rel K ω s) (r : Rw K s w v) (g : Go K ω Wx Yd3 s (asB w s.hp) Q) : ∃ k, v = .bl k ∧ Q k s.H := by
 unfold asB at g
 split at g
 ·rename_i k
  simp only [Rw, Rf] at r
  exact ⟨k, r, g k s rfl Yg R rfl⟩
 ·exact g.elim
theorem it_cmp {op : CmpOp} {f : Op2} {r : R2} (ho : OpR X (compareOp op) r) (hf : zco X.K X.w Wx f r) (ha : IE X Wx a Fa) (hb : IE X Wx b Fb) (hm : behindInMarks op b = false) : IT X Wx (.Compare a [op] [b] pos) (zaf asB (mBin f Fa Fb)) :=
 PT.imp (pt_cmpR ho ha hb hm) fun σ H Q h => by
  have h' : tE X.K X.w Wx (mBin f Fa Fb) σ H (fun x H1 => ∃ k, x = .bl k ∧ Q k H1) := tM.bind1 (R := fun (x : V) (H1 : Hp) => ∃ k, x = .bl k ∧ Q k H1) (k := fun (a : W) _ hp => asB a hp) h fun s eta a b R1 _ f1 g => go_asB R1 f1 g
  exact t_bin hf σ H _ h'
theorem items_at {K : PySem.W.Frag} {ω : World} {s : S4} (R : Rel K ω s) {w : W} {v : V} {ws : List W} (h : items s.hp w = some ws) (r : Rw K s w v) : ∃ p xs, v = .ref p ∧ ((SqL K s.H p xs) ∨ SqT K s.H p xs) ∧ RwL K s ws xs := by
 obtain ⟨p, xs, e, q, l⟩ := items_sq R h r
 exact ⟨p, xs, e, q.symm, l⟩
theorem go_tru {K : PySem.W.Frag} {ω : World} {s : S4} {w : W} {v : V} {Q : Bool → Hp → Prop} (R : Rel K ω s) (r : Rw K s w v) (g : Go K ω Wx Yd3 s (truW w s.hp) Q) : ∃ k, TruV K v s.H k ∧ Q k s.H := by
 have fin : ∀ {k : Bool}, Go K ω Wx Yd3 s (.ok k s.hp) Q → Q k s.H := fun g => g _ s rfl Yg R rfl
 have seq : (match items s.hp w with | some ws => Res.ok (!ws.isEmpty) s.hp | none => .bad : Res Bool) = truW w s.hp → ∃ k, TruV K v s.H k ∧ Q k s.H := fun e => by
  rw [← e] at g
  cases hi : items s.hp w with
  | none => simp only [hi] at g; exact g.elim
  | some ws =>
   simp only [hi] at g
   obtain ⟨p, xs, ev, q, l⟩ := items_at R hi r
   subst ev
   have em : ws.isEmpty = xs.isEmpty := by
    have := RwL.length l
    cases ws <;> cases xs <;> simp_all
   refine ⟨!ws.isEmpty, ?_, fin g⟩
   rcases q with q | q
   ·exact .inl ⟨xs, q, by rw [em]⟩
   ·exact .inr (.inl ⟨xs, q, by rw [em]⟩)
 cases w with
 | r i => exact seq rfl
 | t x =>
  cases x with
  | non => simp only [Rw, Rf] at r; subst r; exact ⟨false, rfl, fin g⟩
  | bl b => simp only [Rw, Rf] at r; subst r; exact ⟨b, rfl, fin g⟩
  | int i => simp only [Rw, Rf] at r; subst r; exact ⟨_, rfl, fin g⟩
  | str z =>
   simp only [Rw, Rf] at r; subst r
   simp only [truW] at g
   split at g
   ·rename_i hz
    exact ⟨_, ⟨by rw [sizeLine_eq]; exact hz, rfl⟩, fin g⟩
   ·exact g.elim
  | _ => exact seq rfl
theorem it_tru (h : IE X Wx e F) (he : ∀ whole, isTrue e X.env whole = (do let v ← whole; standAt e.pos; holding [v] (truthy v)) := by intro _; rfl) : IT X Wx e (zaf truW F) := by
 refine PT.imp (pt_truth h he) fun σ H Q h => ?_
 exact tM.bind1 (R := fun (x : V) (H1 : Hp) => ∃ k, TruV X.K x H1 k ∧ Q k H1) (k := fun (a : W) _ hp => truW a hp) h fun s eta a b R1 _ f1 g => go_tru R1 f1 g
def IW (X : Cx) (Wx : WX) (e : Expr) (F : M Bool) : Prop := PW X e (tT X.K X.w Wx F)
theorem IW.it (h : IW X Wx e A) : IT X Wx e A := PW.pt h
theorem iw_and1 (ha : IT X Wx a A) : IW X Wx (.BoolOp .And [a] pos) A := pw_and1 ha
theorem iw_or1 (ha : IT X Wx a A) : IW X Wx (.BoolOp .Or [a] pos) A := pw_or1 ha
theorem t_cond {R : Bool → Hp → Prop} {C D : Type} {K : PySem.W.Frag} {ω : World} {Gam : S4 → C → D → Prop} {k : Bool → IS → IH → Res C} {σ : St} {H : Hp} {Q : D → Hp → Prop}
  (h : tM K ω Wx Gam (fun eta hp => (A eta hp).bind fun b h1 => k b eta h1) σ H Q) (n : ∀ (s : S4) (eta : IS) (b : Bool), Rel K ω s → Sl K s eta σ → Go K ω Wx Gam s (k b eta s.hp) Q → R b s.H) : tT K ω Wx A σ H R :=
 tM.bind1 (R := R) h fun s eta a b R1 S1 f1 g => by subst f1; exact n s eta a R1 S1 g
theorem iw_and (ha : IT X Wx a A) (hb : IW X Wx (.BoolOp .And (b :: rest) pos) B) : IW X Wx (.BoolOp .And (a :: b :: rest) pos) (mAnd A B) :=
 PW.imp (pw_and ha hb) fun σ H Q h => t_cond (R := fun c H1 => if c = true then tT X.K X.w Wx B σ H1 Q else Q false H1) (k := fun a eta h1 => if a then B eta h1 else .ok false h1) h fun s eta b R1 S1 g => by
  cases b with
  | true => exact ⟨s, eta, rfl, R1, S1, g⟩
  | false => exact g false s rfl Yg R1 rfl
theorem iw_or (ha : IT X Wx a A) (hb : IW X Wx (.BoolOp .Or (b :: rest) pos) B) : IW X Wx (.BoolOp .Or (a :: b :: rest) pos) (mOr A B) :=
 PW.imp (pw_or ha hb) fun σ H Q h => t_cond (R := fun c H1 => if c = true then Q true H1 else tT X.K X.w Wx B σ H1 Q) (k := fun a eta h1 => if a then .ok true h1 else B eta h1) h fun s eta b R1 S1 g => by
  cases b with
  | true => exact g true s rfl Yg R1 rfl
  | false => exact ⟨s, eta, rfl, R1, S1, g⟩
theorem it_not (ha : IT X Wx a A) : IT X Wx (.UnaryOp .Not a pos) (mNot A) :=
 PT.imp (pt_not ha) fun σ H Q h => t_cond (R := fun c H1 => Q (!c) H1) (k := fun a eta h1 => .ok (!a) h1) h fun s eta b R1 S1 g => g (!b) s rfl Yg R1 rfl
theorem ie_if (hc : IT X Wx c A) (ha : IE X Wx a Fa) (hb : IE X Wx b Fb) : IE X Wx (.IfExp c a b pos) (mIf A Fa Fb) :=
 PE.imp (pe_ifExp hc ha hb) fun σ H Q h => t_cond (R := fun c H1 => if c = true then tE X.K X.w Wx Fa σ H1 Q else tE X.K X.w Wx Fb σ H1 Q) (k := fun b eta h1 => if b then Fa eta h1 else Fb eta h1) h fun s eta b R1 S1 g => by
  cases b with
  | true => exact ⟨s, eta, rfl, R1, S1, g⟩
  | false => exact ⟨s, eta, rfl, R1, S1, g⟩
/-- bools as values: and, or, not (all but the last a bool) -/
def mAndV (Fa Fb : M W) : M W := fun eta hp => (Fa eta hp).bind fun a h1 => match a with | .t (.bl true) => Fb eta h1 | .t (.bl false) => .ok (.t Ya3) h1 | _ => .bad
def mOrV (Fa Fb : M W) : M W := fun eta hp => (Fa eta hp).bind fun a h1 => match a with | .t (.bl true) => .ok (.t Ycq) h1 | .t (.bl false) => Fb eta h1 | _ => .bad
def mNotV (Fa : M W) : M W := fun eta hp => (Fa eta hp).bind fun a h1 => match a with | .t (.bl b) => .ok (.t (.bl (!b))) h1 | _ => .bad
theorem ie_one {op} (h : IE X Wx a F) : IE X Wx (.BoolOp op [a] pos) F := pe_one h
theorem ie_and (ha : IE X Wx a Fa) (hb : IE X Wx (.BoolOp .And (b :: rest) pos) Fb) : IE X Wx (.BoolOp .And (a :: b :: rest) pos) (mAndV Fa Fb) :=
 PE.imp (pe_and ha hb) fun σ H Q h => tM.bind1 (R := fun (x : V) (H1 : Hp) => ∃ c, x = .bl c ∧ if c = true then tE X.K X.w Wx Fb σ H1 Q else Q Ya3 H1)
  (k := fun (a : W) eta h1 => match a with | .t (.bl true) => Fb eta h1 | .t (.bl false) => .ok (.t Ya3) h1 | _ => .bad) h fun s eta a b R1 S1 f1 g => by
  split at g
  ·simp only [Rw, Rf] at f1; exact ⟨true, f1, by rw [if_pos rfl]; exact ⟨s, eta, rfl, R1, S1, g⟩⟩
  ·simp only [Rw, Rf] at f1; exact ⟨false, f1, by rw [if_neg Bool.false_ne_true]; exact g Ya3 s rfl Yg R1 Ye⟩
  ·exact g.elim
/-- a < b <= c -/
def mChain (f f' : Op2) (Fa Fb Fc : M W) : M W := fun eta hp => (Fa eta hp).bind fun a h1 => (Fb eta h1).bind fun b h2 => (f a b h2).bind fun z h3 => match z with
 | .t (.bl true) => (Fc eta h3).bind fun c h4 => f' b c h4
 | .t (.bl false) => .ok (.t Ya3) h3
 | _ => .bad
end
end Mir
namespace Mir
open PySem PySem.Spec L2
open PyProof.Rows hiding St
inductive Kd where | l | t
def Sq (K : PySem.W.Frag) (H : Hp) : Kd → Addr → List V → Prop
 | .l => SqL K H
 | .t => SqT K H
def IterH (h : Heap) : Kd → Addr → Addr → Nat → Prop
 | .l => h.IsListIter
 | .t => h.IsTupleIter
def SeqH (h : Heap) : Kd → Addr → Array Value → Prop
 | .l => h.IsList
 | .t => h.IsTuple
def iterO (kd : Kd) (a : Addr) : Obj := match kd with
 | .l => { cls := .type "list_iterator", data := .fields #[.ref a, .int 0 0] }
 | .t => { cls := .type "tuple_iterator", data := .fields #[.ref a, .int 0 0] }
section
variable {X : Cx} {pins : List Ydk} {σ : L2.St} {H : Hp} {s : Shared}
theorem Inv_sq (I : Inv X pins σ H s) {kd : Kd} {a : Addr} {xs : List V} (h : Sq X.K H kd a xs) : ∃ its : List Value, Vals xs its ∧ SeqH s.heap kd a its.toArray := by
 cases kd with
 | l => obtain ⟨its, r, p, _⟩ := I.list h; exact ⟨its, r, p.isList⟩
 | t => obtain ⟨its, r, p, _⟩ := I.tuple h; exact ⟨its, r, p⟩
end
theorem SeqH.lt {h : Heap} {kd : Kd} {a : Addr} {its : Array Value} (x : SeqH h kd a its) : a < h.objs.size := by
 cases kd with
 | l => obtain ⟨o, e, _⟩ := x; exact Heap.lt_size e
 | t => obtain ⟨o, e, _⟩ := x; exact Heap.lt_size e
theorem IterH.lt {h : Heap} {kd : Kd} {it a : Addr} {i : Nat} (x : IterH h kd it a i) : it < h.objs.size := by
 cases kd with
 | l => obtain ⟨o, e, _⟩ := x; exact Heap.lt_size e
 | t => obtain ⟨o, e, _⟩ := x; exact Heap.lt_size e
theorem IterH.ob {h : Heap} {kd : Kd} {it a : Addr} {i : Nat} (x : IterH h kd it a i) : ∃ o, h.get? it = some o ∧ ∀ v, o.data ≠ .cell v := by
 cases kd with
 | l => obtain ⟨o, e, _, d⟩ := x; exact ⟨o, e, fun v z => by rw [d] at z; cases z⟩
 | t => obtain ⟨o, e, _, d⟩ := x; exact ⟨o, e, fun v z => by rw [d] at z; cases z⟩
theorem IterH.at_ {h h' : Heap} {kd : Kd} {it a : Addr} {i : Nat} (x : IterH h kd it a i) (k : ∀ o, h.get? it = some o → h'.get? it = some o) : IterH h' kd it a i := by
 cases kd with
 | l => exact Heap.IsListIter.at x k
 | t => exact Heap.IsTupleIter.at x k
theorem IterH.new {h : Heap} {kd : Kd} {it a : Addr} (e : h.get? it = some (iterO kd a)) : IterH h kd it a 0 := by
 cases kd with
 | l => exact ⟨_, e, rfl, rfl⟩
 | t => exact ⟨_, e, rfl, rfl⟩
theorem begins_sq (kd : Kd) (a : Addr) (its : Array Value) : Begins (.ref a) (iterO kd a) fun h => SeqH h kd a its := by
 cases kd with
 | l => exact begins_list a its
 | t => exact begins_tuple a its
def ItQ (K : PySem.W.Frag) (kd : Kd) (a : Addr) : It := match kd with | .l => Itl K a | .t => Itt K a
def iSq (K : PySem.W.Frag) (te : TE) : TI := fun σ H R => te σ H fun x H1 => ∃ kd a xs, x = .ref a ∧ Sq K H1 kd a xs ∧ R (ItQ K kd a) H1
theorem pi_sq {X : Cx} {tg e : Expr} {te : TE} (he : PE X e te) : PI X tg e (iSq X.K te) := ⟨fun pins s σ H R I h => by
 refine thn (he.run pins s σ H _ I h) ?_
 rintro v s1 ⟨x, H1, I1, r1, kd, a, xs, ex, hq, q⟩
 subst ex
 obtain rfl : v = Value.ref a := r1
 obtain ⟨its, rv, p⟩ := Inv_sq I1 hq
 have I2 : Inv X pins σ H1 { s1 with heap := s1.heap.push (iterO kd a) } := I1.kept (t' := s1.toks) fun b o e => Heap.get?_push_of_some _ e
 have fp : ∀ b ∈ [s1.heap.objs.size], FpOk X pins H1 b := fun b hb => by
  obtain rfl : b = s1.heap.objs.size := by simpa using hb
  exact I1.fpOk Yem (I1.hok.fresh Yem)
 have hn : IterH (s1.heap.push (iterO kd a)) kd s1.heap.objs.size a 0 := IterH.new (Heap.get?_push_size _ (by cases kd <;> rfl))
 refine (begins_sq kd a its.toArray).iter _ _ _ _ _ _ p ?_
 cases kd with
 | l => exact ⟨s1.heap.objs.size, [s1.heap.objs.size], _, _, H1, rfl, I2, turn_list a _, hn, fp, q⟩
 | t => exact ⟨s1.heap.objs.size, [s1.heap.objs.size], _, _, H1, rfl, I2, turn_tuple a _, hn, fp, q⟩⟩
end Mir
namespace Mir
open PySem PySem.Spec L2
open PyProof.Rows hiding St
inductive Fl where
 | nx (eta : IS) | rt (w : W) | bk (eta : IS) | ct (eta : IS)
inductive FlV where
 | nx (o : St) | rt (v : V) | bk (o : St) | ct (o : St)
def RFl (K : PySem.W.Frag) (s : S4) : Fl → FlV → Prop
 | .nx eta, .nx o => Sl K s eta o
 | .rt w, .rt v => Rw K s w v
 | .bk eta, .bk o => Sl K s eta o
 | .ct eta, .ct o => Sl K s eta o
 | _, _ => False
def endQ (D : Ends) : FlV → Hp → Prop
 | .nx o, H => D.nx o H
 | .rt v, H => D.rt v H
 | .bk o, H => D.bk o H
 | .ct o, H => D.ct o H
abbrev tS (K : PySem.W.Frag) (ω : World) (Wx : WX) (F : M Fl) : TS := fun D σ H => tM K ω Wx (RFl K) F σ H (endQ D)
def ISt (X : Cx) (Wx : WX) (st : Stmt) (F : M Fl) : Prop := PS X st (tS X.K X.w Wx F)
def ISs (X : Cx) (Wx : WX) (st : List Stmt) (F : M Fl) : Prop := PSs X st (tS X.K X.w Wx F)
theorem Res.bind_assoc {A B C : Type} (r : Res A) (k : A → IH → Res B) (k' : B → IH → Res C) : (r.bind k).bind k' = r.bind fun a h => (k a h).bind k' := by cases r <;> rfl
def zbu : M Fl := fun eta hp => .ok Yc1 hp
def thenF (B : M Fl) (f : Fl) (hp : IH) : Res Fl := match f with
 | .nx eta => B eta hp
 | f => .ok f hp
def mSeq (A B : M Fl) : M Fl := fun eta hp => (A eta hp).bind (thenF B)
def mRet (F : M W) : M Fl := fun eta hp => (F eta hp).bind fun a h1 => .ok (.rt a) h1
def mRetN : M Fl := fun _ hp => .ok (.rt Yar) hp
def mDrop (F : M W) : M Fl := fun eta hp => (F eta hp).bind fun _ h1 => .ok Yc1 h1
def mBrk : M Fl := fun eta hp => .ok (.bk eta) hp
def mCnt : M Fl := fun eta hp => .ok (.ct eta) hp
section
variable {K : PySem.W.Frag} {ω : World} {Wx : WX} {s : S4} {D : Ends}
theorem Go.nx {eta : IS} {σ : St} (R : Rel K ω s) (S : Sl K s eta σ) (g : Go K ω Wx (RFl K) s (.ok Yc1 s.hp) (endQ D)) : D.nx σ s.H := g (.nx σ) s rfl Yg R S
theorem Go.ct {eta : IS} {σ : St} (R : Rel K ω s) (S : Sl K s eta σ) (g : Go K ω Wx (RFl K) s (.ok (.ct eta) s.hp) (endQ D)) : D.ct σ s.H := g (.ct σ) s rfl Yg R S
theorem Go.bk {eta : IS} {σ : St} (R : Rel K ω s) (S : Sl K s eta σ) (g : Go K ω Wx (RFl K) s (.ok (.bk eta) s.hp) (endQ D)) : D.bk σ s.H := g (.bk σ) s rfl Yg R S
theorem Go.rt {w : W} {v : V} (R : Rel K ω s) (S : Rw K s w v) (g : Go K ω Wx (RFl K) s (.ok (.rt w) s.hp) (endQ D)) : D.rt v s.H := g (.rt v) s rfl Yg R S
end
section
variable {X : Cx} {Wx : WX} {st : Stmt} {rest sts sts' : List Stmt} {A B : M Fl} {e : Expr} {F : M W} {T : M Bool} {c : Expr} {pos : Pos}
theorem zbr : ISs X Wx [] zbu := PSs.imp pss_nil fun D σ H h => by
 obtain ⟨s, eta, e1, R1, S1, g⟩ := h
 subst e1
 exact Go.nx R1 S1 g
theorem zai (h1 : ISt X Wx st A) (h2 : ISs X Wx rest B) : ISs X Wx (st :: rest) (mSeq A B) := PSs.imp (pss_cons h1 h2) fun D σ H h => by
 obtain ⟨s, eta, e1, R1, S1, g⟩ := h
 refine ⟨s, eta, e1, R1, S1, Go.bind g fun f fv s' A' R' f' _ g' => ?_⟩
 cases f <;> cases fv <;> first | exact f'.elim | skip
 ·exact ⟨s', _, rfl, R', f', g'⟩
 ·exact Go.rt (D := D) R' f' g'
 ·exact Go.bk (D := D) R' f' g'
 ·exact Go.ct (D := D) R' f' g'
theorem zar (h1 : ISt X Wx st A) : ISs X Wx [st] A := pss_one h1
theorem zay (he : IE X Wx e F) : ISt X Wx (.Return (some e) pos) (mRet F) := PS.imp (ps_ret he) fun D σ H h =>
 tM.bind1 (R := fun (x : V) (H1 : Hp) => D.rt x H1) (k := fun (a : W) _ hp => .ok (Fl.rt a) hp) h fun s eta a b R1 _ f1 g => Go.rt R1 f1 g
theorem st_expr (he : IE X Wx e F) (hs : swapsWith e none pos.line X.env = pure false := by rfl) : ISt X Wx (.Expr e pos) (mDrop F) := PS.imp (ps_expr he hs) fun D σ H h =>
 tM.bind1 (R := fun (x : V) (H1 : Hp) => D.nx σ H1) (k := fun (a : W) eta hp => .ok (Fl.nx eta) hp) h fun s eta a b R1 S1 f1 g => Go.nx R1 S1 g
theorem zcs (hc : IT X Wx c T) (ha : ISs X Wx sts A) (hb : ISs X Wx sts' B) : ISt X Wx (.If c sts sts' pos) (mIf T A B) := PS.imp (ps_if hc ha hb) fun D σ H h =>
 t_cond (R := fun (b : Bool) (H1 : Hp) => if b = true then tS X.K X.w Wx A D σ H1 else tS X.K X.w Wx B D σ H1) (k := fun b eta h1 => if b then A eta h1 else B eta h1) h fun s eta b R1 S1 g => by
  cases b with
  | true => exact ⟨s, eta, rfl, R1, S1, g⟩
  | false => exact ⟨s, eta, rfl, R1, S1, g⟩
end
structure TgOk (K : PySem.W.Frag) (ω : World) (g : TG) (G : W → IS → Option IS) (vs : List Nat) : Prop where
 run : ∀ (s : S4) (w : W) (v : V) (eta : IS) (σ : St) (eta' : IS), Rel K ω s → Rw K s w v → Sl K s eta σ → G w eta = some eta' →
  ∃ σ', Sl K s eta' σ' ∧ (∀ us : List Nat, (∀ i ∈ vs, i ∈ us) → wipe σ' us = wipe σ us) ∧ ∀ Q : St → Hp → Prop, Q σ' s.H → g v σ s.H Q
structure TgsOk (K : PySem.W.Frag) (ω : World) (g : TGs) (G : List W → IS → Option IS) (vs : List Nat) : Prop where
 run : ∀ (s : S4) (ws : List W) (xs : List V) (eta : IS) (σ : St) (eta' : IS), Rel K ω s → RwL K s ws xs → Sl K s eta σ → G ws eta = some eta' →
  ∃ σ', Sl K s eta' σ' ∧ (∀ us : List Nat, (∀ i ∈ vs, i ∈ us) → wipe σ' us = wipe σ us) ∧ ∀ Q : St → Hp → Prop, Q σ' s.H → g xs σ s.H Q
def gN (i : Nat) : W → IS → Option IS := fun w eta => some Ye5
theorem wipe_get {σ : St} {j : Nat} : ∀ {us : List Nat}, j ∉ us → (wipe σ us)[j]? = σ[j]?
 | [], _ => rfl
 | u :: us, h => by
  simp only [List.mem_cons, not_or] at h
  unfold wipe
  rw [List.getElem?_set_ne (Ne.symm h.1)]
  exact wipe_get h.2
theorem wipe_in {σ : St} {j : Nat} : ∀ {us : List Nat}, j ∈ us → j < σ.length → (wipe σ us)[j]? = some none
 | u :: us, h, hl => by
  unfold wipe
  by_cases e : u = j
  ·subst e
   rw [List.getElem?_set_self (by rw [wipe_length]; exact hl)]
  ·rw [List.getElem?_set_ne e]
   rcases List.mem_cons.mp h with h | h
   ·exact absurd h.symm e
   ·exact wipe_in h hl
theorem wipe_set {σ : St} {i : Nat} {x : Option V} {us : List Nat} (h : i ∈ us) : wipe (σ.set i x) us = wipe σ us := by
 apply List.ext_getElem?
 intro j
 by_cases hj : j ∈ us
 ·by_cases hl : j < σ.length
  ·rw [wipe_in hj Yfk, wipe_in hj hl]
  ·rw [List.getElem?_eq_none Ye6, List.getElem?_eq_none Ye6]
 ·rw [wipe_get hj, wipe_get hj, List.getElem?_set_ne (fun e => hj (by rw [← e]; exact h))]
theorem zbd {K : PySem.W.Frag} {ω : World} (i : Nat) : TgOk K ω (gName i) (gN i) [i] := ⟨fun s w v eta σ eta' R1 r S1 e => by
 simp only [gN, Option.some.injEq] at e
 subst e
 exact ⟨σ.set i (some v), S1.set i r, fun us h => wipe_set (h i Yav), fun Q q => q⟩⟩
def gsN : List W → IS → Option IS := fun ws eta => match ws with | [] => some eta | _ :: _ => none
def gsC (G : W → IS → Option IS) (Gs : List W → IS → Option IS) : List W → IS → Option IS := fun ws eta => match ws with
 | [] => none
 | w :: ws => (G w eta).bind fun eta' => Gs ws eta'
def gT (n : Nat) (Gs : List W → IS → Option IS) : W → IS → Option IS := fun w eta => match w with
 | .t (.tup ts) => if ts.length = n then Gs Yl eta else none
 | .t (.pr ts) => if ts.length = n then Gs Yl eta else none
 | _ => none
theorem tgs_nil {K : PySem.W.Frag} {ω : World} : TgsOk K ω gNil gsN [] := ⟨fun s ws xs eta σ eta' R1 r S1 e => by
 cases ws with
 | nil =>
  simp only [gsN, Option.some.injEq] at e
  subst e
  exact ⟨σ, S1, fun _ _ => rfl, fun Q q => ⟨r, q⟩⟩
 | cons _ _ => simp [gsN] at e⟩
theorem tgs_cons {K : PySem.W.Frag} {ω : World} {g : TG} {gs : TGs} {G : W → IS → Option IS} {Gs : List W → IS → Option IS} {vs us : List Nat} (h1 : TgOk K ω g G vs) (h2 : TgsOk K ω gs Gs us) : TgsOk K ω (gCons g gs) (gsC G Gs) (vs ++ us) := ⟨fun s ws xs eta σ eta' R1 r S1 e => by
 cases ws with
 | nil => simp [gsC] at e
 | cons w ws =>
  simp only [gsC, Option.bind_eq_some_iff] at e
  obtain ⟨eta1, e1, e2⟩ := e
  obtain ⟨v, xr, ex, rv, rr⟩ := r
  obtain ⟨σ1, S2, w1, q1⟩ := h1.run s w v eta σ eta1 R1 rv S1 e1
  obtain ⟨σ2, S3, w2, q2⟩ := h2.run s ws xr eta1 σ1 eta' R1 rr S2 e2
  refine ⟨σ2, S3, fun u hu => ?_, fun Q q => ⟨v, xr, ex, q1 _ (q2 Q q)⟩⟩
  rw [w2 u fun i hi => hu i (List.mem_append_right _ hi), w1 u fun i hi => hu i (List.mem_append_left _ hi)]⟩
theorem tg_tup {K : PySem.W.Frag} {ω : World} {n : Nat} {gs : TGs} {Gs : List W → IS → Option IS} {vs : List Nat} (h : TgsOk K ω gs Gs vs) : TgOk K ω (gTup K n gs) (gT n Gs) vs := ⟨fun s w v eta σ eta' R1 r S1 e => by
 unfold gT at e
 split at e
 ·rename_i ts
  split at e
  ·rename_i hn
   obtain ⟨a, xs, ev, t, l⟩ : ∃ a vs, v = .ref a ∧ FTup K s.fz s.H a vs ∧ RfL K s.fz s.H ts vs := by simpa only [Rw, Rf] using r
   obtain ⟨σ', S2, w2, q2⟩ := h.run s Yl xs eta σ eta' R1 (RwL.of_trees.mpr l) S1 e
   exact ⟨σ', S2, w2, fun Q q => ⟨a, xs, ev, t.sq, by rw [← RfL.length l]; exact hn, q2 Q q⟩⟩
  ·cases e
 ·rename_i ts
  split at e
  ·rename_i hn
   obtain ⟨a, xs, ev, t, l⟩ : ∃ a vs, v = .ref a ∧ FPr s.fz s.H a vs ∧ RfL K s.fz s.H ts vs := by simpa only [Rw, Rf] using r
   obtain ⟨σ', S2, w2, q2⟩ := h.run s Yl xs eta σ eta' R1 (RwL.of_trees.mpr l) S1 e
   exact ⟨σ', S2, w2, fun Q q => ⟨a, xs, ev, t.sq, by rw [← RfL.length l]; exact hn, q2 Q q⟩⟩
  ·cases e
 ·cases e⟩
def mAsg (F : M W) (G : W → IS → Option IS) : M Fl := fun eta hp => (F eta hp).bind fun a h1 => match G a eta with | some e => .ok (.nx e) h1 | none => .bad
def mSet (i : Nat) (F : M W) : M Fl := fun eta hp => (F eta hp).bind fun a h1 => .ok (.nx Ydo) h1
section
variable {X : Cx} {Wx : WX} {e tg : Expr} {F : M W} {pos : Pos} {g : TG} {G : W → IS → Option IS} {vs : List Nat}
theorem za5 (i : Nat) {x : Str} {pos' : Pos} (hN : X.N.Nodup) (he : IE X Wx e F) (hi : X.N[i]? = some x := by rfl) (hx : Loc X.env.scope x := by first | exact Or.inl rfl | exact Or.inr rfl) (hs : swapsWith e (some (.Name x pos')) pos.line X.env = pure false := by rfl) (hf : X.fn x = true ∨ X.env.scope.names.lookup x = some .local := by first | exact .inl rfl | exact .inr rfl | assumption) :
  ISt X Wx (.Assign [.Name x pos'] e pos) (mSet i F) := PS.imp (ps_set hN hi hx he hs hf) fun D σ H h =>
 tM.bind1 (R := fun (y : V) (H1 : Hp) => D.nx (σ.set i (some y)) H1) (k := fun (a : W) eta hp => .ok (Fl.nx Ydo) hp) h fun s eta a b R1 S1 f1 g1 => Go.nx R1 (S1.set i f1) g1
end
/-- a, b = x, y: all sides first -/
def mPar (is : List Nat) (F : M (List W)) : M Fl := fun eta hp => (F eta hp).bind fun ws h1 => if ws.length = is.length then .ok (.nx ((is.zip ws).foldl Yfs eta)) h1 else .bad
section
variable {X : Cx} {Wx : WX} {F : M (List W)} {pos : Pos}
theorem st_par2 {i j : Nat} {x y : Str} {a b : Expr} {px py pt : Pos} {kt k2 pt2} (hc : X.calm = true) (hN : X.N.Nodup) (ha : IA X Wx [a, b] F)
  (hw : swappedStores [.Tuple [.Name x px, .Name y py] kt pt] (.Tuple [a, b] k2 pt2) X.env = pure (some [x, y]) := by rfl) (hi : X.N[i]? = some x := by rfl) (hj : X.N[j]? = some y := by rfl) (hij : i ≠ j := by decide)
  (hx : X.env.scope.names.lookup x = some .local := by rfl) (hy : X.env.scope.names.lookup y = some .local := by rfl)
  (hs : swapsWithSole [.Tuple [.Name x px, .Name y py] kt pt] (.Tuple [a, b] k2 pt2) pos.line X.env = pure false := by rfl) :
  ISt X Wx (.Assign [.Tuple [.Name x px, .Name y py] kt pt] (.Tuple [a, b] k2 pt2) pos) (mPar [i, j] F) := PS.imp (ps_par hc hN hi hj hij hx hy ha hw hs) fun D σ H h =>
 tM.bind1 (R := fun (vs : List V) (H1 : Hp) => ∃ v w, vs = [v, w] ∧ D.nx ((σ.set i (some v)).set j (some w)) H1) (k := fun (ws : List W) eta hp => if ws.length = [i, j].length then .ok (Fl.nx (([i, j].zip ws).foldl Yfs eta)) hp else .bad) h fun s eta ws vs R1 S1 f1 g1 => by
  match ws, f1, g1 with
  | [w1, w2], ⟨v1, r1, e1, q1, v2, r2, e2, q2, e3⟩, g1 =>
   subst e3 e2 e1
   exact ⟨v1, v2, rfl, Go.nx R1 ((S1.set i q1).set j q2) g1⟩
  | [], _, g1 => exact g1.elim
  | [_], _, g1 => exact g1.elim
  | _ :: _ :: _ :: _, _, g1 =>
   rw [if_neg Yav] at g1
   exact g1.elim
end
/-- x op= e -/
def mAug (i : Nat) (f : Op2) (F : M W) : M Fl := fun eta hp => match eta[i]? with
 | some (some x) => (F eta hp).bind fun y h1 => (f x y h1).bind fun z h2 => .ok (.nx (eta.set i (some z))) h2
 | _ => .bad
def SrcF (K : PySem.W.Frag) (ω : World) (s : S4) (ws : List W) (J : It) : Prop := ∀ s', Aft s s' → Rel K ω s' → ∀ i : Nat,
 (∀ w, ws[i]? = some w → J.go i s'.H ∧ ∀ x H', J.yld i s'.H x H' → ∃ s2 : S4, s2.H = H' ∧ s2.hp = s'.hp ∧ Aft s' s2 ∧ Rel K ω s2 ∧ Rw K s2 w x) ∧ (i = ws.length → J.stop i s'.H)
def II (X : Cx) (Wx : WX) (tg e : Expr) (F : M (List W)) : Prop := PI X tg e (tM X.K X.w Wx (SrcF X.K X.w) F)
def forL (G : W → IS → Option IS) (B : M Fl) : List W → IS → IH → Res Fl
 | [], eta, hp => .ok Yc1 hp
 | w :: ws, eta, hp => match G w eta with
  | none => .bad
  | some eta1 => (B eta1 hp).bind fun f h2 => match f with
   | .nx e => forL G B ws e h2
   | .ct e => forL G B ws e h2
   | .bk e => .ok (.nx e) h2
   | .rt w => .ok (.rt w) h2
def mFor (Fi : M (List W)) (G : W → IS → Option IS) (B : M Fl) : M Fl := fun eta hp => (Fi eta hp).bind fun ws h1 => forL G B ws eta h1
section
variable {X : Cx} {Wx : WX} {tg iter : Expr} {Fi : M (List W)} {pos : Pos} {g : TG} {G : W → IS → Option IS} {vs : List Nat} {body : List Stmt} {B : M Fl}
theorem st_for (hp : PassesOwn Yaf X.A X.env X.xe) (hc : X.calm = true) (hi : II X Wx tg iter Fi) (hg : PG X tg g) (ok : TgOk X.K X.w g G vs) (hb : ISs X Wx body B)
  (hs : ∀ x, foldedSetIterable iter X.env x = pure x := by intro _; rfl) : ISt X Wx (.For tg iter body [] pos) (mFor Fi G B) := PS.imp (ps_for hp hc hi hg hb hs) fun D σ H h =>
 tM.bind1 (R := fun (J : It) (H1 : Hp) => ∃ Wv : Nat → Nat → St → Hp → Prop, (∃ m, Wv 0 m σ H1) ∧ ∀ i m σ H, Wv i m σ H →
   (J.stop i H ∧ D.nx σ H) ∨ (J.go i H ∧ ∃ N : St → Hp → Prop, (∀ σ' H', N σ' H' → ∃ m', m' < m ∧ Wv (i + 1) m' σ' H') ∧ ∀ x H', J.yld i H x H' → g x σ H' fun σ2 H2 => tS X.K X.w Wx B { D with nx := N, ct := N, bk := D.nx } σ2 H2))
  (k := fun (ws : List W) eta hp => forL G B ws eta hp) h fun s eta ws J R1 S1 src g1 => by
  refine ⟨fun i m σ H => m = ws.length - i ∧ i ≤ ws.length ∧ ∃ s' eta', s'.H = H ∧ Aft s s' ∧ Rel X.K X.w s' ∧ Sl X.K s' eta' σ ∧ Go X.K X.w Wx (RFl X.K) s' (forL G B (ws.drop i) eta' s'.hp) (endQ D), ⟨ws.length, by simp, Nat.zero_le _, s, eta, rfl, Aft.refl s, R1, S1, by simpa using g1⟩, ?_⟩
  rintro i m σ H ⟨rfl, hi, s', eta', rfl, A1, R2, S2, g2⟩
  obtain ⟨q1, q2⟩ := src s' A1 R2 i
  by_cases hlt : i < ws.length
  ·obtain ⟨go, yl⟩ := q1 ws[i] (List.getElem?_eq_getElem hlt)
   refine .inr ⟨go, fun σ' H' => i + 1 ≤ ws.length ∧ ∃ s2 eta2, s2.H = H' ∧ Aft s s2 ∧ Rel X.K X.w s2 ∧ Sl X.K s2 eta2 σ' ∧ Go X.K X.w Wx (RFl X.K) s2 (forL G B (ws.drop (i + 1)) eta2 s2.hp) (endQ D), fun σ' H' n => ⟨ws.length - (i + 1), by omega, rfl, n⟩, fun x H' y => ?_⟩
   obtain ⟨s3, e3, hp3, A3, R3, rw3⟩ := yl x H' y
   subst e3
   rw [List.drop_eq_getElem_cons hlt] at g2
   simp only [forL] at g2
   cases hG : G ws[i] eta' with
   | none => simp only [hG] at g2; exact g2.elim
   | some eta1 =>
    simp only [hG] at g2
    obtain ⟨σ4, S4', _, q4⟩ := ok.run s3 ws[i] x eta' σ eta1 R3 rw3 (S2.aft A3 R2) hG
    refine q4 _ ⟨s3, eta1, rfl, R3, S4', ?_⟩
    have g3 := Go.aft g2 A3
    rw [← hp3] at g3
    refine Go.bind g3 fun f fv s5 A5 R5 f5 _ g5 => ?_
    cases f <;> cases fv <;> first | exact f5.elim | skip
    ·exact ⟨hlt, s5, _, rfl, (A1.trans A3).trans A5, R5, f5, g5⟩
    ·exact Go.rt (D := D) R5 f5 g5
    ·exact Go.nx (D := D) R5 f5 g5
    ·exact ⟨hlt, s5, _, rfl, (A1.trans A3).trans A5, R5, f5, g5⟩
  ·have e : i = ws.length := by omega
   subst e
   refine .inl ⟨q2 rfl, ?_⟩
   rw [List.drop_length] at g2
   exact Go.nx R2 S2 g2
end
def zc0 (T : M Bool) (B : M Fl) : Nat → IS → IH → Res Fl
 | 0, _, _ => .bad
 | n + 1, eta, hp => (T eta hp).bind fun b h1 => if b then (B eta h1).bind fun f h2 => match f with
   | .nx e => zc0 T B n e h2
   | .ct e => zc0 T B n e h2
   | .bk e => .ok (.nx e) h2
   | .rt w => .ok (.rt w) h2
  else .ok Yc1 h1
def mWhile (n : Nat) (T : M Bool) (B : M Fl) : M Fl := fun eta hp => zc0 T B n eta hp
section
variable {X : Cx} {Wx : WX} {c : Expr} {T : M Bool} {pos : Pos} {body : List Stmt} {B : M Fl}
theorem st_while (n : Nat) (hp : PassesOwn Yaf X.A X.env X.xe) (hc : IT X Wx c T) (hb : ISs X Wx body B) : ISt X Wx (.While c body [] pos) (mWhile n T B) := PS.imp (ps_while hp hc hb) fun D σ H h => by
 obtain ⟨s, eta, e1, R1, S1, g⟩ := h
 refine ⟨fun m σ H => ∃ s' eta', s'.H = H ∧ Rel X.K X.w s' ∧ Sl X.K s' eta' σ ∧ Go X.K X.w Wx (RFl X.K) s' (zc0 T B m eta' s'.hp) (endQ D), ⟨n, s, eta, e1, R1, S1, g⟩, ?_⟩
 rintro m σ H ⟨s', eta', rfl, R2, S2, g2⟩
 cases m with
 | zero => exact g2.elim
 | succ m =>
  simp only [zc0] at g2
  refine ⟨s', eta', rfl, R2, S2, Go.bind g2 fun b bv s3 A3 R3 f3 _ g3 => ?_⟩
  subst f3
  cases b with
  | false => exact Go.nx R3 (S2.aft A3 R2) g3
  | true =>
   simp only [if_true] at g3
   refine ⟨fun σ' H' => ∃ s' eta', s'.H = H' ∧ Rel X.K X.w s' ∧ Sl X.K s' eta' σ' ∧ Go X.K X.w Wx (RFl X.K) s' (zc0 T B m eta' s'.hp) (endQ D), fun σ' H' n => ⟨m, Nat.lt_succ_self m, n⟩, ?_⟩
   refine ⟨s3, eta', rfl, R3, S2.aft A3 R2, Go.bind g3 fun f fv s5 A5 R5 f5 _ g5 => ?_⟩
   cases f <;> cases fv <;> first | exact f5.elim | skip
   ·exact ⟨s5, _, rfl, R5, f5, g5⟩
   ·exact Go.rt (D := D) R5 f5 g5
   ·exact Go.nx (D := D) R5 f5 g5
   ·exact ⟨s5, _, rfl, R5, f5, g5⟩
end
def W0 : WX := fun _ _ _ _ => False
def noEr {A : Type} (r : Res A) : Res A := match r with
 | .er _ _ _ => .bad
 | r => r
theorem noEr_bind {A B : Type} (r : Res A) (k : A → IH → Res B) : noEr (r.bind k) = (noEr r).bind fun a h => noEr (k a h) := by cases r <;> rfl
theorem Go.noEr {A B : Type} {K : PySem.W.Frag} {ω : World} {Wx Wx' : WX} {Fam : S4 → A → B → Prop} {s : S4} {r : Res A} {Q : B → Hp → Prop} (g : Go K ω Wx Fam s (noEr r) Q) : Go K ω Wx' Fam s r Q := by
 cases r with
 | ok a h => exact g
 | er e eta h => exact g.elim
 | bad => exact g
def turnL (G : W → IS → Option IS) (T : M Bool) (E : M W) (eta : IS) (w : W) (hp : IH) : Res (Option W) := match G w eta with
 | none => .bad
 | some eta1 => (T eta1 hp).bind fun b h1 => if b then (E eta1 h1).bind fun y h2 => .ok (some y) h2 else .ok none h1
def zb8 (G : W → IS → Option IS) (T : M Bool) (E : M W) (eta : IS) : List W → IH → Res (List W)
 | [], hp => .ok [] hp
 | w :: ws, hp => (noEr (turnL G T E eta w hp)).bind fun o h1 => (zb8 G T E eta ws h1).bind fun r h2 => .ok (match o with | some y => y :: r | none => r) h2
def wipeI (eta : IS) (vs : List Nat) : IS := vs.foldr (fun v e => e.set v none) eta
/-- fin: zaj (a tree), newL (a live list) -/
def zbq (fin : OpN) (Fi : M (List W)) (G : W → IS → Option IS) (T : M Bool) (E : M W) (vs : List Nat) : M W := fun eta hp => (Fi eta hp).bind fun ws h1 => if ws.length ≤ 16777216 then (zb8 G T E (wipeI eta vs) ws h1).bind fun r h2 => fin r h2 else .bad
/-- an untracked-by-us object is changed (a comprehension's list while it is made) -/
def S4.setD (s : S4) (D : Addr) (o : HO) : S4 := ⟨s.rho, s.fz, s.hp, upd s.H D o⟩
section
variable {K : PySem.W.Frag} {ω : World}
mutual
theorem Rf.congr {fz fz' : Addr → Prop} {H H' : Hp} (hf : ∀ a, fz a → fz' a) (k : ∀ a, fz a → H' a = H a) : ∀ (x : T) (v : V), Rf K fz H x v → Rf K fz' H' x v
 | .non, _, h => by simpa [Rf] using h
 | .bl _, _, h => by simpa [Rf] using h
 | .int _, _, h => by simpa [Rf] using h
 | .str _, _, h => by simpa [Rf] using h
 | .ty _, _, h => by simpa [Rf] using h
 | .cls _, _, h => by simpa [Rf] using h
 | .exc _ _ _, _, h => by simp [Rf] at h
 | .tup xs, v, h => by
  simp only [Rf] at h ⊢
  obtain ⟨a, vs, e, t, l⟩ := h
  refine ⟨a, vs, e, ?_, RfL.congr hf k xs vs l⟩
  rcases t with ⟨f, o, t, d⟩ | t
  ·exact .inl ⟨hf a f, o, (k a f).trans t, d⟩
  ·exact .inr t
 | .pr xs, v, h => by
  simp only [Rf] at h ⊢
  obtain ⟨a, vs, e, t, l⟩ := h
  exact ⟨a, vs, e, ⟨hf a t.1, (k a t.1).trans t.2⟩, RfL.congr hf k xs vs l⟩
 | .dit ks xs, v, h => by
  simp only [Rf] at h ⊢
  obtain ⟨a, vs, e, t, n, l⟩ := h
  exact ⟨a, vs, e, ⟨hf a t.1, (k a t.1).trans t.2⟩, n, RfL.congr hf k xs vs l⟩
 | .lst xs, v, h => by
  simp only [Rf] at h ⊢
  obtain ⟨a, vs, e, t, l⟩ := h
  exact ⟨a, vs, e, ⟨hf a t.1, (k a t.1).trans t.2⟩, RfL.congr hf k xs vs l⟩
 | .scr xs, v, h => by
  simp only [Rf] at h ⊢
  obtain ⟨a, vs, e, t, l⟩ := h
  exact ⟨a, vs, e, t.imp (fun t => ⟨hf a t.1, let ⟨o, u⟩ := t.2; ⟨o, (k a t.1).trans u⟩⟩) id, RfL.congr hf k xs vs l⟩
 | .dic ks xs, v, h => by
  simp only [Rf] at h ⊢
  obtain ⟨a, vs, e, t, n, l⟩ := h
  exact ⟨a, vs, e, ⟨hf a t.1, let ⟨o, u⟩ := t.2; ⟨o, (k a t.1).trans u⟩⟩, n, RfL.congr hf k xs vs l⟩
 | .ins c ns xs, v, h => by
  simp only [Rf] at h ⊢
  obtain ⟨a, C, vs, e, cn, t, n, l⟩ := h
  exact ⟨a, C, vs, e, cn, ⟨hf a t.1, let ⟨o, u⟩ := t.2; ⟨o, (k a t.1).trans u⟩⟩, n, RfL.congr hf k xs vs l⟩
theorem RfL.congr {fz fz' : Addr → Prop} {H H' : Hp} (hf : ∀ a, fz a → fz' a) (k : ∀ a, fz a → H' a = H a) : ∀ (xs : List T) (vs : List V), RfL K fz H xs vs → RfL K fz' H' xs vs
 | [], _, h => by simpa [RfL] using h
 | x :: xs, vs, h => by
  simp only [RfL] at h ⊢
  obtain ⟨v, r, e, a, b⟩ := h
  exact ⟨v, r, e, Rf.congr hf k x v a, RfL.congr hf k xs r b⟩
end
theorem Rw.congr {s s' : S4} (hr : s'.rho = s.rho) (hf : ∀ a, s.fz a → s'.fz a) (k : ∀ a, s.fz a → s'.H a = s.H a) {w : W} {v : V} (h : Rw K s w v) : Rw K s' w v := by
 cases w with
 | t x => exact Rf.congr hf k x v h
 | r i => obtain ⟨a, e1, e2⟩ := h; exact ⟨a, by rw [hr]; exact e1, e2⟩
theorem RwL.congr {s s' : S4} (hr : s'.rho = s.rho) (hf : ∀ a, s.fz a → s'.fz a) (k : ∀ a, s.fz a → s'.H a = s.H a) : ∀ {ws : List W} {vs : List V}, RwL K s ws vs → RwL K s' ws vs
 | [], _, h => h
 | x :: xs, vs, h => by
  obtain ⟨v, r, e, a, b⟩ := h
  exact ⟨v, r, e, a.congr hr hf k, RwL.congr hr hf k b⟩
theorem RwK.congr {s s' : S4} (hr : s'.rho = s.rho) (hf : ∀ a, s.fz a → s'.fz a) (k : ∀ a, s.fz a → s'.H a = s.H a) : ∀ {ws : List (Key × W)} {vs : List (Key × V)}, RwK K s ws vs → RwK K s' ws vs
 | [], _, h => h
 | x :: xs, vs, h => by
  obtain ⟨v, r, e, a, b⟩ := h
  exact ⟨v, r, e, a.congr hr hf k, RwK.congr hr hf k b⟩
theorem RwF.congr {s s' : S4} (hr : s'.rho = s.rho) (hf : ∀ a, s.fz a → s'.fz a) (k : ∀ a, s.fz a → s'.H a = s.H a) : ∀ {ws : List (Str × W)} {vs : List (Str × V)}, RwF K s ws vs → RwF K s' ws vs
 | [], _, h => h
 | x :: xs, vs, h => by
  obtain ⟨v, r, e, a, b⟩ := h
  exact ⟨v, r, e, a.congr hr hf k, RwF.congr hr hf k b⟩
theorem RwD.congr {s s' : S4} (hr : s'.rho = s.rho) (hf : ∀ a, s.fz a → s'.fz a) (k : ∀ a, s.fz a → s'.H a = s.H a) : ∀ {ws : List (T × W)} {vs : List (NestedKey × Addr × V)}, RwD K s ws vs → RwD K s' ws vs
 | [], _, h => h
 | x :: xs, vs, h => by
  obtain ⟨q, b, v, r, e, h1, h2, h3, h4, h5⟩ := h
  exact ⟨q, b, v, r, e, h1, h2, Rf.congr hf k _ _ h3, h4.congr hr hf k, RwD.congr hr hf k h5⟩
theorem CellOk.congr {s s' : S4} (hr : s'.rho = s.rho) (hf : ∀ a, s.fz a → s'.fz a) (k : ∀ a, s.fz a → s'.H a = s.H a) {a : Addr} {c : Cell} {o : Option HO} (h : CellOk K ω s a c o) : CellOk K ω s' a c o := by
 cases c with
 | lst ws => obtain ⟨vs, e, l⟩ := h; exact ⟨vs, e, l.congr hr hf k⟩
 | dic kvs => obtain ⟨vs, e, l⟩ := h; exact ⟨vs, e, l.congr hr hf k⟩
 | ins c fs => obtain ⟨C, dx, vs, e, cn, l⟩ := h; exact ⟨C, dx, vs, e, cn, l.congr hr hf k⟩
 | dit kvs => obtain ⟨vs, e, l⟩ := h; exact ⟨vs, e, l.congr hr hf k⟩
 | tpl ws => obtain ⟨ob, vs, e, d, l⟩ := h; exact ⟨ob, vs, e, d, l.congr hr hf k⟩
 | dil kvs => obtain ⟨ob, vs, e, l⟩ := h; exact ⟨ob, vs, e, l.congr hr hf k⟩
variable {s s' : S4} {D : Addr} {o : HO}
theorem setD_k (nf : ¬ s.fz D) : ∀ a, s.fz a → (s.setD D o).H a = s.H a := fun a f => upd_ne fun z => nf (z ▸ f)
theorem rel_setD (R : Rel K ω s) (nr : D ∉ s.rho) (nf : ¬ s.fz D) : Rel K ω (s.setD D o) := by
 have tr : ∀ a, s.H a ≠ none → (s.setD D o).H a ≠ none := fun a h => by
  show upd s.H D o a ≠ none
  by_cases q : a = D
  ·rw [q, upd_same]; intro z; cases z
  ·rw [upd_ne q]; exact h
 refine ⟨R.len, R.nd, fun a m => tr a (R.trk a m), fun a f => tr a (R.ftrk a f), R.fz, fun i c a e1 e2 => ?_⟩
 have ne : a ≠ D := fun z => nr (z ▸ List.mem_of_getElem? e2)
 show CellOk K ω (s.setD D o) a c (upd s.H D o a)
 rw [upd_ne ne]
 exact CellOk.congr (s := s) (s' := s.setD D o) rfl (fun _ f => f) (setD_k nf) (R.cell i c a e1 e2)
/-- what is known of D stays behind a run -/
theorem Aft.away (A : Aft s s') (h : s.H D = some o) (nr : D ∉ s.rho) (nf : ¬ s.fz D) : s'.H D = some o ∧ D ∉ s'.rho ∧ ¬ s'.fz D := by
 have nl : ¬ Live s D := fun ⟨i, c, _, e⟩ => nr (List.mem_of_getElem? e)
 refine ⟨A.keep D o h nl, fun m => ?_, fun f => ?_⟩
 ·obtain ⟨ex, e, n⟩ := A.pre
  rw [e] at m
  rcases List.mem_append.mp m with m | m
  ·exact nr m
  ·rw [n D m] at h; cases h
 ·rcases A.fnew D f with f | f | f
  ·exact nf f
  ·rw [f] at h; cases h
  ·exact nl f
theorem Aft.setD {s0 : S4} (A : Aft s0 s) (h0 : s0.H D = none) {o' : HO} : Aft s0 (s.setD D o') := by
 refine ⟨A.pre, A.fz, fun a u e nl => ?_, A.fnew, A.live, fun a h => ?_⟩
 ·show upd s.H D o' a = some u
  rw [upd_ne (ne_of_none e h0)]; exact A.keep a u e nl
 ·show upd s.H D o' a ≠ none
  by_cases q : a = D
  ·rw [q, upd_same]; intro z; cases z
  ·rw [upd_ne q]; exact A.trk a h
theorem Go.bind0 {Wx : WX} {A B C E : Type} {Fam : S4 → A → B → Prop} {Gam : S4 → C → E → Prop} {s0 s : S4} {r : Res A} {k : A → IH → Res C} {Q : E → Hp → Prop} {R : B → Hp → Prop} (g : Go K ω Wx Gam s0 (r.bind k) Q) (A0 : Aft s0 s)
  (h : ∀ a b s', Aft s s' → Rel K ω s' → Fam s' a b → Go K ω Wx Gam s0 (k a s'.hp) Q → R b s'.H) : Go K ω Wx Fam s r R := by
 cases r with
 | ok x hp =>
  intro b s2 h1 h2 h3 h4
  subst h1
  exact h x b s2 h2 h3 h4 g
 | er e eta hp => exact Go.aft (Fam := Fam) (r := .er e eta hp) (Q := R) (show Go K ω Wx Fam s0 (.er e eta hp) R from g) A0
 | bad => exact g
end
/-- what the end of a comprehension asks: the list at D is handed on -/
def FinOk (K : PySem.W.Frag) (ω : World) (Wx : WX) (fin : OpN) : Prop := ∀ (s0 s : S4) (ws : List W) (vs : List V) (D : Addr) (Q : VK), Aft s0 s → Rel K ω s → s0.H D = none → D ∉ s.rho → ¬ s.fz D → s.H D = some (.lst vs) → RwL K s ws vs → Go K ω Wx (Rw K) s0 (fin ws s.hp) Q →
 Q (.ref D) s.H
theorem zbo {K : PySem.W.Frag} {ω : World} {Wx : WX} : FinOk K ω Wx zaj := by
 intro s0 s ws vs D Q A R h0 nr nf hD l g
 unfold zaj at g
 split at g
 ·rename_i ts ht
  split at g
  ·rename_i hz
   rw [zbt ht] at l
   have R2 : Rel K ω ⟨s.rho, fun a => s.fz a ∨ a = D, s.hp, s.H⟩ := by
    refine ⟨R.len, R.nd, R.trk, fun a f => ?_, fun a l f => ?_, fun i c a e1 e2 => CellOk.congr (s := s) (s' := ⟨s.rho, fun a => s.fz a ∨ a = D, s.hp, s.H⟩) rfl (fun _ f => Or.inl f) Yce (R.cell i c a e1 e2)⟩
    ·rcases f with f | f
     ·exact R.ftrk a f
     ·rw [f, hD]; intro z; cases z
    ·rcases f with f | f
     ·exact R.fz a l f
     ·obtain ⟨i, c, _, e⟩ := l
      exact nr (f ▸ List.mem_of_getElem? e)
   refine g (.ref D) ⟨s.rho, fun a => s.fz a ∨ a = D, s.hp, s.H⟩ rfl ⟨A.pre, fun a f => .inl (A.fz a f), A.keep, fun a f => ?_, A.live, A.trk⟩ R2 ?_
   ·rcases f with f | f
    ·exact A.fnew a f
    ·exact .inr (.inl (by rw [f]; exact h0))
   ·simp only [Rw, Rf]
    exact ⟨D, vs, rfl, ⟨.inr rfl, hD⟩, RfL.congr (fun _ f => .inl f) Yce _ _ Ydx⟩
  ·exact g.elim
 ·exact g.elim
section
variable {X : Cx} {Wx : WX} {elt tg iter : Expr} {Fi : M (List W)} {pos : Pos} {g : TG} {G : W → IS → Option IS} {vs : List Nat} {T : M Bool} {E : M W} {fin : OpN} {own : List (Str × Nat)}
theorem t_comp (us : List Nat) (ok : TgOk X.K X.w g G vs) (hv : ∀ i ∈ vs, i ∈ us) (hf : FinOk X.K X.w Wx fin) : ∀ σ H Q, tE X.K X.w Wx (zbq fin Fi G T E us) σ H Q →
  tLc (tM X.K X.w Wx (SrcF X.K X.w) Fi) g (tT X.K X.w W0 T) (tE X.K X.w W0 E) us σ H Q := fun σ H Q h =>
 tM.bind1 (R := fun (J : It) (H1 : Hp) => ∀ D, H1 D = none → ∃ Wv : Nat → Nat → Hp → Prop, (∃ m, Wv 0 m (upd H1 D (.lst []))) ∧ ∀ i m H, Wv i m H →
   (J.stop i H ∧ Q (.ref D) H) ∨ (J.go i H ∧ ∃ Nx : Hp → Prop, (∀ H', Nx H' → ∃ m', m' < m ∧ Wv (i + 1) m' H') ∧ ∀ x H', J.yld i H x H' → g x (wipe σ us) H' fun σ2 H2 => wipe σ2 us = wipe σ us ∧ tT X.K X.w W0 T σ2 H2 fun b H3 =>
    if b = true then tE X.K X.w W0 E σ2 H3 fun y H4 => ∃ acc, H4 D = some (.lst acc) ∧ acc.length < sizeLine ∧ Nx (upd H4 D (.lst (acc ++ [y]))) else Nx H3))
  (k := fun (ws : List W) eta hp => if ws.length ≤ 16777216 then (zb8 G T E (wipeI eta us) ws hp).bind fun r h2 => fin r h2 else .bad) h fun s0 eta ws J R0 S0 src g0 D hD => by
  split at g0
  ·rename_i hz
   have hz' : ws.length ≤ sizeLine := by rw [sizeLine_eq]; exact hz
   have hw : Sl X.K s0 (wipeI eta us) (wipe σ us) := S0.wipe us
   refine ⟨fun i m H => m = ws.length - i ∧ i ≤ ws.length ∧ ∃ (s : S4) (acc : List W) (xs : List V), s.H = H ∧ Aft s0 s ∧ Rel X.K X.w s ∧ D ∉ s.rho ∧ ¬ s.fz D ∧ s.H D = some Yby ∧ RwL X.K s acc xs ∧ acc.length ≤ i ∧
     Go X.K X.w Wx (Rw X.K) s0 ((zb8 G T E (wipeI eta us) (ws.drop i) s.hp).bind fun r h => fin (acc ++ r) h) Q, ⟨ws.length, by simp, Nat.zero_le _, s0.setD D (.lst []), [], [], rfl, (Aft.refl s0).setD hD, rel_setD R0 (R0.fresh hD).1 (R0.fresh hD).2, (R0.fresh hD).1, (R0.fresh hD).2, upd_same, rfl, Nat.le_refl _, g0⟩, ?_⟩
   rintro i m H ⟨rfl, hi, s, acc, xs, rfl, A1, R1, nr, nf, hDx, l1, hl1, g1⟩
   obtain ⟨q1, q2⟩ := src s A1 R1 i
   by_cases hlt : i < ws.length
   ·obtain ⟨go, yl⟩ := q1 ws[i] (List.getElem?_eq_getElem hlt)
    refine .inr ⟨go, fun H' => i + 1 ≤ ws.length ∧ ∃ (s : S4) (acc : List W) (xs : List V), s.H = H' ∧ Aft s0 s ∧ Rel X.K X.w s ∧ D ∉ s.rho ∧ ¬ s.fz D ∧ s.H D = some Yby ∧ RwL X.K s acc xs ∧ acc.length ≤ i + 1 ∧
     Go X.K X.w Wx (Rw X.K) s0 ((zb8 G T E (wipeI eta us) (ws.drop (i + 1)) s.hp).bind fun r h => fin (acc ++ r) h) Q, fun H' n => ⟨ws.length - (i + 1), by omega, rfl, n⟩, fun x H' y => ?_⟩
    obtain ⟨s3, e3, hp3, A3, R3, rw3⟩ := yl x H' y
    subst e3
    obtain ⟨hD3, nr3, nf3⟩ := A3.away hDx nr nf
    have l3 := RwL.aft A3 R1 _ _ l1
    have A03 := A1.trans A3
    rw [List.drop_eq_getElem_cons hlt] at g1
    rw [← hp3] at g1
    simp only [zb8, Res.bind_assoc, turnL] at g1
    cases hG : G ws[i] (wipeI eta us) with
    | none => simp only [hG, noEr] at g1; exact g1.elim
    | some eta1 =>
     simp only [hG, noEr_bind, Res.bind_assoc] at g1
     obtain ⟨σ2, S2, w2, q4⟩ := ok.run s3 ws[i] x (wipeI eta us) (wipe σ us) eta1 R3 rw3 ((hw.aft A03 R0)) hG
     have wi : wipe (wipe σ us) us = wipe σ us := by
      apply List.ext_getElem?
      intro j
      by_cases hj : j ∈ us
      ·by_cases hl : j < σ.length
       ·rw [wipe_in hj (by rw [wipe_length]; exact hl), wipe_in hj hl]
       ·rw [List.getElem?_eq_none (by rw [wipe_length, wipe_length]; simpa using hl), List.getElem?_eq_none Ye6]
      ·rw [wipe_get hj]
     refine q4 _ ⟨(w2 us hv).trans wi, s3, eta1, rfl, R3, S2, Go.noEr (Go.bind0 g1 A03 fun b bv s4 A4 R4 f4 g4 => ?_)⟩
     subst f4
     obtain ⟨hD4, nr4, nf4⟩ := A4.away hD3 nr3 nf3
     have l4 := RwL.aft A4 R3 _ _ l3
     have A04 := A03.trans A4
     cases b with
     | false =>
      simp only [Bool.false_eq_true, if_false, noEr, Res.bind] at g4
      rw [if_neg Bool.false_ne_true]
      exact ⟨hlt, s4, acc, xs, rfl, A04, R4, nr4, nf4, hD4, l4, by omega, g4⟩
     | true =>
      simp only [if_true, noEr_bind, Res.bind_assoc] at g4
      rw [if_pos rfl]
      refine ⟨s4, eta1, rfl, R4, S2.aft A4 R3, Go.noEr (Go.bind0 g4 A04 fun yw yv s5 A5 R5 f5 g5 => ?_)⟩
      obtain ⟨hD5, nr5, nf5⟩ := A5.away hD4 nr4 nf4
      have l5 := RwL.aft A5 R4 _ _ l4
      have A05 := A04.trans A5
      refine ⟨xs, hD5, by rw [← RwL.length l5]; omega, hlt, s5.setD D (.lst (xs ++ [yv])), acc ++ [yw], xs ++ [yv], rfl, A05.setD hD, rel_setD R5 nr5 nf5, nr5, nf5, upd_same, ?_, by simp; omega, ?_⟩
      ·exact RwL.append (RwL.congr (s := s5) (s' := s5.setD D _) rfl (fun _ f => f) (setD_k nf5) l5) ⟨yv, [], rfl, Rw.congr (s := s5) (s' := s5.setD D _) rfl (fun _ f => f) (setD_k nf5) f5, rfl⟩
      ·simp only [noEr, Res.bind] at g5
       have e : ∀ (r : Res (List W)), (r.bind fun r h2 => (Res.ok (yw :: r) h2).bind fun r h => fin (acc ++ r) h) = (r.bind fun r h => fin ((acc ++ [yw]) ++ r) h) := fun r => by cases r <;> simp [Res.bind]
       have e2 := e (zb8 G T E (wipeI eta us) (ws.drop (i + 1)) s5.hp)
       exact e2 ▸ g5
   ·have e : i = ws.length := by omega
    subst e
    refine .inl ⟨q2 rfl, ?_⟩
    rw [List.drop_length] at g1
    simp only [zb8, Res.bind, List.append_nil] at g1
    exact hf s0 s acc xs D Q A1 R1 hD nr nf hDx l1 g1
  ·exact g0.elim
end
end Mir
namespace Mir
open PySem PySem.Spec L2
open PyProof.Rows hiding St
structure FnG (P : Program) (w : World) (K : PySem.W.Frag) (mg : Str → Option Value) (base : Heap) (CX : CXT) (k : Nat) (f : Addr) (fd : FuncData) (ps : List Str) (sp : Sp) : Prop where
 len : ∀ vs H Q E, sp vs H Q E → vs.length = ps.length
 run : ∀ (A : Around) (outer : List Env) (s : Shared) (H : Hp) (args : Args) (us : List Value) (vs : List V) (Q : VK) (E : XK), Room k A → A.guards = some [] → Env0 P w K mg base A outer s H → BindsTo s fd args (ps.zip us) → Vals vs us →
  sp vs H Q E → codeAny Ybt A (.call (.ref f) args) (CR CX outer P w H s Q E) s
section
variable {P : Program} {w : World} {K : PySem.W.Frag} {mg : Str → Option Value} {base : Heap} {CX : CXT} {f : Addr} {fd : FuncData} {ps : List Str} {sp : Sp}
theorem FnG.mono {j k : Nat} (F : FnG P w K mg base CX j f fd ps sp) (h : j ≤ k) : FnG P w K mg base CX k f fd ps sp :=
 ⟨F.len, fun A outer s H args us vs Q E hr hg => F.run A outer s H args us vs Q E (hr.mono h) hg⟩
/-- a def by its body -/
theorem Fun.okG {k : Nat} {x qual : Str} {st : Stmt} {N : List Str} {dvs : List V} {kws : List Yea} (F : FunD K x qual (defArgs st) Yfo Ya7 dvs kws f fd) (S : FnScope N ps Ya7) (len : ∀ vs H Q E, sp vs H Q E → vs.length = ps.length)
  (hb : ∀ (cdv : Value) (A : Around) (outer : List Env) (s : Shared) (H : Hp) (vs : List V) (Q : VK) (E : XK), Room k Yaz → A.guards = some [] → sp vs H Q E →
   ∃ t, PSs Yc2 Yfo t ∧ t { nx := fun _ H' => Q .non H', rt := Q } (L2.start N vs) H) : FnG P w K mg base CX (k + 1) f fd ps sp := by
 obtain ⟨oc, od, dV, kV, doc, pm, an, cdv, ct, osl, rfl, lk, hcd, _, _⟩ := F.ex
 refine ⟨len, fun A outer s H args us vs Q E hr hgd e0 hbd r hsp => ?_⟩
 have hl := len _ _ _ _ hsp
 have keep : ∀ b o, base.get? b = some o → s.heap.get? b = some o := fun b o e => (e0.bs b o e).1
 have KX : K.In s.heap := e0.mod.kin.keeps keep
 have bound : ∀ y ∈ ps.zip us, (defScope st).names.lookup y.1 = some .local ∨ ((defScope st).names.lookup y.1 = some .cell ∧ ((cellsFrom Ybb (defScope st).names []).lookup y.1).isSome = true) := by
  rintro ⟨n, v⟩ hy
  refine (S.par n (List.of_mem_zip hy).1).imp id fun q => ⟨q, ?_⟩
  exact PySem.W.cellsFrom_some _ _ _ (.inl q)
 refine codeAny_call_function hr.depth (KX _ _ lk) rfl S.co S.gen rfl (PySem.W.codeRec_of KX hcd) (hbd _ _ _ _ ?_)
 refine wpAny_newFunctionEnv_cells S.kind bound ?_
 rintro env rfl s1 x
 refine ⟨(e0.mod.nolimit.keeps keep).keeps x.toInCall.keep, codeAny_func ?_⟩
 obtain ⟨t, ht, hq⟩ := hb cdv A outer s H vs Q E (hr.deeper _) hgd hsp
 have I := inv_start (CX := CX) (N := N) (E := E) S hr.hd e0 hl r x
 refine wpAny_mono (ht.run [] s1 (L2.start N vs) H _ I hq) ?_ fun e s' hs => hs
 have fin : ∀ {s' : Shared} {σ' : L2.St} {H' : Hp} {v : V} {u : Value}, Inv Yc2 [] σ' H' s' → RelV v u → Q v H' → CE outer P w H s Q u s' :=
  fun {s' σ' H' v u} J rv q => ⟨v, H', J.os, J.bare, J.base, J.hok, rv, q⟩
 intro fl s' hs
 cases fl with
 | ret u => obtain ⟨v, σ', H', J, rv, q⟩ := hs; exact fin J rv q
 | next => obtain ⟨σ', H', J, q⟩ := hs; exact fin (v := V.non) (u := Value.none) J rfl q
 | brk => obtain ⟨_, _, _, q⟩ := hs; exact q.elim
 | cont => obtain ⟨_, _, _, q⟩ := hs; exact q.elim
end
section
variable {X : Cx} {CX : CXT} {k : Nat} {f C : Addr} {fd : FuncData} {ps : List Str} {sp : Sp} {dvs : List V} {ds : List Value} {E : XK} {x m : Str} {p pos apos : Pos} {e o : Expr} {es : List Expr} {ta : TE} {t : TA}
theorem runG {pins : List Ydk} {σ : L2.St} {H : Hp} {s : Shared} {Q : VK} {us : List Value} {vs : List V} (F : FnG X.prog X.w X.K X.mg X.base CX k f fd ps sp) (hr : Room k X.A) (hgd : X.A.guards = some []) (hb : Binds X.K fd ps ds) (hd : Vals dvs ds) (hx : Passes CX X E)
  (I : Inv X pins σ H s) (r : Vals vs us) (h : sp (vs ++ dvs) H Q E) : wpAny Yaf X.A (call (.ref f) us) (EP X pins σ Q) X.xe s := by
 have r2 := r.append hd
 have hl : (us ++ ds).length = ps.length := r2.length.symm.trans (F.len _ _ _ _ h)
 refine wpAny_call (codeAny_mono (F.run X.A X.stack s H ⟨us, []⟩ (us ++ ds) (vs ++ dvs) Q E hr hgd I.env0 (hb s us I.kIn hl) r2 h) ?_)
 rintro (e | fl) s' hq
 ·exact hx pins σ H s e s' I hq
 ·cases fl <;> first | exact I.after hq | exact (show False from hq).elim
theorem pe_callG (F : FnG X.prog X.w X.K X.mg X.base CX k f fd ps sp) (hr : Room k X.A) (hgd : X.A.guards = some []) (hg : Gl X x) (hm : X.mg x = some (.ref f)) (hk : PySem.W.keepIn X.K (.ref f) = true) (hb : Binds X.K fd ps ds) (hd : Vals dvs ds) (hx : Passes CX X E)
  (ha : PA X Yb3 t) (hdb : (x == ("__debug__" : Str)) = false := by decide) (he : starEach Yb3 X.env = (false, eval e X.env) :: starEach es X.env := by rfl) (hpl : (backTo pos Yb0).any (·.1) = false := by rfl) :
  PE X Yab (tCall sp dvs E t) := ⟨fun pins s σ H Q I h => by
 refine wpAny_Call_Name_kw (ld_glob I hg hm ?_ hdb)
 refine PySem.W.callWith_K (h₀ := X.base) I.ok.mod.kin hk (thn (ha.run pos pins s σ H _ I h) ?_) he hpl
 rintro us s1 ⟨vs, H1, I1, r, q⟩
 exact ⟨I1.kIn, runG F hr hgd hb hd hx I1 r q⟩⟩
end
theorem law_callG {P : Program} {w : World} {K : PySem.W.Frag} {mg mb : Str → Option Value} {CX : CXT} {k : Nat} {fa a : Addr} {fd : FuncData} {x : Str} {sp : Sp} {s1 : Shared} {us : List Value} {ns : List Int}
  (KX : K.In s1.heap) (hns : s1.heap.Ns mainGlobals mg) (hb : s1.heap.Ns builtinsNs mb) (hbb : ∀ y : Str, y ≠ "__name__" → mb y = bootBuiltins y) (hlim : s1.heap.NoLimit) (hg : s1.gens = #[])
  (ha : s1.heap.get? a = some { cls := .type "list", data := .seq us.toArray }) (hi : IntsAre us ns) (hl : ns.length ≤ sizeLine) (hr : Room k callerA)
  (F : ∀ base : Heap, K.In base → base.Ns mainGlobals mg → FnG P w K mg base CX k fa fd [x] sp) (hbind : ∀ (s : Shared) (u : Value), BindsTo s fd ⟨[u], []⟩ [(x, u)])
  (hsp : ∀ H : Hp, ((∃ o, H a = some Yfl) ∨ (∃ (o : Obj) (its : Array Value) (n : Nat), K.lookup a = some o ∧ o.cls = .type "list" ∧ o.dict = none ∧ o.data = .seq its n ∧ its.size ≤ sizeLine ∧ Vals Ycn its.toList)) → sp [.ref a] H (fun v _ => v = .bl true) fun _ _ _ => False)
  (hCX : ∀ H e s', CX [] H s1 Ydp e s' → False) :
  codeAny Ybt callerA (.call (.ref fa) ⟨[.ref a], []⟩) Yc3 s1 := by
 have rv := vals_ints hi
 have lenV := hi.length
 have main : ∀ H : Hp, Only H → ((∃ o, H a = some Yfl) ∨ (∃ (o : Obj) (its : Array Value) (n : Nat), K.lookup a = some o ∧ o.cls = .type "list" ∧ o.dict = none ∧ o.data = .seq its n ∧ its.size ≤ sizeLine ∧ Vals Ycn its.toList)) → HOk P w H s1.heap →
   (∀ b, H b ≠ none → b = a) → (H a ≠ none → K.lookup a = none) →
   codeAny Ybt callerA (.call (.ref fa) ⟨[.ref a], []⟩) Yc3 s1 := by
  intro H hO hS hok hA hK
  have isA : ∀ {b : Addr} {u : HO}, H b = some u → b = a := fun {b u} q => hA b (by rw [q]; exact Option.some_ne_none u)
  have free : ∀ {b : Addr} {o : Obj} {es : Array DictEntry} {ep : Nat}, s1.heap.get? b = some o → o.data = .dict es ep → H b = none := fun {b o es ep} e d => by
   cases q : H b with
   | none => rfl
   | some u =>
    rw [isA q, ha] at e
    cases e
    cases (show Data.seq us.toArray _ = Data.dict es ep from d)
  have nsK : ∀ {b : Addr} {m : Str → Option Value}, s1.heap.Ns b m → (hidT s1.heap H).Ns b m := fun {b m} ⟨o, es, ep, e, d, r⟩ => ⟨o, es, ep, hidT_get e (free e d), d, r⟩
  have hKb : K.In (hidT s1.heap H) := fun b o e => hidT_get (KX b o e) (by
   cases q : H b with
   | none => rfl
   | some u =>
    obtain rfl := isA q
    rw [hK (by rw [q]; exact Option.some_ne_none u)] at e
    cases e)
  have hM : Mod K mg (hidT s1.heap H) := by
   obtain ⟨mc, m1, m2⟩ := hlim
   exact ⟨hKb, nsK hns, ⟨mb, nsK hb, hbb⟩, mc, nsK m1, m2⟩
  have e0 : Env0 P w K mg (hidT s1.heap H) callerA [] s1 H :=
   { frames := rfl, mod := hM, bs := fun b o e => of_hidT e, bsz := Nat.le_of_eq (hidT_size _ _), funs := trivial, frf := fun b q => absurd (show b ∈ ([] : List Addr) from q) Yav, hok := hok, bare := .of_eq hg }
  refine codeAny_mono ((F _ hKb (nsK hns)).run callerA [] s1 H ⟨[.ref a], []⟩ [.ref a] [.ref a] _ _ hr rfl e0 (hbind s1 (.ref a)) (.cons rfl .nil) (hsp H hS)) ?_
  rintro (e | fl) s' h
  ·exact (hCX H e s' h).elim
  ·cases fl with
   | ret u =>
    obtain ⟨v, H', os, bare, un, hok', r', q⟩ := h
    obtain rfl : v = .bl true := q
    obtain rfl : u = Value.bool true := r'
    refine ⟨rfl, OldK.of_keep fun b o e => ?_, os, bare⟩
    rcases hO b with z | ⟨ob, xs, z⟩
    ·exact un.keep b o e z (fun m => nomatch (show b ∈ ([] : List Addr) from m)) (fun m => nomatch m)
    ·have z2 := un.frzs b ob _ z
     have e1 := (hok b _ z).1
     have e2 := (hok' b _ z2).1
     rw [e] at e1
     cases e1
     exact e2
   | next => exact (show False from h).elim
   | brk => exact (show False from h).elim
   | cont => exact (show False from h).elim
 cases hk : K.lookup a with
 | some o =>
  have e := KX a o hk
  rw [ha] at e
  cases e
  refine main (fun _ => none) (fun _ => .inl rfl) (.inr ⟨_, us.toArray, _, hk, rfl, rfl, rfl, by rw [List.size_toArray, lenV]; exact hl, by simpa using rv⟩) ?_ (fun b z => absurd rfl z) fun z => absurd rfl z
  intro b u z
  cases (show (none : Option HO) = some u from z)
 | none =>
  refine main (fun b => if b = a then some (.frz { cls := .type "list", data := .seq us.toArray } (.lst Ycn)) else none) ?_ (.inl ⟨{ cls := .type "list", data := .seq us.toArray }, if_pos rfl⟩) ?_ ?_ fun _ => hk
  ·intro b
   by_cases hb : b = a
   ·exact .inr ⟨_, _, if_pos hb⟩
   ·exact .inl (if_neg hb)
  ·intro b u z
   by_cases hb : b = a
   ·cases (if_pos hb).symm.trans z
    subst hb
    exact ⟨ha, by rw [List.length_map]; exact hl, us, _, rv, ha⟩
   ·cases (if_neg hb).symm.trans z
  ·intro b z
   by_cases hb : b = a
   ·exact hb
   ·exact absurd (if_neg hb) z
/-- what k_head leaves, from the law's promise -/
theorem walkG {l : PySem.W.OpenLaw} {n k : Nat} {q : Program} {loose : List Str} {XP : (Str → Option Value) → Heap → Prop} {YP : World → Heap → Prop} {d : DefRec} {K : Params → PySem.W.Frag} {CX : World → CXT} {sp : World → Sp} {x : Str}
  (hn : l.most = some n) (hn2 : n ≤ sizeLine) (hdf : d.params.defaults = []) (hr : Room k callerA) (hY : ∀ (w : World) (h : Heap), YP w h → (K w.params).In h)
  (F : ∀ (w : World) (mg : Str → Option Value) (fa : Addr) (h : Heap), (K w.params).In h → h.Ns mainGlobals mg → mg d.name = some (.ref fa) →
   ∃ fd : FuncData, (∀ (s : Shared) (u : Value), BindsTo s fd ⟨[u], []⟩ [(x, u)]) ∧
    ∀ base : Heap, (K w.params).In base → base.Ns mainGlobals mg → FnG l.prog w (K w.params) mg base (CX w) k fa fd [x] (sp w))
  (hsp : ∀ (w : World) (H : Hp) (a : Addr) (ns : List Int), ns.length ≤ n → ((∃ o, H a = some Yfl) ∨ (∃ (o : Obj) (its : Array Value) (m : Nat), (K w.params).lookup a = some o ∧ o.cls = .type "list" ∧ o.dict = none ∧ o.data = .seq its m ∧ its.size ≤ sizeLine ∧ Vals Ycn its.toList)) →
   sp w [.ref a] H (fun v _ => v = .bl true) fun _ _ _ => False)
  (hCX : ∀ (w : World) (H : Hp) (s : Shared) (e : Value) (s' : Shared), CX w [] H s Ydp e s' → False) :
  PySem.W.WalkO q loose XP YP l.row.toRowW d [] (fun f vs => PySem.call f vs) := by
 refine Att.attach_call hn hdf ?_
 intro w s0 s1 mg mb fa o pm cd doc a us ns G Y ho hd hcd hmg hobj hints hlen hg
 have KX := hY w _ Y
 obtain ⟨fd, hb, hF⟩ := F w mg fa _ KX G.T.g hmg
 exact law_callG KX G.T.g G.T.b G.T.builtins G.T.nolimit hg hobj hints (Nat.le_trans hlen hn2) hr hF hb (fun H hS => hsp w H a ns hlen hS) fun H e s' => hCX w H s1 e s'
end Mir
namespace Mir
open PySem PySem.Spec L2
open PyProof.Rows hiding St
section
variable {K : PySem.W.Frag} {ω : World} {s : S4}
/-- a frozen sequence, as it lies -/
def FSq (K : PySem.W.Frag) (ω : World) (s : S4) (kd : Kd) (a : Addr) (ts : List T) : Prop := ∃ vs, Sq K s.H kd a vs ∧ RfL K s.fz s.H ts vs ∧ ∀ s', Aft s s' → Rel K ω s' → Sq K s'.H kd a vs
theorem fsq_of (R : Rel K ω s) {x : T} {v : V} (r : Rf K s.fz s.H x v) {ts : List T} (h : x = .tup ts ∨ x = .lst ts ∨ x = .scr ts) : ∃ kd a, v = .ref a ∧ FSq K ω s kd a ts := by
 rcases h with h | h | h <;> subst h
 ·obtain ⟨a, vs, e, t, l⟩ : ∃ a vs, v = .ref a ∧ FTup K s.fz s.H a vs ∧ RfL K s.fz s.H ts vs := by simpa only [Rf] using r
  exact ⟨.t, a, e, vs, t.sq, l, fun s' A _ => (t.aft A R).sq⟩
 ·obtain ⟨a, vs, e, t, l⟩ : ∃ a vs, v = .ref a ∧ FLst s.fz s.H a vs ∧ RfL K s.fz s.H ts vs := by simpa only [Rf] using r
  exact ⟨.l, a, e, vs, t.sq, l, fun s' A _ => (t.aft A R).sq⟩
 ·obtain ⟨a, vs, e, t, l⟩ : ∃ a vs, v = .ref a ∧ FScr K s.fz s.H a vs ∧ RfL K s.fz s.H ts vs := by simpa only [Rf] using r
  exact ⟨.l, a, e, vs, t.sq, l, fun s' A _ => (t.aft A R).sq⟩
/-- what a value walks, frozen -/
def seqT : W → Option (List T)
 | .t (.tup ts) => some ts
 | .t (.lst ts) => some ts
 | .t (.scr ts) => some ts
 | _ => none
theorem seqT_of {w : W} {ts : List T} (h : seqT w = some ts) : ∃ x, w = .t x ∧ (x = .tup ts ∨ x = .lst ts ∨ x = .scr ts) := by
 unfold seqT at h
 split at h <;> simp only [Option.some.injEq, reduceCtorEq] at h <;> subst h
 ·exact ⟨_, rfl, .inl rfl⟩
 ·exact ⟨_, rfl, .inr (.inl rfl)⟩
 ·exact ⟨_, rfl, .inr (.inr rfl)⟩
theorem fsq (R : Rel K ω s) {w : W} {v : V} {ts : List T} (h : seqT w = some ts) (r : Rw K s w v) : ∃ kd a, v = .ref a ∧ FSq K ω s kd a ts := by
 obtain ⟨x, rfl, hx⟩ := seqT_of h
 exact fsq_of R r hx
/-- plainly -/
theorem src_sq (R : Rel K ω s) {kd : Kd} {a : Addr} {ts : List T} (h : FSq K ω s kd a ts) : SrcF K ω s Yl (ItQ K kd a) := by
 obtain ⟨vs, _, l, st⟩ := h
 intro s' A' R' i
 have q := st s' A' R'
 have l' := RfL.aft A' R _ _ l
 have hl := RfL.length l
 refine ⟨fun w hw => ?_, fun e => ?_⟩
 ·obtain ⟨t, ht, rfl⟩ : ∃ t, ts[i]? = some t ∧ W.t t = w := by simpa using hw
  obtain ⟨v, hv, rv⟩ := RfL.get l' ht
  cases kd with
  | l => exact ⟨⟨vs, v, q, hv⟩, fun x H' y => ⟨s', y.1.symm, rfl, Aft.refl _, R', by
    have := y.2 vs q
    rw [hv] at this
    cases this
    exact rv⟩⟩
  | t => exact ⟨⟨vs, v, q, hv⟩, fun x H' y => ⟨s', y.1.symm, rfl, Aft.refl _, R', by
    have := y.2 vs q
    rw [hv] at this
    cases this
    exact rv⟩⟩
 ·cases kd with
  | l => exact ⟨vs, q, by rw [e, List.length_map, hl]; exact Nat.le_refl _⟩
  | t => exact ⟨vs, q, by rw [e, List.length_map, hl]; exact Nat.le_refl _⟩
theorem src_rng (lo : Int) (n : Nat) : SrcF K ω s ((List.range n).map fun i => W.t (.int (lo + (i : Nat)))) (Itr lo n) := by
 intro s' A' R' i
 refine ⟨fun w hw => ?_, fun e => ?_⟩
 ·have hi : i < n := by
   have := (List.getElem?_eq_some_iff.mp hw).1
   simpa using this
  refine ⟨hi, fun x H' y => ⟨s', y.1.symm, rfl, Aft.refl _, R', ?_⟩⟩
  have e : W.t (.int (lo + (i : Nat))) = w := by
   rw [List.getElem?_map, List.getElem?_range hi] at hw
   simpa using hw
  subst e
  simp only [Rw, Rf]
  exact y.2
 ·show n ≤ i
  rw [e]
  simp
/-- enumerate -/
def enumT : Nat → List T → List W
 | _, [] => []
 | i, t :: ts => .t (.pr [.int (i : Nat), t]) :: enumT (i + 1) ts
/-- zip -/
def zipT : List T → List T → List W
 | t :: ts, u :: us => .t (.pr [t, u]) :: zipT ts us
 | _, _ => []
/-- a text, sign by sign -/
def signs (x : Str) : List W := x.cps.toList.map fun c => .t Yb4
theorem src_str (x : Str) : SrcF K ω s (signs x) (Its x) := by
 intro s' A' R' i
 refine ⟨fun w hw => ?_, fun e => ?_⟩
 ·unfold signs at hw
  rw [List.getElem?_map, Option.map_eq_some_iff] at hw
  obtain ⟨c, hc, rfl⟩ := hw
  have hc' : x.cps[i]? = some c := by simpa using hc
  refine ⟨(Array.getElem?_eq_some_iff.mp hc').1, fun v H' y => ⟨s', y.1.symm, rfl, Aft.refl _, R', ?_⟩⟩
  obtain ⟨_, c', h1, h2⟩ := y
  rw [hc'] at h1
  cases h1
  simp only [Rw, Rf]
  exact h2
 ·show x.cps.size ≤ i
  rw [e]
  simp [signs]
end
def rng1 (ws : List W) (hp : IH) : Res (List W) := match ws with
 | [.t (.int j)] => if -(2 ^ 62) ≤ j ∧ j < 2 ^ 62 then .ok ((List.range j.toNat).map fun i => W.t (.int (0 + (i : Nat)))) hp else .bad
 | _ => .bad
def rng2 (ws : List W) (hp : IH) : Res (List W) := match ws with
 | [.t (.int i), .t (.int j)] => if -(2 ^ 62) ≤ i ∧ i < 2 ^ 62 ∧ -(2 ^ 62) ≤ j ∧ j < 2 ^ 62 then .ok Yfh hp else .bad
 | _ => .bad
def enum1 (ws : List W) (hp : IH) : Res (List W) := match ws with
 | [a] => (match seqT a with | some ts => .ok (enumT 0 ts) hp | none => .bad)
 | _ => .bad
def zip2 (ws : List W) (hp : IH) : Res (List W) := match ws with
 | [a, b] => (match seqT a, seqT b with | some ts, some us => .ok (zipT ts us) hp | _, _ => .bad)
 | _ => .bad
def sqI (a : W) (hp : IH) : Res (List W) := match seqT a with | some ts => .ok Yl hp | none => .bad
def strI (a : W) (hp : IH) : Res (List W) := match a with | .t (.str x) => .ok (signs x) hp | _ => .bad
def mSq (F : M W) : M (List W) := fun eta hp => (F eta hp).bind sqI
def mStrI (F : M W) : M (List W) := fun eta hp => (F eta hp).bind strI
def mSrc (f : List W → IH → Res (List W)) (Fs : M (List W)) : M (List W) := fun eta hp => (Fs eta hp).bind f
section
variable {X : Cx} {Wx : WX} {tg a b e : Expr} {F : M W} {Fs : M (List W)} {p pos tpos : Pos} {elts : List Expr} {kk : Nat}
theorem Go.src {s : S4} {ws : List W} {J : It} {Q : It → Hp → Prop} (R : Rel X.K X.w s) (g : Go X.K X.w Wx (SrcF X.K X.w) s (.ok ws s.hp) Q) (h : SrcF X.K X.w s ws J) : Q J s.H := g J s rfl Yg R h
/-- a list or a tuple -/
theorem ii_sq (he : IE X Wx e F) : II X Wx tg e (mSq F) := PI.imp (pi_sq he) fun σ H Q h =>
 tM.bind1 (R := fun (x : V) (H1 : Hp) => ∃ kd a xs, x = .ref a ∧ Sq X.K H1 kd a xs ∧ Q (ItQ X.K kd a) H1) (k := fun (a : W) _ h1 => sqI a h1) h fun s eta w v R1 S1 f1 g => by
  unfold sqI at g
  cases hq : seqT w with
  | none => simp only [hq] at g; exact g.elim
  | some ts =>
   simp only [hq] at g
   obtain ⟨kd, a, ev, fs⟩ := fsq R1 hq f1
   exact ⟨kd, a, _, ev, fs.choose_spec.1, Go.src R1 g (src_sq R1 fs)⟩
theorem ii_str (he : IE X Wx e F) : II X Wx tg e (mStrI F) := PI.imp (pi_str he) fun σ H Q h =>
 tM.bind1 (R := fun (x : V) (H1 : Hp) => ∃ z, x = .str z ∧ Q (Its z) H1) (k := fun (a : W) _ h1 => strI a h1) h fun s eta w v R1 S1 f1 g => by
  unfold strI at g
  split at g
  ·rename_i x
   simp only [Rw, Rf] at f1
   exact ⟨x, f1, Go.src R1 g (src_str x)⟩
  ·exact g.elim
theorem rwl1 {K : PySem.W.Frag} {s : S4} {a : W} {vs : List V} (h : RwL K s [a] vs) : ∃ v, vs = [v] ∧ Rw K s a v := by
 obtain ⟨v, r, e, q, n⟩ := h
 rw [show r = [] from n] at e
 exact ⟨v, e, q⟩
theorem ii_rng1 (hg : Gl X "range") (hm : X.mg "range" = none) (ha : IA X Wx [a] Fs) (hs : starEach [a] X.env = [(false, eval a X.env)] := by rfl) : II X Wx tg (.Call (.Name "range" p) [a] [] pos) (mSrc rng1 Fs) := PI.imp (pi_range1 hg hm ha hs) fun σ H Q h =>
 tM.bind1 (R := fun (vs : List V) (H1 : Hp) => ∃ j : Int, vs = [.int j] ∧ -(2 ^ 62) ≤ j ∧ j < 2 ^ 62 ∧ Q (Itr 0 j.toNat) H1) (k := fun (ws : List W) _ h1 => rng1 ws h1) h fun s eta ws vs R1 S1 f1 g => by
  unfold rng1 at g
  split at g
  ·rename_i j
   split at g
   ·rename_i hj
    obtain ⟨v, ev, rv⟩ := rwl1 f1
    simp only [Rw, Rf] at rv
    subst rv
    exact ⟨j, ev, hj.1, hj.2, Go.src R1 g (src_rng 0 _)⟩
   ·exact g.elim
  ·exact g.elim
end
section
variable {X : Cx} {Wx : WX} {elt tg iter : Expr} {ifs : List Expr} {scope : Scope} {own : List (Str × Nat)} {Fi : M (List W)} {pos : Pos} {g : TG} {G : W → IS → Option IS} {vs : List Nat} {tt : TT} {T : M Bool} {E : M W} {fin : OpN}
def mYes : M Bool := fun _ hp => .ok true hp
/-- a clause's tests -/
def ITs (X : Cx) (ifs : List Expr) (T : M Bool) : Prop := PTs X ifs (tT X.K X.w W0 T)
theorem PTs.imp {t t' : TT} (h : PTs X ifs t) (i : ∀ σ H Q, t' σ H Q → t σ H Q) : PTs X ifs t' := ⟨fun pins s σ H Q I hw => h.run pins s σ H Q I Yel⟩
theorem zb3 : ITs X [] mYes := PTs.imp pts_nil fun σ H Q h => by
 obtain ⟨s, eta, e1, R1, S1, g⟩ := h
 subst e1
 exact g true s rfl Yg R1 rfl
theorem its_one {c : Expr} (h : IT X W0 c T) : ITs X [c] T := pts_one h
theorem zcw (hc : X.calm = true) (hN : X.N.Nodup) (hi : II X Wx tg iter Fi) (ok : BlkOk X.N X.env.scope scope own)
  (hg : ∀ (s : Shared) (H : Hp) (C : Addr) (cl : List (Str × Addr)) (fp : List Addr), PG Yag tg g) (tok : TgOk X.K X.w g G vs)
  (ht : ∀ (s : Shared) (H : Hp) (C : Addr) (cl : List (Str × Addr)) (fp : List Addr), ITs Yag ifs T)
  (he : ∀ (s : Shared) (H : Hp) (C : Addr) (cl : List (Str × Addr)) (fp : List Addr), IE Yag W0 elt E) (hf : FinOk X.K X.w Wx fin) (hv : ∀ i ∈ vs, i ∈ own.map (·.2) := by decide) (hs : ∀ x, foldedSetIterable iter X.env x = pure x := by intro _; rfl) :
  IE X Wx Ydh (zbq fin Fi G T E (own.map (·.2))) := PE.imp (pe_lc (tt := tT X.K X.w W0 T) (te := tE X.K X.w W0 E) hc hN hi ok hg ht he hs) (t_comp _ tok hv hf)
theorem st_comp {i : Nat} {y : Str} {py spos : Pos} (hc : X.calm = true) (hN : X.N.Nodup) (hy : X.N[i]? = some y) (hyl : X.env.scope.names.lookup y = some .local)
  (hsw : swapsWith Ydh (some (.Name y py)) spos.line X.env = pure true) (hi : II X Wx tg iter Fi) (ok : BlkOk X.N X.env.scope scope own)
  (hg : ∀ (s : Shared) (H : Hp) (C : Addr) (cl : List (Str × Addr)) (fp : List Addr), PG Yag tg g) (tok : TgOk X.K X.w g G vs)
  (ht : ∀ (s : Shared) (H : Hp) (C : Addr) (cl : List (Str × Addr)) (fp : List Addr), ITs Yag ifs T)
  (he : ∀ (s : Shared) (H : Hp) (C : Addr) (cl : List (Str × Addr)) (fp : List Addr), IE Yag W0 elt E) (hf : FinOk X.K X.w Wx fin) (hv : ∀ i ∈ vs, i ∈ own.map (·.2) := by decide) (hs : ∀ x, foldedSetIterable iter X.env x = pure x := by intro _; rfl) :
  ISt X Wx (.Assign [.Name y py] Ydh spos) (mSet i (zbq fin Fi G T E (own.map (·.2)))) := PS.imp (ps_setLc (tt := tT X.K X.w W0 T) (te := tE X.K X.w W0 E) hc hN hy hyl hsw hi ok hg ht he hs) fun D σ H h => by
 have h' : tE X.K X.w Wx (zbq fin Fi G T E (own.map (·.2))) σ H (fun x H1 => D.nx (σ.set i (some x)) H1) :=
  tM.bind1 (R := fun (y : V) (H1 : Hp) => D.nx (σ.set i (some y)) H1) (k := fun (a : W) eta hp => .ok (Fl.nx Ydo) hp) h fun s eta a b R1 S1 f1 g1 => Go.nx R1 (S1.set i f1) g1
 exact t_comp _ tok hv hf σ H _ h'
end
/-- a def's function: its body at its parameters; a live result may not be younger than the call -/
def fnM (n nn : Nat) (B : M Fl) : OpN := fun ws hp => if ws.length = n then (match B Yds hp with
  | .ok (.rt w) h => .ok w h
  | .ok (.nx _) h => .ok Yar h
  | .er e _ h => .er e [] h
  | _ => .bad) else .bad
/-- .. of trees alone: its own cells are dropped -/
def fnP (n nn : Nat) (B : M Fl) : OpN := fun ws hp => if ws.length = n ∧ (allT ws).isSome = true then (match B Yds [] with
  | .ok (.rt (.t x)) _ => .ok (.t x) hp
  | .ok (.nx _) _ => .ok Yar hp
  | _ => .bad) else .bad
/-- the promise made of a function -/
def spM (K : PySem.W.Frag) (ω : World) (f : OpN) (n : Nat) : Sp := fun vs H Q _ => ∃ (s : S4) (ws : List W), s.H = H ∧ Rel K ω s ∧ RwL K s ws vs ∧ ws.length = n ∧ Go K ω W0 (Rw K) s (noEr (f ws s.hp)) Q
section
variable {K : PySem.W.Frag} {ω : World}
theorem spM_len {f : OpN} {n : Nat} {vs : List V} {H : Hp} {Q : VK} {E : XK} (h : spM K ω f n vs H Q E) : vs.length = n := by
 obtain ⟨s, ws, _, _, l, e, _⟩ := h
 rw [← RwL.length l, e]
theorem sl_start {s : S4} {N : List Str} {ws : List W} {vs : List V} (l : RwL K s ws vs) : Sl K s (ws.map some ++ List.replicate (N.length - ws.length) none) (L2.start N vs) := by
 have hl := RwL.length l
 refine ⟨by simp [L2.start, hl], fun i w e => ?_⟩
 by_cases hi : i < ws.length
 ·rw [List.getElem?_append_left (by simpa using hi), List.getElem?_map] at e
  cases q : ws[i]? with
  | none => rw [q] at e; cases e
  | some w' =>
   rw [q] at e
   cases e
   obtain ⟨v, h1, h2⟩ := RwL.get l q
   refine ⟨v, ?_, h2⟩
   unfold L2.start
   rw [List.getElem?_append_left (by rw [List.length_map, ← hl]; exact hi), List.getElem?_map, h1]
   rfl
 ·rw [List.getElem?_append_right (by simpa using hi), List.getElem?_replicate] at e
  split at e <;> cases e
/-- a run over the caller's heap without its cells -/
def S4.bare (s : S4) : S4 := ⟨[], s.fz, [], s.H⟩
theorem rel_bare {s : S4} (R : Rel K ω s) : Rel K ω s.bare := ⟨rfl, List.nodup_nil, fun a m => absurd m (by simp [S4.bare]), R.ftrk, fun a l => by obtain ⟨i, c, e, _⟩ := l; simp [S4.bare] at e, fun i c a e => by simp [S4.bare] at e⟩
theorem Rf.bare {s : S4} {x : T} {v : V} (h : Rw K s (.t x) v) : Rw K s.bare (.t x) v := h
theorem aft_bare {s s' : S4} (R : Rel K ω s) (A : Aft s.bare s') : Aft s ⟨s.rho, s'.fz, s.hp, s'.H⟩ ∧ (Rel K ω s' → Rel K ω ⟨s.rho, s'.fz, s.hp, s'.H⟩) := by
 have nl : ∀ a, ¬ Live s.bare a := fun a l => by obtain ⟨i, c, e, _⟩ := l; simp [S4.bare] at e
 have A1 : Aft s ⟨s.rho, s'.fz, s.hp, s'.H⟩ := by
  refine ⟨⟨[], by simp, by simp⟩, A.fz, fun a o e _ => A.keep a o e (nl a), fun a f => ?_, fun a l => .inl l, A.trk⟩
  rcases A.fnew a f with f | f | f
  ·exact .inl f
  ·exact .inr (.inl f)
  ·exact (nl a f).elim
 refine ⟨A1, fun R' => ⟨R.len, R.nd, fun a m => A.trk a (R.trk a m), R'.ftrk, fun a l f => ?_, fun i c a e1 e2 => ?_⟩⟩
 ·rcases A.fnew a f with f | f | f
  ·exact R.fz a l f
  ·obtain ⟨i, c, e1, e2⟩ := l
   exact R.liveH e1.1 e2 f
  ·exact nl a f
 ·have q := R.cell i c a e1 e2
  have ha : s.H a ≠ none := R.liveH e1 e2
  cases hq : s.H a with
  | none => exact absurd hq ha
  | some o =>
   show CellOk K ω _ a c (s'.H a)
   rw [A.keep a o hq (nl a), ← hq]
   exact q.aft A1 R
variable {P : Program} {w : World} {mg : Str → Option Value} {base : Heap}
theorem okM {x qual : Str} {st : Stmt} {f : Addr} {fd : FuncData} {N ps : List Str} {k : Nat} {B : M Fl} {dfs : List V} {kws : List Yea} (F : FunD K x qual (defArgs st) Yfo Ya7 dfs kws f fd) (S : FnScope N ps Ya7)
  (hb : ∀ (cdv : Value) (A : Around) (outer : List Env) (s : Shared) (H : Hp) (E : XK), Room k Yaz → A.guards = some [] → ISs (cxOf Yk P w K mg base N qual Ya7 f cdv A outer s H E).nox W0 Yfo B) :
  FnG P w K mg base Yk (k + 1) f fd ps (spM K w (fnM ps.length N.length B) ps.length) := by
 refine Fun.okG F S (fun vs H Q E h => spM_len h) fun cdv A outer s H vs Q E hr hgd h => ⟨_, PSs.nox (hb cdv A outer s H E hr hgd), ?_⟩
 obtain ⟨s0, ws, e1, R1, l, el, g⟩ := h
 refine ⟨s0, _, e1, R1, sl_start l, ?_⟩
 unfold fnM at g
 rw [if_pos el] at g
 rw [el]
 cases hB : B (ws.map some ++ List.replicate (N.length - ps.length) none) s0.hp with
 | ok fl hp =>
  rw [hB] at g
  cases fl with
  | rt wr => exact fun b s' h1 h2 h3 h4 => by cases b <;> first | exact h4.elim | exact g _ s' h1 h2 h3 h4
  | nx e => exact fun b s' h1 h2 h3 h4 => by cases b <;> first | exact h4.elim | exact g .non s' h1 h2 h3 (by simp [Rw, Rf])
  | bk e => exact g.elim
  | ct e => exact g.elim
 | er e eta hp => rw [hB] at g; exact g.elim
 | bad => rw [hB] at g; exact g.elim
theorem okP {x qual : Str} {st : Stmt} {f : Addr} {fd : FuncData} {N ps : List Str} {k : Nat} {B : M Fl} {dfs : List V} {kws : List Yea} (F : FunD K x qual (defArgs st) Yfo Ya7 dfs kws f fd) (S : FnScope N ps Ya7)
  (hb : ∀ (cdv : Value) (A : Around) (outer : List Env) (s : Shared) (H : Hp) (E : XK), Room k Yaz → A.guards = some [] → ISs (cxOf Yk P w K mg base N qual Ya7 f cdv A outer s H E).nox W0 Yfo B) :
  FnG P w K mg base Yk (k + 1) f fd ps (spM K w (fnP ps.length N.length B) ps.length) := by
 refine Fun.okG F S (fun vs H Q E h => spM_len h) fun cdv A outer s H vs Q E hr hgd h => ⟨_, PSs.nox (hb cdv A outer s H E hr hgd), ?_⟩
 obtain ⟨s0, ws, e1, R1, l, el, g⟩ := h
 unfold fnP at g
 cases ht : allT ws with
 | none => simp only [ht, Option.isSome_none, Bool.false_eq_true, and_false, if_false] at g; exact g.elim
 | some ts =>
  rw [if_pos ⟨el, by rw [ht]; rfl⟩] at g
  have lb : RwL K s0.bare ws vs := by
   rw [zbt ht] at l ⊢
   exact (RwL.of_trees (s := s0.bare)).mpr ((RwL.of_trees (s := s0)).mp l)
  refine ⟨s0.bare, _, e1, rel_bare R1, sl_start lb, ?_⟩
  rw [el]
  show Go K w W0 (RFl K) s0.bare (B _ []) _
  cases hB : B (ws.map some ++ List.replicate (N.length - ps.length) none) [] with
  | ok fl hp =>
   rw [hB] at g
   cases fl with
   | rt wr =>
    cases wr with
    | t y =>
     intro b s' h1 h2 h3 h4
     cases b <;> first | exact h4.elim | exact g _ ⟨s0.rho, s'.fz, s0.hp, s'.H⟩ rfl (aft_bare R1 h2).1 ((aft_bare R1 h2).2 h3) h4
    | r i => exact g.elim
   | nx e =>
    intro b s' h1 h2 h3 h4
    cases b <;> first | exact h4.elim | exact g .non ⟨s0.rho, s'.fz, s0.hp, s'.H⟩ rfl (aft_bare R1 h2).1 ((aft_bare R1 h2).2 h3) (by simp [Rw, Rf])
   | bk e => exact g.elim
   | ct e => exact g.elim
  | er e eta hp => rw [hB] at g; exact g.elim
  | bad => rw [hB] at g; exact g.elim
end
theorem zaz {n nn : Nat} {B : M Fl} : ∀ ws hp, ws.length ≠ n → fnM n nn B ws hp = .bad := fun ws hp h => by unfold fnM; rw [if_neg h]
theorem za9 {n nn : Nat} {B : M Fl} : ∀ ws hp, ws.length ≠ n → fnP n nn B ws hp = .bad := fun ws hp h => by unfold fnP; rw [if_neg fun z => h z.1]
/-- f(e, ..), then the defaults -/
def zan (f : OpN) (ds : List T) (Fs : M (List W)) : M W := fun eta hp => (Fs eta hp).bind fun ws h1 => noEr (f (ws ++ ds.map W.t) h1)
section
variable {X : Cx} {Wx : WX} {k : Nat} {f : Addr} {fd : FuncData} {ps : List Str} {m : OpN} {n : Nat} {x : Str} {p pos : Pos} {e : Expr} {es : List Expr} {Fs : M (List W)} {dvs : List V} {ds : List Value} {dts : List T}
theorem zak (Fk : FnG X.prog X.w X.K X.mg X.base Yft k f fd ps (spM X.K X.w m n)) (hr : Room k X.A) (hgd : X.A.guards = some []) (hg : Gl X x) (hm : X.mg x = some (.ref f)) (hk : PySem.W.keepIn X.K (.ref f) = true) (hb : Binds X.K fd ps ds) (hd : Vals dvs ds) (hdt : ∀ s, RwL X.K s (dts.map W.t) dvs) (hl : ∀ ws hp, ws.length ≠ n → m ws hp = .bad) (ha : IA X Wx Yb3 Fs)
  (hdb : (x == ("__debug__" : Str)) = false := by decide) (he : starEach Yb3 X.env = (false, eval e X.env) :: starEach es X.env := by rfl) (hpl : (backTo pos Yb0).any (·.1) = false := by rfl) : IE X Wx Yab (zan m dts Fs) :=
 PE.imp (pe_callG Fk hr hgd hg hm hk hb hd passL ha hdb he hpl) fun σ H Q h =>
  tM.bind1 (R := fun (vs : List V) (H1 : Hp) => spM X.K X.w m n (vs ++ dvs) H1 Q E0) (k := fun (ws : List W) _ h1 => noEr (m (ws ++ dts.map W.t) h1)) h fun s eta ws vs R1 S1 f1 g => by
   refine ⟨s, ws ++ dts.map W.t, rfl, R1, RwL.append f1 (hdt s), ?_, ?_⟩
   ·by_cases e : (ws ++ dts.map W.t).length = n
    ·exact e
    ·rw [hl _ _ e] at g; exact g.elim
   ·cases hq : m (ws ++ dts.map W.t) s.hp with
    | ok a h => rw [hq] at g; exact g
    | er e eta h => rw [hq] at g; exact g.elim
    | bad => rw [hq] at g; exact g.elim
end
end Mir
namespace Mir
open PySem PySem.Spec L2
open PyProof.Rows hiding St
def opI (C : Int → Int → Bool) (g : Int → Int → Int) : Op2 := fun a b hp => match a, b with
 | .t (.int i), .t (.int j) => if C i j = true then .ok (.t (.int (g i j))) hp else .bad
 | _, _ => .bad
def opC (g : Int → Int → Bool) : Op2 := fun a b hp => match a, b with
 | .t (.int i), .t (.int j) => .ok (.t (.bl (g i j))) hp
 | _, _ => .bad
def cYes : Int → Int → Bool := fun _ _ => true
def cMul : Int → Int → Bool := fun i j => decide (i.natAbs.log2 + j.natAbs.log2 < 1000000)
def cDiv : Int → Int → Bool := fun _ j => decide (0 < j ∧ j.natAbs.log2 < 9000)
def cMod : Int → Int → Bool := fun _ j => decide (0 < j)
def cPow : Int → Int → Bool := fun i j => decide (0 ≤ j ∧ j ≤ 1000000 ∧ i.natAbs < 2 ^ 64)
section
variable {K : PySem.W.Frag} {ω : World} {Wx : WX}
theorem ok_opI {C : Int → Int → Bool} {g : Int → Int → Int} {P : Int → Int → Prop} (h : ∀ i j, C i j = true → P i j) : zco K ω Wx (opI C g) (rI P fun i j => .int (g i j)) := by
 intro s a b x y Q R ra rb go
 unfold opI at go
 split at go
 ·rename_i i j
  split at go
  ·rename_i hc
   simp only [Rw, Rf] at ra rb
   exact ⟨i, j, ra, rb, h i j hc, go _ s rfl Yg R Ye⟩
  ·exact go.elim
 ·exact go.elim
theorem ok_opI0 {g : Int → Int → Int} : zco K ω Wx (opI cYes g) (rI0 fun i j => .int (g i j)) := by
 intro s a b x y Q R ra rb go
 unfold opI at go
 split at go
 ·rename_i i j
  rw [if_pos (show cYes i j = true from rfl)] at go
  simp only [Rw, Rf] at ra rb
  exact ⟨i, j, ra, rb, go _ s rfl Yg R Ye⟩
 ·exact go.elim
theorem ok_opC {g : Int → Int → Bool} : zco K ω Wx (opC g) (rI0 fun i j => .bl (g i j)) := by
 intro s a b x y Q R ra rb go
 unfold opC at go
 split at go
 ·rename_i i j
  simp only [Rw, Rf] at ra rb
  exact ⟨i, j, ra, rb, go _ s rfl Yg R Ye⟩
 ·exact go.elim
end
abbrev iSub : Op2 := opI cYes fun i j => i - j
abbrev iDiv : Op2 := opI cDiv fun i j => i / j
abbrev iMod : Op2 := opI cMod fun i j => i % j
abbrev iPow : Op2 := opI cPow fun i j => i ^ j.toNat
abbrev iLe : Op2 := opC fun i j => decide (i ≤ j)
abbrev iGt : Op2 := opC fun i j => decide (j < i)
abbrev iGe : Op2 := opC fun i j => decide (j ≤ i)
section
variable {X : Cx} {Wx : WX} {a b c e : Expr} {Fa Fb Fc F : M W} {pos : Pos}
theorem ie_sub (ha : IE X Wx a Fa) (hb : IE X Wx b Fb) : IE X Wx (.BinOp a .Sub b pos) (mBin iSub Fa Fb) := ie_bin op_sub ok_opI0 ha hb
theorem ie_div (ha : IE X Wx a Fa) (hb : IE X Wx b Fb) : IE X Wx (.BinOp a .FloorDiv b pos) (mBin iDiv Fa Fb) := ie_bin op_fdivW (ok_opI fun i j h => by simpa [cDiv, CDivW] using h) ha hb
theorem ie_mod (ha : IE X Wx a Fa) (hb : IE X Wx b Fb) : IE X Wx (.BinOp a .Mod b pos) (mBin iMod Fa Fb) := ie_bin op_mod (ok_opI fun i j h => by simpa [cMod] using h) ha hb
theorem ie_pow (ha : IE X Wx a Fa) (hb : IE X Wx b Fb) : IE X Wx (.BinOp a .Pow b pos) (mBin iPow Fa Fb) := ie_bin op_pow (ok_opI fun i j h => by simpa [cPow, CPow] using h) ha hb
theorem it_gt (ha : IE X Wx a Fa) (hb : IE X Wx b Fb) : IT X Wx (.Compare a [.Gt] [b] pos) (zaf asB (mBin iGt Fa Fb)) := it_cmp op_gt ok_opC ha hb (nomark _)
theorem it_ge (ha : IE X Wx a Fa) (hb : IE X Wx b Fb) : IT X Wx (.Compare a [.GtE] [b] pos) (zaf asB (mBin iGe Fa Fb)) := it_cmp op_ge ok_opC ha hb (nomark _)
def iNeg : Op1 := fun a hp => match a with | .t (.int i) => .ok (.t (.int (-i))) hp | _ => .bad
theorem ie_neg (ha : IE X Wx a Fa) : IE X Wx (.UnaryOp .USub a pos) (mUn iNeg Fa) := ie_un un_neg (fun s a x Q R ra go => by
 unfold iNeg at go
 split at go
 ·simp only [Rw, Rf] at ra
  exact ⟨_, ra, go _ s rfl Yg R Ye⟩
 ·exact go.elim) ha
end
def eqW (neg : Bool) : Op2 := fun a b hp => match asT hp a, asT hp b with
 | some x, some y => if fit x 60 = true ∧ fit y 60 = true then .ok (.t (.bl (if neg then !eqT x y else eqT x y))) hp else .bad
 | _, _ => .bad
def isN (neg : Bool) : Op2 := fun a b hp => match b with
 | .t .non => (match a with
  | .t .non => .ok (.t (.bl (!neg))) hp
  | _ => .ok (.t (.bl neg)) hp)
 | _ => .bad
def isB (neg : Bool) : Op2 := fun a b hp => match a, b with
 | .t (.bl i), .t (.bl j) => .ok Ygb hp
 | _, _ => .bad
def inW (neg : Bool) : Op2 := fun a b hp => match asT hp a, (items hp b).bind allT with
 | some x, some ys => if fit x 60 = true ∧ fitL ys 60 = true then .ok (.t (.bl (if neg then !(ys.any fun y => eqT y x) else ys.any fun y => eqT y x))) hp else .bad
 | _, _ => .bad
section
variable {K : PySem.W.Frag} {ω : World} {Wx : WX}
theorem ok_eq : zco K ω Wx Ybu (rEqP K) := by
 intro s a b x y Q R ra rb go
 unfold eqW at go
 cases h1 : asT s.hp a with
 | none => simp only [h1] at go; exact go.elim
 | some u =>
  cases h2 : asT s.hp b with
  | none => simp only [h1, h2] at go; exact go.elim
  | some v =>
   simp only [h1, h2] at go
   split at go
   ·rename_i hf
    have p1 := zcy u 60 hf.1
    have p2 := zcy v 60 hf.2
    refine ⟨dat u, dat v, asT_dp R h1 ra hf.1, asT_dp R h2 rb hf.2, p1.1, p2.1, p1.2, ?_⟩
    rw [eqT_dat u v 60 60 hf.1 hf.2]
    exact go _ s rfl Yg R Ye
   ·exact go.elim
theorem ok_ne : zco K ω Wx Yah (rNeP K) := by
 intro s a b x y Q R ra rb go
 unfold eqW at go
 cases h1 : asT s.hp a with
 | none => simp only [h1] at go; exact go.elim
 | some u =>
  cases h2 : asT s.hp b with
  | none => simp only [h1, h2] at go; exact go.elim
  | some v =>
   simp only [h1, h2] at go
   split at go
   ·rename_i hf
    have p1 := zcy u 60 hf.1
    have p2 := zcy v 60 hf.2
    refine ⟨dat u, dat v, asT_dp R h1 ra hf.1, asT_dp R h2 rb hf.2, p1.1, p2.1, p1.2, ?_⟩
    rw [eqT_dat u v 60 60 hf.1 hf.2]
    exact go _ s rfl Yg R Ye
   ·exact go.elim
theorem rf_non {s : S4} {w : W} {v : V} (r : Rw K s w v) : (v = .non ↔ w = .t .non) := by
 cases w with
 | r i => obtain ⟨a, _, e⟩ := r; subst e; simp
 | t x =>
  cases x <;> simp only [Rw, Rf] at r <;> first
   | (subst r; simp)
   | (obtain ⟨a, _, e, _⟩ := r; subst e; simp)
   | (obtain ⟨a, _, _, e, _⟩ := r; subst e; simp)
   | (obtain ⟨a, e, _⟩ := r; subst e; simp)
   | exact r.elim
theorem ok_isN : zco K ω Wx Ydy (fun x y H Q => y = .non ∧ Q (.bl (decide (x = .non))) H) := by
 intro s a b x y Q R ra rb go
 unfold isN at go
 split at go
 ·refine ⟨by simpa only [Rw, Rf] using rb, ?_⟩
  split at go
  ·have e : x = .non := by simpa only [Rw, Rf] using ra
   rw [decide_eq_true e]
   exact go _ s rfl Yg R Ye
  ·rename_i hn
   have e : ¬ x = .non := fun e => hn ((rf_non ra).mp e)
   rw [decide_eq_false e]
   exact go _ s rfl Yg R Ye
 ·exact go.elim
theorem ok_notN : zco K ω Wx (isN true) (fun x y H Q => y = .non ∧ Q (.bl (!decide (x = .non))) H) := by
 intro s a b x y Q R ra rb go
 unfold isN at go
 split at go
 ·refine ⟨by simpa only [Rw, Rf] using rb, ?_⟩
  split at go
  ·have e : x = .non := by simpa only [Rw, Rf] using ra
   rw [decide_eq_true e]
   exact go _ s rfl Yg R Ye
  ·rename_i hn
   have e : ¬ x = .non := fun e => hn ((rf_non ra).mp e)
   rw [decide_eq_false e]
   exact go _ s rfl Yg R Ye
 ·exact go.elim
theorem items_dp {s : S4} (R : Rel K ω s) {w : W} {v : V} {ys : List T} {n : Nat} (h : (items s.hp w).bind allT = some ys) (r : Rw K s w v) (f : fitL ys n = true) : Dp K s.H v (.list (datL ys)) ∨ Dp K s.H v (.tuple (datL ys)) := by
 rw [Option.bind_eq_some_iff] at h
 obtain ⟨ws, h1, h2⟩ := h
 obtain ⟨p, xs, e, q, l⟩ := items_sq R h1 r
 subst e
 rw [zbt h2] at l
 have d := RfL.dp ys xs n f Ydx
 rcases q with q | q
 ·exact .inr (.tup q d)
 ·exact .inl (.lst q d)
theorem any_dat {x : T} {n m : Nat} (fx : fit x n = true) : ∀ (ys : List T), fitL ys m = true → (datL ys).any (fun z => PyData.eqv z (dat x)) = ys.any fun y => eqT y x
 | [], _ => rfl
 | y :: ys, f => by
  simp only [fitL, Bool.and_eq_true] at f
  simp only [datL, List.any_cons, eqT_dat y x m n f.1 fx, any_dat fx ys f.2]
theorem ok_in {neg : Bool} : zco K ω Wx (inW neg) (rInP K neg) := by
 intro s a b x y Q R ra rb go
 unfold inW at go
 cases h1 : asT s.hp a with
 | none => simp only [h1] at go; exact go.elim
 | some u =>
  cases h2 : (items s.hp b).bind allT with
  | none => simp only [h1, h2] at go; exact go.elim
  | some ys =>
   simp only [h1, h2] at go
   split at go
   ·rename_i hf
    have p1 := zcy u 60 hf.1
    have p2 := fit_plainL ys 60 hf.2
    refine ⟨dat u, datL ys, asT_dp R h1 ra hf.1, items_dp R h2 rb hf.2, p1.1, p2.1, p1.2, ?_⟩
    rw [any_dat hf.1 ys hf.2]
    exact go _ s rfl Yg R Ye
   ·exact go.elim
end
section
variable {X : Cx} {Wx : WX} {a b c e : Expr} {Fa Fb Fc F : M W} {pos : Pos}
theorem it_eq (hu : X.A.units + 64 < cLine) (ha : IE X Wx a Fa) (hb : IE X Wx b Fb) : IT X Wx (.Compare a [.Eq] [b] pos) (zaf asB (mBin Ybu Fa Fb)) := it_cmp (op_eqP hu) ok_eq ha hb (nomark _)
theorem it_ne (hu : X.A.units + 64 < cLine) (ha : IE X Wx a Fa) (hb : IE X Wx b Fb) : IT X Wx (.Compare a [.NotEq] [b] pos) (zaf asB (mBin Yah Fa Fb)) := it_cmp (op_neP hu) ok_ne ha hb (nomark _)
theorem ie_isN (ha : IE X Wx a Fa) (hb : IE X Wx b Fb) : IE X Wx (.Compare a [.Is] [b] pos) (mBin Ydy Fa Fb) := ie_cmp op_isN ok_isN ha hb (nomark _)
theorem it_isN (ha : IE X Wx a Fa) (hb : IE X Wx b Fb) : IT X Wx (.Compare a [.Is] [b] pos) (zaf asB (mBin Ydy Fa Fb)) := it_cmp op_isN ok_isN ha hb (nomark _)
theorem it_notN (ha : IE X Wx a Fa) (hb : IE X Wx b Fb) : IT X Wx (.Compare a [.IsNot] [b] pos) (zaf asB (mBin (isN true) Fa Fb)) := it_cmp op_notN ok_notN ha hb (nomark _)
theorem it_in (hu : X.A.units + 64 < cLine) (ha : IE X Wx a Fa) (hb : IE X Wx b Fb) (hm : behindInMarks .In b = false := by rfl) : IT X Wx (.Compare a [.In] [b] pos) (zaf asB (mBin (inW false) Fa Fb)) := it_cmp (op_inP hu) ok_in ha hb hm
theorem it_nin (hu : X.A.units + 64 < cLine) (ha : IE X Wx a Fa) (hb : IE X Wx b Fb) (hm : behindInMarks .NotIn b = false := by rfl) : IT X Wx (.Compare a [.NotIn] [b] pos) (zaf asB (mBin (inW true) Fa Fb)) := it_cmp (op_ninP hu) ok_in ha hb hm
end
def ixW : Op2 := fun a b hp => match b with
 | .t (.int i) => (match a with
  | .t (.str z) => (match atI z.cps.toList i with | some c => if z.length ≤ 16777216 then .ok (.t Yb4) hp else .bad | none => .bad)
  | a => (match (items hp a).bind fun ws => atI ws i with | some w => .ok w hp | none => .bad))
 | _ => .bad
section
variable {K : PySem.W.Frag} {ω : World} {Wx : WX}
theorem atI_rw {s : S4} {ws : List W} {vs : List V} {i : Int} {w : W} (l : RwL K s ws vs) (h : atI ws i = some w) : ∃ v, atI vs i = some v ∧ Rw K s w v := by
 unfold atI at h ⊢
 rw [Option.bind_eq_some_iff] at h
 obtain ⟨j, h1, h2⟩ := h
 obtain ⟨v, q1, q2⟩ := RwL.get l h2
 exact ⟨v, by rw [← RwL.length l, h1]; exact q1, q2⟩
theorem ok_ix : zco K ω Wx ixW (rIx K) := by
 intro s a b x y Q R ra rb go
 unfold ixW at go
 split at go
 ·rename_i i
  have ey : y = .int i := by simpa only [Rw, Rf] using rb
  split at go
  ·rename_i z
   have ex : x = .str z := by simpa only [Rw, Rf] using ra
   split at go
   ·rename_i c hc
    split at go
    ·rename_i hz
     exact .inr (.inr ⟨z, i, c, ex, ey, by rw [sizeLine_eq]; exact hz, hc, go _ s rfl Yg R Ye⟩)
    ·exact go.elim
   ·exact go.elim
  ·split at go
   ·rename_i w hw
    rw [Option.bind_eq_some_iff] at hw
    obtain ⟨ws, h1, h2⟩ := hw
    obtain ⟨p, xs, e, q, l⟩ := items_sq R h1 ra
    obtain ⟨v, h3, h4⟩ := atI_rw l h2
    rcases q with q | q
    ·exact .inr (.inl ⟨p, xs, i, v, e, ey, q, h3, go _ s rfl Yg R h4⟩)
    ·exact .inl ⟨p, xs, i, v, e, ey, q, h3, go _ s rfl Yg R h4⟩
   ·exact go.elim
 ·exact go.elim
end
section
variable {X : Cx} {Wx : WX} {a b c e : Expr} {Fa Fb Fc F : M W} {pos : Pos}
theorem zap (ha : IE X Wx a Fa) (hb : IE X Wx b Fb) (hs : PlainIx b := by intro _ _; rfl) : IE X Wx (.Subscript a b pos) (mBin ixW Fa Fb) := ie_ix ix_seq ok_ix ha hb hs
end
abbrev MO := M (Option Int)
def zbc : MO := fun _ hp => .ok none hp
def zca (F : M W) : MO := fun eta hp => (F eta hp).bind fun a h1 => match a with | .t (.int i) => .ok (some i) h1 | _ => .bad
def IO (X : Cx) (Wx : WX) (e : Option Expr) (F : MO) : Prop := PO X e (tM X.K X.w Wx Yfm F)
def cutL {A : Type} (xs : List A) (lo hi : Option Int) : List A := (xs.drop (HT.sIx xs.length 0 lo)).take (HT.sIx xs.length xs.length hi - HT.sIx xs.length 0 lo)
/-- a slice: of a frozen list a frozen one, of a live list a frozen one -/
def slW (a : W) (lo hi : Option Int) (hp : IH) : Res W := match a with
 | .t (.str z) => if z.length ≤ 16777216 then .ok (.t (.str (cutS z lo hi))) hp else .bad
 | .t (.tup ts) => .ok (.t (.tup Yen)) hp
 | .t (.lst ts) => .ok (.t (.lst Yen)) hp
 | .t (.scr ts) => .ok (.t (.lst Yen)) hp
 | .r i => (match (getL hp i).bind allT with | some ts => .ok (.t (.lst Yen)) hp | none => .bad)
 | _ => .bad
def mSl (Fa : M W) (Fl Fh : MO) : M W := fun eta hp => (Fa eta hp).bind fun a h1 => (Fl eta h1).bind fun l h2 => (Fh eta h2).bind fun h h3 => slW a l h h3
section
variable {X : Cx} {Wx : WX} {a b c e : Expr} {lo hi : Option Expr} {Fa Fb Fc F : M W} {Fl Fh : MO} {pos p2 : Pos}
theorem PO.imp {e : Option Expr} {t t' : TO} (h : PO X e t) (i : ∀ σ H Q, t' σ H Q → t σ H Q) : PO X e t' := ⟨fun pins s σ H Q I hw => h.run pins s σ H Q I Yel⟩
theorem io_none : IO X Wx none zbc := PO.imp po_none fun σ H Q h => by
 obtain ⟨s, eta, e1, R1, S1, g⟩ := h
 subst e1
 exact g none s rfl Yg R1 rfl
theorem zcb (h : IE X Wx e F) : IO X Wx (some e) (zca F) := PO.imp (po_some h) fun σ H Q h =>
 tM.bind1 (R := fun (x : V) (H1 : Hp) => ∃ i, x = .int i ∧ Q (some i) H1) (k := fun (a : W) _ h1 => (match a with | .t (.int i) => .ok (some i) h1 | _ => .bad : Res (Option Int))) h fun s eta a b R1 _ f1 g => by
  split at g
  ·rename_i i
   simp only [Rw, Rf] at f1
   exact ⟨i, f1, g (some i) s rfl Yg R1 rfl⟩
  ·exact g.elim
theorem cut_rf {K : PySem.W.Frag} {s : S4} : ∀ {ts : List T} {vs : List V} (n m : Nat), RfL K s.fz s.H ts vs → RfL K s.fz s.H ((ts.drop n).take m) ((vs.drop n).take m) := by
 intro ts vs n
 induction n generalizing ts vs with
 | zero =>
  intro m
  induction m generalizing ts vs with
  | zero => intro _; simp [RfL]
  | succ m ih =>
   intro h
   cases ts with
   | nil => simp only [RfL] at h; subst h; simp [RfL]
   | cons t ts =>
    simp only [RfL] at h
    obtain ⟨v, r, e, a, b⟩ := h
    subst e
    simp only [List.drop_zero, List.take_succ_cons, RfL]
    exact ⟨v, _, rfl, a, by simpa using ih b⟩
 | succ n ih =>
  intro m h
  cases ts with
  | nil => simp only [RfL] at h; subst h; simp [RfL]
  | cons t ts =>
   simp only [RfL] at h
   obtain ⟨v, r, e, a, b⟩ := h
   subst e
   simpa using ih m b
theorem cutL_rf {K : PySem.W.Frag} {s : S4} {ts : List T} {vs : List V} (lo hi : Option Int) (h : RfL K s.fz s.H ts vs) : RfL K s.fz s.H Yen (cutV vs lo hi) := by
 unfold cutL cutV
 rw [RfL.length h]
 exact cut_rf _ _ h
theorem cutL_whole {A : Type} {ts : List A} {lo hi : Option Int} (h : HT.sIx ts.length 0 lo = 0 ∧ HT.sIx ts.length ts.length hi = ts.length) : cutL ts lo hi = ts := by
 unfold cutL
 rw [h.1, h.2]
 simp
theorem SlR.or3 {r1 r2 r3 : V → Option Int → Option Int → Hp → VK → Prop} (h1 : SlR X r1) (h2 : SlR X r2) (h3 : SlR X r3) : SlR X (fun x lo hi H Q => r1 x lo hi H Q ∨ (r2 x lo hi H Q ∨ r3 x lo hi H Q)) := h1.or (h2.or h3)
/-- t[lo:hi]: the whole of it is t itself; the object of a new one is known -/
def rSlB (K : PySem.W.Frag) : V → Option Int → Option Int → Hp → VK → Prop := fun x l u H Q => ∃ a xs, x = .ref a ∧ SqT K H a xs ∧
 (HT.sIx xs.length 0 l = 0 ∧ HT.sIx xs.length xs.length u = xs.length → Q (.ref a) H) ∧
 (¬ (HT.sIx xs.length 0 l = 0 ∧ HT.sIx xs.length xs.length u = xs.length) → ∀ (p : Addr) (o : Obj), H p = none → o.dict = none → Q (.ref p) (upd H p (.frz o (.tup (cutV xs l u)))))
theorem sl_tupB : SlR X (rSlB X.K) := by
 intro pn s0 σ H x v vl vu l u sl Q J rx hs pl pu h
 obtain ⟨a, xs, ex, hx, q1, q2⟩ := h
 subst ex
 cases rx
 obtain ⟨its, r, ht, hz⟩ := J.tuple hx
 have hlen : its.toArray.size = xs.length := by rw [List.size_toArray]; exact r.length.symm
 by_cases hw : HT.sIx xs.length 0 l = 0 ∧ HT.sIx xs.length xs.length u = xs.length
 ·exact ⟨"tuple", _, PyProof.Rows.slot_tuple_getitem.lookup, ht.typeIs, getItem_tuple_whole ht hs pl pu (by rw [hlen]; exact hw) ⟨.ref a, H, J, rfl, q1 hw⟩⟩
 ·refine ⟨"tuple", _, PyProof.Rows.slot_tuple_getitem.lookup, ht.typeIs, HT.getItem_tuple_cut ht hs pl pu (by rw [hlen]; exact hw) ?_ (by rw [hlen]; exact hz)⟩
  rw [hlen]
  exact laid_tup (t' := s0.toks) J ((r.drop (HT.sIx xs.length 0 l)).take (HT.sIx xs.length xs.length u - HT.sIx xs.length 0 l)) (Nat.le_trans (cutV_length xs l u) hz) (q2 hw)
theorem zb4 (ha : IE X Wx a Fa) (hl : IO X Wx lo Fl) (hh : IO X Wx hi Fh) : IE X Wx (.Subscript a (.Slice lo hi none p2) pos) (mSl Fa Fl Fh) :=
 PE.imp (pe_slice (SlR.or3 sl_list sl_tupB sl_str) ha hl hh) fun σ H Q h =>
  tM.bind1 (R := fun (x : V) (H1 : Hp) => tM X.K X.w Wx Yfm Fl σ H1 fun l H2 => tM X.K X.w Wx Yfm Fh σ H2 fun u H3 => rSlL X.K x l u H3 Q ∨ (rSlB X.K x l u H3 Q ∨ rSlS x l u H3 Q))
   (k := fun (w : W) eta h1 => (Fl eta h1).bind fun l h2 => (Fh eta h2).bind fun h h3 => slW w l h h3) h fun s eta w v R1 S1 f1 g => by
   refine ⟨s, eta, rfl, R1, S1, Go.bind g fun l l' s2 A2 R2 e2 _ g2 => ?_⟩
   subst e2
   refine ⟨s2, eta, rfl, R2, S1.aft A2 R1, Go.bind g2 fun u u' s3 A3 R3 e3 _ g3 => ?_⟩
   subst e3
   have f3 := (f1.aft A2 R1).aft A3 R2
   unfold slW at g3
   split at g3
   ·rename_i z
    split at g3
    ·rename_i hz
     simp only [Rw, Rf] at f3
     exact .inr (.inr ⟨z, f3, by rw [sizeLine_eq]; exact hz, g3 _ s3 rfl (Aft.refl s3) R3 Ye⟩)
    ·exact g3.elim
   ·rename_i ts
    obtain ⟨p, xs, e, t, q⟩ : ∃ a vs, v = .ref a ∧ FTup X.K s3.fz s3.H a vs ∧ RfL X.K s3.fz s3.H ts vs := by simpa only [Rw, Rf] using f3
    have hl := RfL.length q
    refine .inr (.inl ⟨p, xs, e, t.sq, fun hw => ?_, fun hw p' o np d => ?_⟩)
    ·refine g3 (.ref p) s3 rfl (Aft.refl s3) R3 ?_
     rw [← hl] at hw
     rw [cutL_whole hw]
     simp only [Rw, Rf]
     exact ⟨p, xs, rfl, t, q⟩
    ·exact g3 (.ref p') (s3.addF p' (.frz o (.tup (cutV xs l u)))) rfl (zbj R3 np) (zby R3 np) (addF_tup R3 np d (cutL_rf l u q))
   ·rename_i ts
    obtain ⟨p, xs, e, t, q⟩ : ∃ a vs, v = .ref a ∧ FLst s3.fz s3.H a vs ∧ RfL X.K s3.fz s3.H ts vs := by simpa only [Rw, Rf] using f3
    exact .inl ⟨p, xs, e, t.sq, fun p' np => g3 (.ref p') Yfu rfl (zbj R3 np) (zby R3 np) (zc7 R3 np (cutL_rf l u q))⟩
   ·rename_i ts
    obtain ⟨p, xs, e, t, q⟩ : ∃ a vs, v = .ref a ∧ FScr X.K s3.fz s3.H a vs ∧ RfL X.K s3.fz s3.H ts vs := by simpa only [Rw, Rf] using f3
    exact .inl ⟨p, xs, e, t.sq, fun p' np => g3 (.ref p') Yfu rfl (zbj R3 np) (zby R3 np) (zc7 R3 np (cutL_rf l u q))⟩
   ·rename_i i
    split at g3
    ·rename_i ts hq
     rw [Option.bind_eq_some_iff] at hq
     obtain ⟨ws, h1, h2⟩ := hq
     obtain ⟨p, xs, e', _, e2, l', _⟩ := R3.lst h1 f3
     rw [zbt h2] at l'
     exact .inl ⟨p, xs, e', .inl (.inl e2), fun p' np => g3 (.ref p') Yfu rfl (zbj R3 np) (zby R3 np) (zc7 R3 np (cutL_rf l u (RwL.of_trees.mp l')))⟩
    ·exact g3.elim
   ·exact g3.elim
end
end Mir
namespace Mir
open PySem PySem.Spec L2
open PyProof.Rows hiding St
def litems (hp : IH) : W → Option (List W)
 | .t (.lst xs) => some Yfn
 | .t (.scr xs) => some Yfn
 | .t _ => none
 | .r i => getL hp i
def asI : W → Option Int | .t (.int i) => some i | _ => none
def asBl : W → Option Bool | .t (.bl b) => some b | _ => none
def asS : W → Option Str | .t (.str b) => some b | _ => none
def allW {A : Type} (f : W → Option A) : List W → Option (List A)
 | [] => some []
 | w :: ws => (f w).bind fun a => (allW f ws).map fun r => a :: r
section
variable {K : PySem.W.Frag} {ω : World} {s : S4}
theorem litems_sq (R : Rel K ω s) {w : W} {v : V} {ws : List W} (h : litems s.hp w = some ws) (r : Rw K s w v) : ∃ p xs, v = .ref p ∧ SqL K s.H p xs ∧ RwL K s ws xs := by
 unfold litems at h
 split at h
 ·simp only [Option.some.injEq] at h
  subst h
  obtain ⟨p, xs, e, t, q⟩ : ∃ a vs, v = .ref a ∧ FLst s.fz s.H a vs ∧ RfL K s.fz s.H _ vs := by simpa only [Rw, Rf] using r
  exact ⟨p, xs, e, t.sq, RwL.of_trees.mpr q⟩
 ·simp only [Option.some.injEq] at h
  subst h
  obtain ⟨p, xs, e, t, q⟩ : ∃ a vs, v = .ref a ∧ FScr K s.fz s.H a vs ∧ RfL K s.fz s.H _ vs := by simpa only [Rw, Rf] using r
  exact ⟨p, xs, e, t.sq, RwL.of_trees.mpr q⟩
 ·cases h
 ·obtain ⟨a, vs, e, _, e2, l, _⟩ := R.lst h r
  exact ⟨a, vs, e, .inl (.inl e2), l⟩
theorem allB_eq : ∀ {ws : List W} {ns : List Bool} {vs : List V}, allW asBl ws = some ns → RwL K s ws vs → vs = ns.map V.bl
 | [], ns, vs, h, r => by
  simp only [allW, Option.some.injEq] at h
  subst h
  exact r
 | w :: ws, ns, vs, h, r => by
  simp only [allW, Option.bind_eq_some_iff, Option.map_eq_some_iff] at h
  obtain ⟨a, h1, m, h2, h3⟩ := h
  subst h3
  obtain ⟨v, t, e, rv, rt⟩ := r
  subst e
  rw [allB_eq h2 rt]
  unfold asBl at h1
  split at h1
  ·simp only [Option.some.injEq] at h1
   subst h1
   simp only [Rw, Rf] at rv
   rw [rv]; rfl
  ·cases h1
theorem RwL.one {w : W} {vs : List V} (r : RwL K s [w] vs) : ∃ v, vs = [v] ∧ Rw K s w v := by
 obtain ⟨v, t, e, a, b⟩ := r
 rw [show t = [] from b] at e
 exact ⟨v, e, a⟩
theorem RwL.two {w u : W} {vs : List V} (r : RwL K s [w, u] vs) : ∃ v x, vs = [v, x] ∧ Rw K s w v ∧ Rw K s u x := by
 obtain ⟨v, t, e, a, b⟩ := r
 obtain ⟨x, e2, b2⟩ := RwL.one b
 exact ⟨v, x, by rw [e, e2], a, b2⟩
/-- ints, texts, as trees -/
theorem ints_rf {fz : Addr → Prop} {H : Hp} : ∀ ns : List Int, RfL K fz H (ns.map T.int) Ycn
 | [] => by simp [RfL]
 | n :: ns => by simp only [List.map_cons, RfL]; exact ⟨_, _, rfl, by simp [Rf], ints_rf ns⟩
theorem strs_rf {fz : Addr → Prop} {H : Hp} : ∀ ns : List Str, RfL K fz H (ns.map T.str) (ns.map V.str)
 | [] => by simp [RfL]
 | n :: ns => by simp only [List.map_cons, RfL]; exact ⟨_, _, rfl, by simp [Rf], strs_rf ns⟩
end
def oLen : OpN := fun ws hp => match ws with
 | [.t (.str z)] => if z.length ≤ 16777216 then .ok (.t (.int z.length)) hp else .bad
 | [w] => (match items hp w with | some xs => .ok (.t (.int xs.length)) hp | none => .bad)
 | _ => .bad
def oInt : OpN := fun ws hp => match ws with
 | [.t (.int i)] => .ok Yal hp
 | [.t (.bl b)] => .ok (.t (.int (if b then 1 else 0))) hp
 | _ => .bad
def oAbs : OpN := fun ws hp => match ws with
 | [.t (.int i)] => .ok (.t Yf6) hp
 | _ => .bad
def oMax2 : OpN := fun ws hp => match ws with
 | [.t (.int i), .t (.int j)] => .ok (.t (.int (if j > i then j else i))) hp
 | _ => .bad
def oMin2 : OpN := fun ws hp => match ws with
 | [.t (.int i), .t (.int j)] => .ok (.t (.int (if j < i then j else i))) hp
 | _ => .bad
def oOnL {A : Type} (f : W → Option A) (g : List A → IH → Res W) : OpN := fun ws hp => match ws with
 | [w] => (match (litems hp w).bind (allW f) with | some ns => g ns hp | none => .bad)
 | _ => .bad
abbrev oAll : OpN := oOnL asBl fun bs hp => .ok (.t (.bl (bs.all id))) hp
def oListF : OpN := fun ws hp => match ws with
 | [w] => (match (items hp w).bind allT with | some ts => .ok Y3 hp | none => .bad)
 | _ => .bad
def oListL : OpN := fun ws hp => match ws with
 | [w] => (match items hp w with | some xs => .ok Ycm (hp ++ [some Yby]) | none => .bad)
 | _ => .bad
def oTup : OpN := fun ws hp => match ws with
 | [.t (.tup ts)] => .ok Y7 hp
 | [w] => (match (litems hp w).bind allT with | some ts => .ok Y7 hp | none => .bad)
 | _ => .bad
section
variable {K : PySem.W.Frag} {ω : World} {Wx : WX}
theorem zc3 : OpNOk K ω Wx oLen (fun xs H Q => ∃ x n, xs = [x] ∧ LenV K x H n ∧ Q (.int n) H) := by
 intro s ws xs Q R r go
 unfold oLen at go
 split at go
 ·obtain ⟨v, e, rv⟩ := RwL.one r
  subst e
  simp only [Rw, Rf] at rv
  subst rv
  split at go
  ·rename_i hz
   exact ⟨_, _, rfl, ⟨by rw [sizeLine_eq]; exact hz, rfl⟩, go _ s rfl Yg R Ye⟩
  ·exact go.elim
 ·obtain ⟨v, e, rv⟩ := RwL.one r
  subst e
  split at go
  ·rename_i ys hi
   obtain ⟨p, zs, e, q, l⟩ := items_sq R hi rv
   subst e
   refine ⟨_, zs.length, rfl, ?_, by rw [← RwL.length l]; exact go _ s rfl Yg R Ye⟩
   rcases q with q | q
   ·exact .inr ⟨zs, q, rfl⟩
   ·exact .inl ⟨zs, q, rfl⟩
  ·exact go.elim
 ·exact go.elim
theorem ok_int : OpNOk K ω Wx oInt (fun xs H Q => (∃ i, xs = [.int i] ∧ Q (.int i) H) ∨ ∃ k, xs = [.bl k] ∧ Q (.int (if k then 1 else 0)) H) := by
 intro s ws xs Q R r go
 unfold oInt at go
 split at go
 ·obtain ⟨v, e, rv⟩ := RwL.one r
  simp only [Rw, Rf] at rv
  subst e rv
  exact .inl ⟨_, rfl, go _ s rfl Yg R Ye⟩
 ·obtain ⟨v, e, rv⟩ := RwL.one r
  simp only [Rw, Rf] at rv
  subst e rv
  exact .inr ⟨_, rfl, go _ s rfl Yg R Ye⟩
 ·exact go.elim
theorem ok_abs : OpNOk K ω Wx oAbs (fun xs H Q => ∃ i, xs = [.int i] ∧ Q Yf6 H) := by
 intro s ws xs Q R r go
 unfold oAbs at go
 split at go
 ·obtain ⟨v, e, rv⟩ := RwL.one r
  simp only [Rw, Rf] at rv
  subst e rv
  exact ⟨_, rfl, go _ s rfl Yg R Ye⟩
 ·exact go.elim
theorem ok_max2 : OpNOk K ω Wx oMax2 (fun xs H Q => ∃ i j, xs = [.int i, .int j] ∧ Q (.int (if j > i then j else i)) H) := by
 intro s ws xs Q R r go
 unfold oMax2 at go
 split at go
 ·obtain ⟨v, u, e, rv, ru⟩ := RwL.two r
  simp only [Rw, Rf] at rv ru
  subst e rv ru
  exact ⟨_, _, rfl, go _ s rfl Yg R Ye⟩
 ·exact go.elim
theorem ok_min2 : OpNOk K ω Wx oMin2 (fun xs H Q => ∃ i j, xs = [.int i, .int j] ∧ Q (.int (if j < i then j else i)) H) := by
 intro s ws xs Q R r go
 unfold oMin2 at go
 split at go
 ·obtain ⟨v, u, e, rv, ru⟩ := RwL.two r
  simp only [Rw, Rf] at rv ru
  subst e rv ru
  exact ⟨_, _, rfl, go _ s rfl Yg R Ye⟩
 ·exact go.elim
theorem onL {A : Type} {f : W → Option A} {g : List A → IH → Res W} {s : S4} {ws : List W} {xs : List V} {Q : VK} (R : Rel K ω s) (r : RwL K s ws xs) (go : Go K ω Wx (Rw K) s (oOnL f g ws s.hp) Q) :
  ∃ p zs ys ns, xs = [V.ref p] ∧ SqL K s.H p zs ∧ RwL K s ys zs ∧ allW f ys = some ns ∧ Go K ω Wx (Rw K) s (g ns s.hp) Q := by
 unfold oOnL at go
 split at go
 ·obtain ⟨v, e, rv⟩ := RwL.one r
  split at go
  ·rename_i ns hn
   rw [Option.bind_eq_some_iff] at hn
   obtain ⟨ys, h1, h2⟩ := hn
   obtain ⟨p, zs, ev, q, l⟩ := litems_sq R h1 rv
   subst e ev
   exact ⟨p, zs, ys, ns, rfl, q, l, h2, go⟩
  ·exact go.elim
 ·exact go.elim
theorem ok_all : OpNOk K ω Wx oAll (rAll K) := by
 intro s ws xs Q R r go
 obtain ⟨p, zs, ys, ns, e, q, l, h, go⟩ := onL R r go
 rw [allB_eq h l] at q
 exact ⟨p, ns, e, q, go _ s rfl Yg R Ye⟩
theorem ok_listL : OpNOk K ω Wx oListL (fun xs H Q => ∃ p ys, xs = [.ref p] ∧ (SqL K H p ys ∨ SqT K H p ys) ∧ ∀ l, H l = none → Q (.ref l) (upd H l (.lst ys))) := by
 intro s ws xs Q R r go
 unfold oListL at go
 split at go
 ·obtain ⟨v, e, rv⟩ := RwL.one r
  split at go
  ·rename_i ys h1
   obtain ⟨p, zs, ev, q, l⟩ := items_sq R h1 rv
   subst e ev
   exact ⟨p, zs, rfl, q.symm, fun p' np => go (.ref p') (s.addL p' (.lst ys) (.lst zs)) rfl (aft_addL R np) (rel_addL R np ⟨zs, rfl, l⟩) (addL_r R)⟩
  ·exact go.elim
 ·exact go.elim
end
/-- tuple(x), the object of a new one known -/
def rTupS (K : PySem.W.Frag) : List V → Hp → VK → Prop := fun xs H Q => ∃ p ys, xs = [.ref p] ∧ ((SqL K H p ys ∧ ∀ (q : Addr) (o : Obj), H q = none → o.dict = none → Q (.ref q) (upd H q (.frz o (.tup ys)))) ∨ (SqT K H p ys ∧ Q (.ref p) H))
theorem zcj {X : Cx} : CallR X (.type "tuple") (rTupS X.K) := by
 intro pn s0 σ H xs us Q J r h
 obtain ⟨p, ys, rfl, h⟩ := h
 obtain ⟨u, rfl, rx⟩ := vals1 r
 cases rx
 rcases h with ⟨hq, q⟩ | ⟨hq, q⟩
 ·obtain ⟨its, rv, pl, hz⟩ := J.list hq
  refine call_tuple_list pl.isList (fun h' kp => ?_) (by rw [List.size_toArray, ← rv.length]; exact hz)
  exact laid_tup (s := { s0 with heap := h' }) (t' := s0.toks) (J.kept (t' := s0.toks) kp) rv hz q
 ·obtain ⟨its, rv, pl, hz⟩ := J.tuple hq
  exact call_tuple_same pl ⟨.ref p, H, J, rfl, q⟩
section
variable {K : PySem.W.Frag} {ω : World} {Wx : WX}
theorem ok_tup : OpNOk K ω Wx oTup (rTupS K) := by
 intro s ws xs Q R r go
 unfold oTup at go
 split at go
 ·obtain ⟨v, e, rv⟩ := RwL.one r
  subst e
  have rv' := rv
  obtain ⟨a, vs, ev, t, l⟩ : ∃ a vs, v = .ref a ∧ FTup K s.fz s.H a vs ∧ RfL K s.fz s.H _ vs := by simpa only [Rw, Rf] using rv
  subst ev
  exact ⟨a, vs, rfl, .inr ⟨t.sq, go _ s rfl Yg R rv'⟩⟩
 ·obtain ⟨v, e, rv⟩ := RwL.one r
  split at go
  ·rename_i ts ht
   rw [Option.bind_eq_some_iff] at ht
   obtain ⟨ys, h1, h2⟩ := ht
   obtain ⟨p, zs, ev, q, l⟩ := litems_sq R h1 rv
   subst e ev
   rw [zbt h2] at l
   exact ⟨p, zs, rfl, .inl ⟨q, fun p' o np d => go (.ref p') (s.addF p' (.frz o (.tup zs))) rfl (zbj R np) (zby R np) (addF_tup R np d Ydx)⟩⟩
  ·exact go.elim
 ·exact go.elim
end
section
variable {X : Cx} {Wx : WX} {e : Expr} {es : List Expr} {Fs : M (List W)} {pos p : Pos} {x : Str} {id Ty : String} {f : OpN} {r : List V → Hp → VK → Prop}
theorem t_app (hf : OpNOk X.K X.w Wx f r) : ∀ σ H Q, tE X.K X.w Wx (mApp f Fs) σ H Q → tCB r (tA X.K X.w Wx Fs) σ H Q := fun σ H Q h =>
 tM.bind1 (R := fun (xs : List V) (H1 : Hp) => r xs H1 Q) (k := fun (a : List W) _ hp => f a hp) h fun s eta a b R1 _ f1 g => hf s a b Q R1 f1 g
theorem zcl (hc : CallR X (.builtin id) r) (hf : OpNOk X.K X.w Wx f r) (ha : IA X Wx Yb3 Fs) (hm : X.mg x = none) (hg : Gl X x := by rfl) (hv : bootBuiltins x = some (.builtin id) := by with_unfolding_all rfl) (hn : x ≠ "__name__" := by decide) (hdb : (x == ("__debug__" : Str)) = false := by decide)
  (he : starEach Yb3 X.env = (false, eval e X.env) :: starEach es X.env := by rfl) (hpl : (backTo pos Yb0).any (·.1) = false := by rfl) : IE X Wx Yab (mApp f Fs) :=
 PE.imp (pe_callB hc hg hm hv ha hn hdb he hpl) (t_app hf)
theorem ie_bt (hc : CallR X (.type Ty) r) (hf : OpNOk X.K X.w Wx f r) (ha : IA X Wx Yb3 Fs) (hm : X.mg x = none) (hg : Gl X x := by rfl) (hv : bootBuiltins x = some (.type Ty) := by with_unfolding_all rfl) (hn : x ≠ "__name__" := by decide) (hdb : (x == ("__debug__" : Str)) = false := by decide)
  (he : starEach Yb3 X.env = (false, eval e X.env) :: starEach es X.env := by rfl) (hpl : (backTo pos Yb0).any (·.1) = false := by rfl) : IE X Wx Yab (mApp f Fs) :=
 PE.imp (pe_callTy hc hg hm hv ha hn hdb he hpl) (t_app hf)
end
end Mir
namespace Mir
open PySem PySem.Spec L2
open PyProof.Rows hiding St
abbrev OpM := W → List W → IH → Res W
def OpMOk (K : PySem.W.Frag) (ω : World) (Wx : WX) (f : OpM) (r : V → List V → Hp → VK → Prop) : Prop :=
 ∀ (s : S4) (w : W) (ws : List W) (x : V) (xs : List V) (Q : VK), Rel K ω s → Rw K s w x → RwL K s ws xs → Go K ω Wx (Rw K) s (f w ws s.hp) Q → r x xs s.H Q
def mMeth0 (ty : W → IH → Bool) (f : OpM) (Fo : M W) : M W := fun eta hp => (Fo eta hp).bind fun w h1 => if ty w h1 = true then f w [] h1 else .bad
def mMeth (ty : W → IH → Bool) (f : OpM) (Fo : M W) (Fa : M (List W)) : M W := fun eta hp => (Fo eta hp).bind fun w h1 => if ty w h1 = true then (Fa eta h1).bind fun ws h2 => f w ws h2 else .bad
def isL (w : W) (hp : IH) : Bool := (litems hp w).isSome
def isTp (w : W) (hp : IH) : Bool := match w with | .t (.tup _) => true | _ => false
section
variable {X : Cx} {Wx : WX} {o e : Expr} {es : List Expr} {Fo : M W} {Fs : M (List W)} {name : Str} {apos cpos : Pos} {id : String} {f : OpM} {r : V → List V → Hp → VK → Prop}
theorem isL_ty {K : PySem.W.Frag} {ω : World} {s : S4} {w : W} {v : V} (R : Rel K ω s) (r : Rw K s w v) (h : isL w s.hp = true) : tyV K "list" v s.H := by
 unfold isL at h
 obtain ⟨ws, hw⟩ := Option.isSome_iff_exists.mp h
 obtain ⟨p, xs, e, q, _⟩ := litems_sq R hw r
 subst e
 exact .inl ⟨rfl, xs, q⟩
theorem ie_lm0 (slot : Slot "list" name id) (hty : typeOf (.builtin id) = pure (.type "method_descriptor")) (hm : MtR X id r) (hf : OpMOk X.K X.w Wx f r) (ho : IE X Wx o Fo)
  (hbase : attributeBase o name X.env Yeb = eval o X.env := by rfl) (hline : (apos.endLine == cpos.line) = true := by rfl) : IE X Wx (.Call (.Attribute o name apos) [] [] cpos) (mMeth0 isL f Fo) :=
 PE.imp (pe_bm0 F.plainAttrs_list slot hty hm ho hbase hline) fun σ H Q h =>
  tM.bind1 (R := fun (x : V) (H1 : Hp) => tyV X.K "list" x H1 ∧ r x [] H1 Q) (k := fun (w : W) _ h1 => if isL w h1 = true then f w [] h1 else .bad) h fun s eta a b R1 _ f1 g => by
   split at g
   ·rename_i ht
    exact ⟨isL_ty R1 f1 ht, hf s a [] b [] Q R1 f1 rfl g⟩
   ·exact g.elim
theorem ie_lm (slot : Slot "list" name id) (hty : typeOf (.builtin id) = pure (.type "method_descriptor")) (hm : MtR X id r) (hf : OpMOk X.K X.w Wx f r) (ho : IE X Wx o Fo) (ha : IA X Wx Yb3 Fs)
  (hbase : attributeBase o name X.env Yeb = eval o X.env := by rfl)
  (hfew : ((backTo cpos (starEach Yb3 X.env)).all (fun x => !x.1) && (backToKw cpos (keywordEach [] X.env)).all (fun x => x.1.isSome) && decide ((e :: es).length + ([] : List Keyword).length + (if ([] : List Keyword).isEmpty then 0 else 1) < 30)) = true := by rfl)
  (hline : (apos.endLine == cpos.line) = true := by rfl) (hs : starEach Yb3 X.env = (false, eval e X.env) :: starEach es X.env := by rfl) (hp : (backTo cpos Yb0).any (·.1) = false := by rfl) :
  IE X Wx (.Call (.Attribute o name apos) Yb3 [] cpos) (mMeth isL f Fo Fs) :=
 PE.imp (pe_bm F.plainAttrs_list slot hty hm ho ha hbase hfew hline hs hp) fun σ H Q h =>
  tM.bind1 (R := fun (x : V) (H1 : Hp) => tyV X.K "list" x H1 ∧ tA X.K X.w Wx Fs σ H1 fun xs H2 => r x xs H2 Q) (k := fun (w : W) eta h1 => if isL w h1 = true then (Fs eta h1).bind fun ws h2 => f w ws h2 else .bad) h fun s eta a b R1 S1 f1 g => by
   split at g
   ·rename_i ht
    exact ⟨isL_ty R1 f1 ht, s, eta, rfl, R1, S1, Go.bind g fun ws xs s' A' R' r' _ g' => hf s' a ws b xs Q R' (f1.aft A' R1) r' g'⟩
   ·exact g.elim
end
def oAppend : OpM := fun w ws hp => match w, ws with
 | .r i, [x] => (match getL hp i with | some xs => if xs.length < 16777216 then .ok Yar (hp.set i (some (.lst (xs ++ [x])))) else .bad | none => .bad)
 | _, _ => .bad
/-- what is a list of its own in the heap -/
def hitems (hp : IH) : W → Option (List W)
 | .t (.lst xs) => some Yfn
 | .t _ => none
 | .r i => getL hp i
def oPop : OpM := fun w ws hp => match w, ws with
 | .r i, [] => (match getL hp i with | some xs => (match xs[xs.length - 1]? with | some y => .ok y (hp.set i (some (.lst xs.dropLast))) | none => .bad) | none => .bad)
 | _, _ => .bad
def oPopAt : OpM := fun w ws hp => match w, ws with
 | .r i, [.t (.int k)] => (match getL hp i with
  | some xs => if -(2 ^ 63) ≤ k ∧ k < 2 ^ 63 then (match seqIndex? k xs.length with | some j => (match xs[j]? with | some y => .ok y (hp.set i (some (.lst (xs.eraseIdx j)))) | none => .bad) | none => .bad) else .bad
  | none => .bad)
 | _, _ => .bad
section
variable {K : PySem.W.Frag} {ω : World} {Wx : WX}
theorem RwL.dropLast {s : S4} : ∀ {ws : List W} {vs : List V}, RwL K s ws vs → RwL K s ws.dropLast vs.dropLast
 | [], _, h => by rw [show _ = [] from h]; rfl
 | [x], _, h => by
  obtain ⟨v, r, e, a, b⟩ := h
  rw [show r = [] from b] at e
  subst e
  rfl
 | x :: y :: ws, _, h => by
  obtain ⟨v, r, e, a, b⟩ := h
  subst e
  have b' := b
  obtain ⟨v2, r2, e2, a2, b2⟩ := b'
  subst e2
  exact ⟨v, _, rfl, a, RwL.dropLast b⟩
theorem RwL.eraseIdx {s : S4} : ∀ {ws : List W} {vs : List V} (j : Nat), RwL K s ws vs → RwL K s (ws.eraseIdx j) (vs.eraseIdx j)
 | [], _, _, h => by rw [show _ = [] from h]; rfl
 | x :: ws, _, 0, h => by
  obtain ⟨v, r, e, a, b⟩ := h
  subst e
  exact b
 | x :: ws, _, j + 1, h => by
  obtain ⟨v, r, e, a, b⟩ := h
  subst e
  exact ⟨v, _, rfl, a, RwL.eraseIdx j b⟩
theorem RwL.setL {s : S4} : ∀ {ws : List W} {vs : List V} (j : Nat) {w : W} {v : V}, RwL K s ws vs → Rw K s w v → RwL K s (ws.set j w) (vs.set j v)
 | [], _, _, _, _, h, _ => by rw [show _ = [] from h]; rfl
 | x :: ws, _, 0, w, v, h, r => by
  obtain ⟨u, t, e, a, b⟩ := h
  subst e
  exact ⟨v, t, rfl, r, b⟩
 | x :: ws, _, j + 1, w, v, h, r => by
  obtain ⟨u, t, e, a, b⟩ := h
  subst e
  exact ⟨u, _, rfl, a, RwL.setL j b r⟩
/-- the items are set anew -/
theorem go_set {s : S4} {i : Nat} {a : Addr} {xs ys : List W} {us : List V} {w : W} {v : V} {Q : VK} (R : Rel K ω s) (h0 : getL s.hp i = some xs) (ha : s.rho[i]? = some a) (l : RwL K s ys us) (rv : Rw K s w v)
  (g : Go K ω Wx (Rw K) s (.ok w (s.hp.set i (some (.lst ys)))) Q) : Q v (upd s.H a (.lst us)) := by
 have A := aft_setL R (zbs h0) ha (c := .lst ys) (o := .lst us)
 exact g v (s.setL i a (.lst ys) (.lst us)) rfl A (rel_setL R (zbs h0) ha ⟨us, rfl, l⟩) (rv.aft A R)
theorem ok_append : OpMOk K ω Wx oAppend rAppend := by
 intro s w ws x xs Q R rx rxs go
 unfold oAppend at go
 split at go
 ·rename_i i y
  obtain ⟨u, e, ru⟩ := RwL.one rxs
  subst e
  split at go
  ·rename_i zs hz
   split at go
   ·rename_i hn
    obtain ⟨a, vs, ex, e1, e2, l, _⟩ := R.lst hz rx
    exact ⟨a, vs, u, ex, rfl, e2, by rw [← RwL.length l, sizeLine_eq]; exact hn, go_set R hz e1 (RwL.append l (show RwL K s [_] [u] from ⟨u, [], rfl, ru, rfl⟩)) Ye go⟩
   ·exact go.elim
  ·exact go.elim
 ·exact go.elim
theorem hitems_eq {s : S4} (R : Rel K ω s) {w : W} {v : V} {ws : List W} (h : hitems s.hp w = some ws) (r : Rw K s w v) : ∃ p xs, v = .ref p ∧ s.H p = some Yby ∧ RwL K s ws xs := by
 unfold hitems at h
 split at h
 ·simp only [Option.some.injEq] at h
  subst h
  obtain ⟨p, xs, e, t, q⟩ : ∃ a vs, v = .ref a ∧ FLst s.fz s.H a vs ∧ RfL K s.fz s.H _ vs := by simpa only [Rw, Rf] using r
  exact ⟨p, xs, e, t.2, RwL.of_trees.mpr q⟩
 ·cases h
 ·obtain ⟨a, vs, e, _, e2, l, _⟩ := R.lst h r
  exact ⟨a, vs, e, e2, l⟩
theorem ok_pop : OpMOk K ω Wx oPop rPop := by
 intro s w ws x xs Q R rx rxs go
 unfold oPop at go
 split at go
 ·rename_i i
  have e : xs = [] := rxs
  subst e
  split at go
  ·rename_i zs hz
   split at go
   ·rename_i y hy
    obtain ⟨a, vs, ex, e1, e2, l, _⟩ := R.lst hz rx
    obtain ⟨u, hu, ru⟩ := RwL.get l hy
    exact ⟨a, vs, u, ex, rfl, e2, by rw [← RwL.length l]; exact hu, go_set R hz e1 (RwL.dropLast l) ru go⟩
   ·exact go.elim
  ·exact go.elim
 ·exact go.elim
theorem ok_popAt : OpMOk K ω Wx oPopAt rPopAt := by
 intro s w ws x xs Q R rx rxs go
 unfold oPopAt at go
 split at go
 ·rename_i i k
  obtain ⟨u, e, ru⟩ := RwL.one rxs
  simp only [Rw, Rf] at ru
  subst e ru
  split at go
  ·rename_i zs hz
   split at go
   ·rename_i hk
    split at go
    ·rename_i j hj
     split at go
     ·rename_i y hy
      obtain ⟨a, vs, ex, e1, e2, l, _⟩ := R.lst hz rx
      obtain ⟨u, hu, ru⟩ := RwL.get l hy
      exact ⟨a, vs, k, j, u, ex, rfl, e2, hk.1, hk.2, by rw [← RwL.length l]; exact hj, hu, go_set R hz e1 (RwL.eraseIdx j l) ru go⟩
     ·exact go.elim
    ·exact go.elim
   ·exact go.elim
  ·exact go.elim
 ·exact go.elim
end
section
variable {X : Cx} {Wx : WX} {o e : Expr} {Fo : M W} {Fs : M (List W)} {apos cpos : Pos}
theorem ie_append (ho : IE X Wx o Fo) (ha : IA X Wx [e] Fs) (hb : attributeBase o "append" X.env Yeb = eval o X.env := by rfl)
  (hfew : ((backTo cpos (starEach [e] X.env)).all (fun x => !x.1) && (backToKw cpos (keywordEach [] X.env)).all (fun x => x.1.isSome) && decide ([e].length + ([] : List Keyword).length + (if ([] : List Keyword).isEmpty then 0 else 1) < 30)) = true := by rfl)
  (hline : (apos.endLine == cpos.line) = true := by rfl) (hs : starEach [e] X.env = (false, eval e X.env) :: starEach [] X.env := by rfl) : IE X Wx (.Call (.Attribute o "append" apos) [e] [] cpos) (mMeth isL oAppend Fo Fs) :=
 ie_lm F.slot_list_append F.type_list_append mt_append ok_append ho ha hb hfew hline hs rfl
theorem ie_pop (ho : IE X Wx o Fo) (hb : attributeBase o "pop" X.env Yeb = eval o X.env := by rfl) (hline : (apos.endLine == cpos.line) = true := by rfl) :
  IE X Wx (.Call (.Attribute o "pop" apos) [] [] cpos) (mMeth0 isL oPop Fo) := ie_lm0 F.slot_list_pop F.type_list_pop mt_pop ok_pop ho hb hline
theorem ie_popAt (ho : IE X Wx o Fo) (ha : IA X Wx [e] Fs) (hb : attributeBase o "pop" X.env Yeb = eval o X.env := by rfl)
  (hfew : ((backTo cpos (starEach [e] X.env)).all (fun x => !x.1) && (backToKw cpos (keywordEach [] X.env)).all (fun x => x.1.isSome) && decide ([e].length + ([] : List Keyword).length + (if ([] : List Keyword).isEmpty then 0 else 1) < 30)) = true := by rfl)
  (hline : (apos.endLine == cpos.line) = true := by rfl) (hs : starEach [e] X.env = (false, eval e X.env) :: starEach [] X.env := by rfl) : IE X Wx (.Call (.Attribute o "pop" apos) [e] [] cpos) (mMeth isL oPopAt Fo Fs) :=
 ie_lm F.slot_list_pop F.type_list_pop mt_popAt ok_popAt ho ha hb hfew hline hs rfl
end
end Mir
namespace Mir
open PySem PySem.Spec L2
open PyProof.Rows hiding St
def asK : W → Option Key | .t (.int i) => some (.inl i) | .t (.str x) => some (.inr x) | _ => none
def getD (hp : IH) (i : Nat) : Option (List Ydr) := match hp[i]? with
 | some (some (.dic kvs)) => some kvs
 | _ => none
def valW (kvs : List Ydr) (k : Key) : Option W := (kvs.find? fun kv => decide (kv.1 = k)).map (·.2)
def putW (kvs : List Ydr) (k : Key) (w : W) : List Ydr :=
 if (kvs.any fun kv => decide (kv.1 = k)) = true then kvs.map (fun kv => if kv.1 = k then (kv.1, w) else kv) else kvs ++ [(k, w)]
def mergeW (kvs more : List Ydr) : List Ydr := more.foldl (fun acc kv => putW acc kv.1 kv.2) kvs
section
variable {K : PySem.W.Frag} {ω : World} {s : S4}
theorem getD_eq {hp : IH} {i : Nat} {ws : List Ydr} (h : getD hp i = some ws) : hp[i]? = some (some (.dic ws)) := by
 unfold getD at h
 split at h
 ·rename_i kvs e
  simp only [Option.some.injEq] at h
  rw [e, h]
 ·cases h
theorem Rel.dic (R : Rel K ω s) {i : Nat} {v : V} {ws : List Ydr} (g : getD s.hp i = some ws) (r : Rw K s (.r i) v) : ∃ a vs, v = .ref a ∧ s.rho[i]? = some a ∧ s.H a = some (.dK vs) ∧ RwK K s ws vs ∧ ¬ s.fz a := by
 obtain ⟨a, e1, e2⟩ := r
 obtain ⟨vs, h1, h2⟩ := R.cell i _ a (getD_eq g) e1
 exact ⟨a, vs, e2, e1, h1, h2, R.fz a ⟨i, _, ⟨getD_eq g, True.intro⟩, e1⟩⟩
theorem RwK.val (k : Key) : ∀ {ws : List (Key × W)} {vs : List (Key × V)} {w : W}, RwK K s ws vs → valW ws k = some w → ∃ v, valV vs k = some v ∧ Rw K s w v
 | [], _, _, _, h => by simp [valW] at h
 | x :: ws, _, w, r, h => by
  obtain ⟨v, t, e, a, b⟩ := r
  subst e
  by_cases q : x.1 = k
  ·refine ⟨v, valV_pos (p := (x.1, v)) q, ?_⟩
   have : x.2 = w := by simpa [valW, List.find?_cons, q] using h
   rw [← this]; exact a
  ·have h' : valW ws k = some w := by simpa [valW, List.find?_cons, q] using h
   obtain ⟨u, h1, h2⟩ := RwK.val k b h'
   exact ⟨u, by rw [valV_neg (p := (x.1, v)) q]; exact h1, h2⟩
theorem RwK.none (k : Key) : ∀ {ws : List (Key × W)} {vs : List (Key × V)}, RwK K s ws vs → valW ws k = none → valV vs k = none
 | [], _, r, _ => by rw [show _ = [] from r]; rfl
 | x :: ws, _, r, h => by
  obtain ⟨v, t, e, a, b⟩ := r
  subst e
  by_cases q : x.1 = k
  ·simp [valW, List.find?_cons, q] at h
  ·have h' : valW ws k = Option.none := by simpa [valW, List.find?_cons, q] using h
   rw [valV_neg (p := (x.1, v)) q]
   exact RwK.none k b h'
theorem RwK.any (k : Key) : ∀ {ws : List (Key × W)} {vs : List (Key × V)}, RwK K s ws vs → (vs.any fun kv => decide (kv.1 = k)) = ws.any fun kv => decide (kv.1 = k)
 | [], _, r => by rw [show _ = [] from r]; rfl
 | x :: ws, _, r => by
  obtain ⟨v, t, e, a, b⟩ := r
  subst e
  rw [List.any_cons, List.any_cons, RwK.any k b]
theorem RwK.repl (k : Key) {w : W} {v : V} (rv : Rw K s w v) : ∀ {ws : List (Key × W)} {vs : List (Key × V)}, RwK K s ws vs → RwK K s (ws.map fun kv => if kv.1 = k then (kv.1, w) else kv) (vs.map fun kv => if kv.1 = k then (kv.1, v) else kv)
 | [], _, r => by rw [show _ = [] from r]; rfl
 | x :: ws, _, r => by
  obtain ⟨u, t, e, a, b⟩ := r
  subst e
  rw [List.map_cons, List.map_cons]
  by_cases q : x.1 = k
  ·rw [if_pos q, if_pos q]
   exact ⟨v, _, rfl, rv, RwK.repl k rv b⟩
  ·rw [if_neg q, if_neg q]
   exact ⟨u, _, rfl, a, RwK.repl k rv b⟩
theorem RwK.snoc {k : Key} {w : W} {v : V} (rv : Rw K s w v) : ∀ {ws : List (Key × W)} {vs : List (Key × V)}, RwK K s ws vs → RwK K s (ws ++ [(k, w)]) (vs ++ [(k, v)])
 | [], _, r => by rw [show _ = [] from r]; exact ⟨v, [], rfl, rv, rfl⟩
 | x :: ws, _, r => by
  obtain ⟨u, t, e, a, b⟩ := r
  subst e
  exact ⟨u, _, rfl, a, RwK.snoc rv b⟩
theorem RwK.put (k : Key) {w : W} {v : V} (rv : Rw K s w v) {ws : List Ydr} {vs : List (Key × V)} (r : RwK K s ws vs) : RwK K s (putW ws k w) (putK vs k v) := by
 unfold putW putK
 rw [r.any k]
 split
 ·exact r.repl k rv
 ·exact r.snoc rv
theorem RwK.length : ∀ {ws : List (Key × W)} {vs : List (Key × V)}, RwK K s ws vs → ws.length = vs.length
 | [], _, r => by rw [show _ = [] from r]; rfl
 | x :: ws, _, r => by
  obtain ⟨u, t, e, a, b⟩ := r
  subst e
  rw [List.length_cons, List.length_cons, RwK.length b]
end
/-- d[k] -/
def dGet : Op2 := fun a b hp => match a, asK b with
 | .r i, some k => (match (getD hp i).bind fun kvs => valW kvs k with | some w => .ok w hp | none => .bad)
 | _, _ => .bad
/-- d[k] = v: the value, the dict, the key -/
def mDPut (Fd Fk Fv : M W) : M Fl := fun eta hp => (Fv eta hp).bind fun v h1 => (Fd eta h1).bind fun d h2 => (Fk eta h2).bind fun k h3 => match d, asK k with
 | .r i, some k => (match getD h3 i with | some kvs => if kvs.length < 16777216 then .ok Yc1 (h3.set i (some (.dic (putW kvs k v)))) else .bad | none => .bad)
 | _, _ => .bad
def mVals : List (Key × M W) → M (List Ydr)
 | [] => fun _ hp => .ok [] hp
 | (k, F) :: r => fun eta hp => (F eta hp).bind fun w h1 => (mVals r eta h1).bind fun ws h2 => .ok ((k, w) :: ws) h2
def mDisp (ps : List (Key × M W)) : M W := fun eta hp => (mVals ps eta (hp ++ [some (.dic [])])).bind fun kvs h1 => match getD h1 hp.length with
 | some [] => if kvs.length ≤ 15 then .ok Ycm (h1.set hp.length (some (.dic (mergeW [] kvs)))) else .bad
 | _ => .bad
end Mir
namespace Mir
open PySem PySem.Spec L2
open PyProof.Rows hiding St
/-- t + u of tuples, the object of a new one known -/
def rCatB (K : PySem.W.Frag) : R2 := fun x y H Q => ∃ a b xs ys, x = .ref a ∧ y = .ref b ∧ SqT K H a xs ∧ SqT K H b ys ∧ xs.length + ys.length ≤ sizeLine ∧
 (xs = [] → Q (.ref b) H) ∧ (xs ≠ [] → ys = [] → Q (.ref a) H) ∧ (xs ≠ [] → ys ≠ [] → ∀ (p : Addr) (o : Obj), H p = none → o.dict = none → Q (.ref p) (upd H p (.frz o (.tup (xs ++ ys)))))
theorem op_catB {X : Cx} : OpR X (binaryOp .Add) (rCatB X.K) := by
 intro pn s0 σ H x y v u Q J rx ry h
 obtain ⟨a, b, xs, ys, ex, ey, ha, hb, hz, q0, q1, q2⟩ := h
 subst ex ey
 by_cases hx : xs = []
 ·exact op_catA pn s0 σ H _ _ v u Q J rx ry ⟨a, b, xs, ys, rfl, rfl, ha, hb, hz, q0, fun c => absurd hx c, fun c => absurd hx c⟩
 ·cases rx
  cases ry
  obtain ⟨its, r1, p1, _⟩ := J.tuple ha
  obtain ⟨its2, r2, p2, _⟩ := J.tuple hb
  refine HT.cat_tup p1 p2 (fun z => hx (r1.nil_iff.mp z)) (fun z => ⟨.ref a, H, J, rfl, q1 hx (r2.nil_iff.mp z)⟩) (fun z => ?_) (by rw [← r1.length, ← r2.length]; exact hz)
  exact laid_tup (t' := s0.toks) J (r1.append r2) (by rw [List.length_append]; exact hz) (q2 hx fun c => z (r2.nil_iff.mpr c))
def wAdd : Op2 := fun a b hp => match a, b with
 | .t (.int i), .t (.int j) => .ok (.t (.int (i + j))) hp
 | .t (.str x), .t (.str y) => if x.length + y.length ≤ 16777216 then .ok (.t (.str (x ++ y))) hp else .bad
 | .t (.tup xs), .t (.tup ys) => if xs.length + ys.length ≤ 16777216 then .ok (.t (.tup (xs ++ ys))) hp else .bad
 | a, b => (match (hitems hp a).bind allT, (hitems hp b).bind allT with
  | some xs, some ys => if xs.length + ys.length ≤ 16777216 then .ok Ygc hp else .bad
  | _, _ => .bad)
abbrev rAdd (K : PySem.W.Frag) : R2 := fun x y H Q => rI0 (fun i j => .int (i + j)) x y H Q ∨ (fun x y H Q => ∃ i j, x = .str i ∧ y = .str j ∧ i.length + j.length ≤ sizeLine ∧ Q (.str (i ++ j)) H : R2) x y H Q ∨ rCatB K x y H Q ∨ rCat x y H Q
theorem op_addA {X : Cx} : OpR X (binaryOp .Add) (rAdd X.K) := OpR.or op_add (OpR.or op_add_str (OpR.or op_catB op_cat))
section
variable {K : PySem.W.Frag} {ω : World} {Wx : WX}
theorem RfL.append {fz : Addr → Prop} {H : Hp} : ∀ {ws ws' : List T} {vs vs' : List V}, RfL K fz H ws vs → RfL K fz H ws' vs' → RfL K fz H (ws ++ ws') (vs ++ vs')
 | [], _, _, _, h, h' => by simp only [RfL] at h; subst h; exact h'
 | x :: xs, _, vs, _, h, h' => by
  simp only [RfL] at h
  obtain ⟨v, r, e, a, b⟩ := h
  subst e
  simp only [List.cons_append, RfL]
  exact ⟨v, _, rfl, a, RfL.append b h'⟩
theorem RfL.nil_of {fz : Addr → Prop} {H : Hp} {ts : List T} (h : RfL K fz H ts []) : ts = [] := by
 cases ts with
 | nil => rfl
 | cons t ts =>
  simp only [RfL] at h
  obtain ⟨v, r, e, _⟩ := h
  cases e
theorem ok_add : zco K ω Wx wAdd (rAdd K) := by
 intro s a b x y Q R ra rb go
 unfold wAdd at go
 split at go
 ·simp only [Rw, Rf] at ra rb
  exact .inl ⟨_, _, ra, rb, go _ s rfl Yg R Ye⟩
 ·split at go
  ·rename_i hz
   simp only [Rw, Rf] at ra rb
   exact .inr (.inl ⟨_, _, ra, rb, by rw [sizeLine_eq]; exact hz, go _ s rfl Yg R Ye⟩)
  ·exact go.elim
 ·split at go
  ·rename_i xs ys hz
   obtain ⟨p, us, e1, t1, q1⟩ : ∃ a vs, x = .ref a ∧ FTup K s.fz s.H a vs ∧ RfL K s.fz s.H xs vs := by simpa only [Rw, Rf] using ra
   obtain ⟨p2, us2, e2, t2, q2⟩ : ∃ a vs, y = .ref a ∧ FTup K s.fz s.H a vs ∧ RfL K s.fz s.H ys vs := by simpa only [Rw, Rf] using rb
   refine .inr (.inr (.inl ⟨p, p2, us, us2, e1, e2, t1.sq, t2.sq, by rw [← RfL.length q1, ← RfL.length q2, sizeLine_eq]; exact hz, fun c => ?_, fun _ c => ?_, fun _ _ q o np d => ?_⟩))
   ·subst c
    rw [RfL.nil_of q1] at go
    rw [← e2]
    exact go _ s rfl Yg R rb
   ·subst c
    rw [RfL.nil_of q2, List.append_nil] at go
    rw [← e1]
    exact go _ s rfl Yg R ra
   ·exact go (.ref q) (s.addF q (.frz o (.tup (us ++ us2)))) rfl (zbj R np) (zby R np) (addF_tup R np d (RfL.append q1 q2))
  ·exact go.elim
 ·split at go
  ·rename_i xs ys hx hy
   split at go
   ·rename_i hz
    rw [Option.bind_eq_some_iff] at hx hy
    obtain ⟨ws, h1, h2⟩ := hx
    obtain ⟨ws2, h3, h4⟩ := hy
    obtain ⟨p, us, e1, t1, q1⟩ := hitems_eq R h1 ra
    obtain ⟨p2, us2, e2, t2, q2⟩ := hitems_eq R h3 rb
    rw [zbt h2] at q1
    rw [zbt h4] at q2
    have l1 := RwL.of_trees.mp q1
    have l2 := RwL.of_trees.mp q2
    exact .inr (.inr (.inr ⟨p, p2, us, us2, e1, e2, t1, t2, by rw [← RfL.length l1, ← RfL.length l2, sizeLine_eq]; exact hz, fun q np =>
     go (.ref q) (s.addF q (.lst (us ++ us2))) rfl (zbj R np) (zby R np) (zc7 R np (RfL.append l1 l2))⟩))
   ·exact go.elim
  ·exact go.elim
end
def repT (n : Nat) (ts : List T) : List T := (List.replicate n ts).flatten
def wMul : Op2 := fun a b hp => match a, b with
 | .t (.int i), .t (.int j) => if cMul i j = true then .ok (.t (.int (i * j))) hp else .bad
 | a, .t (.int k) => (match (hitems hp a).bind allT with
  | some ts => if -(2 ^ 63) ≤ k ∧ k < 2 ^ 63 ∧ ts.length * k.toNat ≤ 16777216 then .ok (.t (.lst (repT k.toNat ts))) hp else .bad
  | none => .bad)
 | _, _ => .bad
abbrev rMulA : R2 := fun x y H Q => rI CMulW (fun i j => .int (i * j)) x y H Q ∨ rRep x y H Q
theorem op_mulA {X : Cx} : OpR X (binaryOp .Mult) rMulA := OpR.or op_mulW op_rep
theorem rep_rf {K : PySem.W.Frag} {fz : Addr → Prop} {H : Hp} {ts : List T} {vs : List V} (h : RfL K fz H ts vs) : ∀ n : Nat, RfL K fz H (repT n ts) (List.replicate n vs).flatten
 | 0 => by simp [repT, RfL]
 | n + 1 => by
  have := RfL.append h (rep_rf h n)
  simpa [repT, List.replicate_succ] using this
theorem ok_mul {K : PySem.W.Frag} {ω : World} {Wx : WX} : zco K ω Wx wMul rMulA := by
 intro s a b x y Q R ra rb go
 unfold wMul at go
 split at go
 ·split at go
  ·rename_i hc
   simp only [Rw, Rf] at ra rb
   exact .inl ⟨_, _, ra, rb, by simpa [cMul, CMulW] using hc, go _ s rfl Yg R Ye⟩
  ·exact go.elim
 ·rename_i k _
  split at go
  ·rename_i ts hx
   split at go
   ·rename_i hz
    rw [Option.bind_eq_some_iff] at hx
    obtain ⟨ws, h1, h2⟩ := hx
    obtain ⟨p, us, e1, t1, q1⟩ := hitems_eq R h1 ra
    rw [zbt h2] at q1
    have l1 := RwL.of_trees.mp q1
    have ey : y = .int k := by simpa only [Rw, Rf] using rb
    exact .inr ⟨p, k, us, e1, ey, t1, hz.1, hz.2.1, by rw [← RfL.length l1, sizeLine_eq]; exact hz.2.2, fun q np =>
     go (.ref q) (s.addF q (.lst (List.replicate k.toNat us).flatten)) rfl (zbj R np) (zby R np) (zc7 R np (rep_rf l1 k.toNat))⟩
   ·exact go.elim
  ·exact go.elim
 ·exact go.elim
def wLt : Op2 := fun a b hp => match a, b with
 | .t (.int i), .t (.int j) => .ok (.t (.bl (decide (i < j)))) hp
 | .t (.str x), .t (.str y) => .ok (.t (.bl (ltCps x.cps.toList y.cps.toList))) hp
 | _, _ => .bad
abbrev rLtA : R2 := fun x y H Q => rI0 (fun i j => .bl (decide (i < j))) x y H Q ∨ (fun x y H Q => ∃ i j, x = .str i ∧ y = .str j ∧ Q (.bl (decide (i.cps.toList < j.cps.toList))) H : R2) x y H Q
theorem op_ltA {X : Cx} : OpR X (compareOp .Lt) rLtA := OpR.or op_lt op_lt_str
theorem ok_lt {K : PySem.W.Frag} {ω : World} {Wx : WX} : zco K ω Wx wLt rLtA := by
 intro s a b x y Q R ra rb go
 unfold wLt at go
 split at go
 ·simp only [Rw, Rf] at ra rb
  exact .inl ⟨_, _, ra, rb, go _ s rfl Yg R Ye⟩
 ·simp only [Rw, Rf] at ra rb
  exact .inr ⟨_, _, ra, rb, go _ s rfl Yg R (by simp only [Rw, Rf, ltCps_eq])⟩
 ·exact go.elim
section
variable {X : Cx} {Wx : WX} {a b c e : Expr} {Fa Fb Fc F : M W} {pos : Pos}
theorem zbk (ha : IE X Wx a Fa) (hb : IE X Wx b Fb) : IE X Wx (.BinOp a .Add b pos) (mBin wAdd Fa Fb) := ie_bin op_addA ok_add ha hb
theorem ie_mulA (ha : IE X Wx a Fa) (hb : IE X Wx b Fb) : IE X Wx (.BinOp a .Mult b pos) (mBin wMul Fa Fb) := ie_bin op_mulA ok_mul ha hb
theorem it_ltA (ha : IE X Wx a Fa) (hb : IE X Wx b Fb) : IT X Wx (.Compare a [.Lt] [b] pos) (zaf asB (mBin wLt Fa Fb)) := it_cmp op_ltA ok_lt ha hb (nomark _)
theorem t_chain {f f' : Op2} {r r' : R2} (hf : zco X.K X.w Wx f r) (hf' : zco X.K X.w Wx f' r') : ∀ σ H Q, tE X.K X.w Wx (mChain f f' Fa Fb Fc) σ H Q → tChain r r' (tE X.K X.w Wx Fa) (tE X.K X.w Wx Fb) (tE X.K X.w Wx Fc) σ H Q := by
 intro σ H Q h
 refine tM.bind2 (Fam' := Rw X.K) (R := fun (x y : V) (H2 : Hp) => r x y H2 fun z H3 => ∃ k, z = .bl k ∧ (if k = true then tE X.K X.w Wx Fc σ H3 (fun w' H4 => r' y w' H4 Q) else Q Ya3 H3))
  (k := fun a b eta h2 => (f a b h2).bind fun z h3 => match z with
   | .t (.bl true) => (Fc eta h3).bind fun c h4 => f' b c h4
   | .t (.bl false) => .ok (.t Ya3) h3
   | _ => .bad) Rw.keep h fun s eta a b a' b' R1 S1 f1 f2 g => ?_
 refine hf s a a' b b' _ R1 f1 f2 (Go.bind g fun z z' s2 A2 R2 r2 _ g2 => ?_)
 split at g2
 ·simp only [Rw, Rf] at r2
  subst r2
  refine ⟨true, rfl, ?_⟩
  rw [if_pos rfl]
  exact ⟨s2, eta, rfl, R2, S1.aft A2 R1, Go.bind g2 fun w w' s3 A3 R3 r3 _ g3 => hf' s3 a' w b' w' Q R3 ((f2.aft A2 R1).aft A3 R2) r3 g3⟩
 ·simp only [Rw, Rf] at r2
  subst r2
  refine ⟨false, rfl, ?_⟩
  rw [if_neg Ybd]
  exact g2 _ s2 rfl (Aft.refl s2) R2 Ye
 ·exact g2.elim
theorem it_chain {op op' : CmpOp} {f f' : Op2} {r r' : R2} (ho : OpR X (compareOp op) r) (hf : zco X.K X.w Wx f r) (ho' : OpR X (compareOp op') r') (hf' : zco X.K X.w Wx f' r') (ha : IE X Wx a Fa) (hb : IE X Wx b Fb) (hc : IE X Wx c Fc)
  (hm : lastMarks [op, op'] [b, c] = false := by with_unfolding_all rfl) : IT X Wx (.Compare a [op, op'] [b, c] pos) (zaf asB (mChain f f' Fa Fb Fc)) := PT.imp (pt_chain ho ho' ha hb hc hm) fun σ H Q h => by
 have h' : tE X.K X.w Wx (mChain f f' Fa Fb Fc) σ H (fun x H1 => ∃ k, x = .bl k ∧ Q k H1) := tM.bind1 (R := fun (x : V) (H1 : Hp) => ∃ k, x = .bl k ∧ Q k H1) (k := fun (a : W) _ hp => asB a hp) h fun s eta a b R1 _ f1 g => go_asB R1 f1 g
 exact t_chain hf hf' σ H _ h'
end
end Mir
namespace Mir
open PySem PySem.Spec L2
open PyProof.Rows hiding St
def mParG (n : Nat) (Fs : M (List W)) (Gs : List W → IS → Option IS) : M Fl := fun eta hp => (Fs eta hp).bind fun ws h1 => if ws.length = n ∧ n ≤ 16777216 then (match Gs ws eta with | some e => .ok (.nx e) h1 | none => .bad) else .bad
section
variable {X : Cx} {Wx : WX} {e : Expr} {es tgs : List Expr} {Fs : M (List W)} {F : M W} {pos p1 p2 : Pos} {gs : TGs} {Gs : List W → IS → Option IS} {vs : List Nat} {n k1 k2 : Nat}
def gA (n : Nat) (Gs : List W → IS → Option IS) : W → IS → Option IS := fun w eta => match w with
 | .t (.tup ts) => if ts.length = n then Gs Yl eta else none
 | .t (.pr ts) => if ts.length = n then Gs Yl eta else none
 | .t (.lst ts) => if ts.length = n then Gs Yl eta else none
 | _ => none
theorem PG.or {t t' : TG} (h : PG X e t) (h' : PG X e t') : PG X e (fun v σ H Q => t v σ H Q ∨ t' v σ H Q) := ⟨fun pins s σ H v u Q I r hw => by
 rcases hw with q | q
 ·exact h.run pins s σ H v u Q I r q
 ·exact h'.run pins s σ H v u Q I r q⟩
end
def mIput (Fd Fk Fv : M W) : M Fl := fun eta hp => (Fv eta hp).bind fun v h1 => (Fd eta h1).bind fun d h2 => (Fk eta h2).bind fun k h3 => match d, k with
 | .r i, .t (.int k) => (match getL h3 i with | some xs => (match ixN xs.length k with | some j => .ok Yc1 (h3.set i (some (.lst (xs.set j v)))) | none => .bad) | none => .bad)
 | _, _ => .bad
section
variable {X : Cx} {Wx : WX} {o i value : Expr} {Fo Fi Fv : M W} {pos pos' : Pos}
theorem st_iput (ho : IE X Wx o Fo) (hi : IE X Wx i Fi) (hv : IE X Wx value Fv)
  (ha : ∀ v, assign (.Subscript o i pos') X.env v = (do
   let ov ← holding [v] Yeb
   let iv ← holding [v, ov] (eval i X.env)
   standAt pos'
   holding [v, ov, iv] (setItem ov iv v)
   release [v, ov, iv] []) := by intro _; rfl) (hs : swapsWithSole [.Subscript o i pos'] value pos.line X.env = pure false := by rfl) (hw : swappedStores [.Subscript o i pos'] value X.env = pure none := by rfl)
  (h1 : (assignEach [.Subscript o i pos'] X.env).map (·.2) = [assign (.Subscript o i pos') X.env] := by rfl) : ISt X Wx (.Assign [.Subscript o i pos'] value pos) (mIput Fo Fi Fv) :=
 PS.imp (ps_asg hv (pg_sub ho hi set_list ha) hs hw h1) fun D σ H h =>
  tM.bind1 (R := fun v H1 => tE X.K X.w Wx Fo σ H1 fun x H2 => tE X.K X.w Wx Fi σ H2 fun y H3 => rSetL x y v H3 fun H4 => D.nx σ H4)
   (k := fun v eta h1 => (Fo eta h1).bind fun d h2 => (Fi eta h2).bind fun k h3 => (match d, k with
    | .r i, .t (.int k) => (match getL h3 i with | some xs => (match ixN xs.length k with | some j => .ok (Fl.nx eta) (h3.set i (some (.lst (xs.set j v)))) | none => .bad) | none => .bad)
    | _, _ => .bad : Res Fl)) h fun s eta a b R1 S1 f1 g1 => by
   refine ⟨s, eta, rfl, R1, S1, Go.bind g1 fun d d' s2 A2 R2 r2 _ g2 => ?_⟩
   refine ⟨s2, eta, rfl, R2, S1.aft A2 R1, Go.bind g2 fun k k' s3 A3 R3 r3 _ g3 => ?_⟩
   have S3 := (S1.aft A2 R1).aft A3 R2
   have rd := r2.aft A3 R2
   have rv := (f1.aft A2 R1).aft A3 R2
   split at g3
   ·rename_i i k _ _
    split at g3
    ·rename_i xs hx
     split at g3
     ·rename_i j hj
      obtain ⟨p, vs, e, e1, e2, l, _⟩ := R3.lst hx rd
      have ek : k' = .int k := by simpa only [Rw, Rf] using r3
      have A := aft_setL R3 (zbs hx) e1 (c := .lst (xs.set j a)) (o := .lst (vs.set j b))
      exact ⟨p, vs, k, j, e, ek, e2, by rw [← RwL.length l]; exact hj, Go.nx (s := s3.setL i p (.lst (xs.set j a)) (.lst (vs.set j b))) (rel_setL R3 (zbs hx) e1 ⟨_, rfl, RwL.setL j l rv⟩) (S3.aft A R3) (Go.aft g3 A)⟩
     ·exact g3.elim
    ·exact g3.elim
   ·exact g3.elim
end
def mFz (i : Nat) (B : M Fl) : M Fl := fun eta hp => match eta[i]? with
 | some (some w) => (zcf w hp).bind fun w' h1 => B (eta.set i (some w')) h1
 | _ => .bad
section
variable {X : Cx} {Wx : WX} {rest : List Stmt} {B : M Fl}
theorem sl_same {K : PySem.W.Frag} {s : S4} {eta : IS} {σ : St} (S1 : Sl K s eta σ) (i : Nat) {w : W} {v : V} (h : σ[i]? = some (some v)) (r : Rw K s w v) : Sl K s Ye5 σ := by
 have q := S1.set i r
 have e : σ.set i (some v) = σ := by
  apply List.ext_getElem?
  intro j
  by_cases hj : i = j
  ·subst hj
   rw [List.getElem?_set_self (by exact (List.getElem?_eq_some_iff.mp h).1), h]
  ·rw [List.getElem?_set_ne hj]
 rw [e] at q
 exact q
theorem is_fz (i : Nat) (h : ISs X Wx rest B) : ISs X Wx rest (mFz i B) := PSs.imp h fun D σ H q => by
 obtain ⟨s, eta, e1, R1, S1, g⟩ := q
 unfold mFz at g
 split at g
 ·rename_i w hw
  obtain ⟨v, h1, h2⟩ := S1.2 i w hw
  cases w with
  | t x => exact ⟨s, _, e1, R1, sl_same S1 i h1 h2, g⟩
  | r j =>
   simp only [zcf] at g
   cases hl : (getL s.hp j).bind allT with
   | none => simp only [hl] at g; exact g.elim
   | some ts =>
    simp only [hl] at g
    rw [Option.bind_eq_some_iff] at hl
    obtain ⟨ws, q1, q2⟩ := hl
    obtain ⟨a, vs, e, ea, e2, l, _⟩ := R1.lst q1 h2
    subst e
    have A := aft_frz R1 (zbs q1) ea
    rw [zbt q2] at l
    refine ⟨s.frz j a, _, e1, rel_frz R1 (zbs q1) ea, sl_same (S1.aft A R1) i h1 ?_, Go.aft g A⟩
    simp only [Rw, Rf]
    exact ⟨a, vs, rfl, ⟨.inr rfl, e2⟩, RfL.aft A R1 _ _ Ydx⟩
 ·exact g.elim
end
end Mir
namespace Mir
open PySem PySem.Spec L2
open PyProof.Rows hiding St
/-- xs[::-1], a list that lives on -/
def oRevL : Op1 := fun a hp => match litems hp a with
 | some ws => .ok Ycm (hp ++ [some (.lst ws.reverse)])
 | none => .bad
theorem RwL.rev {K : PySem.W.Frag} {s : S4} : ∀ {ts : List W} {vs : List V}, RwL K s ts vs → RwL K s ts.reverse vs.reverse
 | [], _, h => by rw [show _ = [] from h]; rfl
 | x :: xs, vs, h => by
  obtain ⟨v, r, e, a, b⟩ := h
  subst e
  rw [List.reverse_cons, List.reverse_cons]
  exact RwL.append (RwL.rev b) (show RwL K s [x] [v] from ⟨v, [], rfl, a, rfl⟩)
section
variable {X : Cx} {Wx : WX} {e st a : Expr} {F : M W} {pos p3 p p1 pos1 : Pos} {live : Bool}
theorem t_revLv : ∀ σ H Q, tE X.K X.w Wx (mUn oRevL F) σ H Q → tRevL X.K (tE X.K X.w Wx F) σ H Q := fun σ H Q h =>
 tM.bind1 (R := fun (x : V) (H1 : Hp) => ∃ a xs, x = .ref a ∧ SqL X.K H1 a xs ∧ ∀ p, H1 p = none → Q (.ref p) (upd H1 p (.lst xs.reverse))) (k := fun (a : W) _ hp => oRevL a hp) h fun s eta a b R1 _ f1 g => by
  unfold oRevL at g
  split at g
  ·rename_i ws h1
   obtain ⟨p, us, e1, t1, q1⟩ := litems_sq R1 h1 f1
   exact ⟨p, us, e1, t1, fun q np => g (.ref q) (s.addL q (.lst ws.reverse) (.lst us.reverse)) rfl (aft_addL R1 np) (rel_addL R1 np ⟨_, rfl, RwL.rev q1⟩) (addL_r R1)⟩
  ·exact g.elim
theorem ie_revL {k : Nat} {p1 p2 : Pos} (he : IE X Wx e F) : IE X Wx (.Subscript e (.Slice none none (some (.UnaryOp .USub (.Constant (.int 1) k p1) p2)) p3) pos) (mUn oRevL F) := PE.imp (pe_revL he) t_revLv
end
end Mir
namespace Mir
open PySem PySem.Spec L2
open PyProof.Rows hiding St
end Mir
namespace Mir
open PySem PySem.Spec L2
open PyProof.Rows hiding St
theorem Sl.congr {K : PySem.W.Frag} {s s' : S4} {eta : IS} {σ : St} (hr : s'.rho = s.rho) (hf : ∀ a, s.fz a → s'.fz a) (k : ∀ a, s.fz a → s'.H a = s.H a) (h : Sl K s eta σ) : Sl K s' eta σ :=
 ⟨h.1, fun i w e => let ⟨v, a, b⟩ := h.2 i w e; ⟨v, a, b.congr hr hf k⟩⟩
end Mir
namespace Mir
open PySem PySem.Spec L2
open PyProof.Rows hiding St
end Mir
namespace Mir
open PySem PySem.Spec L2
open PyProof.Rows hiding St
end Mir
namespace Mir
open PySem PySem.Spec L2
open Sem (wp)
end Mir
namespace Mir
open PySem PySem.Spec L2
open PyProof.Rows hiding St
section
variable {K : PySem.W.Frag} {ω : World} {s : S4}
theorem RwK.split : ∀ {ws : List (Key × W)} {vs : List (Key × V)} {ts : List T}, RwK K s ws vs → allT (ws.map (·.2)) = some ts → RfL K s.fz s.H ts (vs.map (·.2)) ∧ vs = (ws.map (·.1)).zip (vs.map (·.2)) := by
 intro ws
 induction ws with
 | nil =>
  intro vs ts h e
  rw [show vs = [] from h]
  have e' : ts = [] := by simpa [allT] using e.symm
  subst e'
  exact ⟨by simp [RfL], rfl⟩
 | cons x xs ih =>
  intro vs ts h e
  obtain ⟨v, r, e1, a, b⟩ := h
  subst e1
  have q := zbt e
  cases ts with
  | nil => cases q
  | cons t ts =>
   simp only [List.map_cons, List.cons.injEq] at q
   obtain ⟨q1, q2⟩ := q
   have e2 : allT (xs.map (·.2)) = some ts := by
    rw [q2]
    clear e ih q2 b
    induction ts with
    | nil => rfl
    | cons u us ih => simp [allT, ih]
   obtain ⟨i1, i2⟩ := ih b e2
   rw [q1] at a
   refine ⟨?_, ?_⟩
   ·simp only [List.map_cons, RfL]
    exact ⟨v, _, rfl, a, i1⟩
   ·simp only [List.map_cons, List.zip_cons_cons]
    rw [← i2]
end
def freezeD (w : W) (hp : IH) : Res W := match w with
 | .r i => (match getD hp i with
  | some kvs => (match allT (kvs.map (·.2)) with | some ts => .ok (.t (.dic (kvs.map (·.1)) ts)) (hp.set i none) | none => .bad)
  | none => .bad)
 | _ => .bad
def mFrzD (F : M W) : M W := fun eta hp => (F eta hp).bind fun a h1 => freezeD a h1
section
variable {X : Cx} {Wx : WX} {e m k v : Expr} {F Fd Fk Fv : M W} {pos : Pos}
theorem RwK.isSome {K : PySem.W.Frag} {s : S4} (k : Key) {ws : List Ydr} {vs : List (Key × V)} (r : RwK K s ws vs) : (valV vs k).isSome = (valW ws k).isSome := by
 cases h : valW ws k with
 | none => rw [r.none k h]; rfl
 | some w => obtain ⟨v, h1, _⟩ := r.val k h; rw [h1]; rfl
end
end Mir
namespace Mir
open PySem PySem.Spec L2
open PyProof.Rows hiding St
end Mir
namespace Mir
open PySem PySem.Spec L2
open PyProof.Rows hiding St
end Mir
namespace Mir
open PySem PySem.Spec L2
open PyProof.Rows hiding St
def keyT : T → Option Key
 | .int i => some (.inl i)
 | .str x => some (.inr x)
 | _ => none
def keysT : List T → Option (List Key)
 | [] => some []
 | t :: r => match keyT t, keysT r with
  | some k, some ks => some (k :: ks)
  | _, _ => none
def putG (kvs : List Ydb) (k : List Key) (v : T) : List Ydb :=
 if (kvs.any fun kv => decide (kv.1 = k)) = true then kvs.map (fun kv => if kv.1 = k then (kv.1, v) else kv) else kvs ++ [(k, v)]
def valD2 (kvs : List Ydb) (k : List Key) : Option T := (kvs.find? fun kv => decide (kv.1 = k)).map (·.2)
section
variable {K : PySem.W.Frag} {ω : World} {Wx : WX} {s : S4}
abbrev RD (K : PySem.W.Frag) (fz : Addr → Prop) (H : Hp) : List Ydb → List Ydq → Prop := Paired fun e p => p.1 = e.1 ∧ Rf K fz H e.2 p.2
theorem RD.any {fz : Addr → Prop} {H : Hp} {l : List Ydb} {kvs : List Ydq} (r : RD K fz H l kvs) (k : List Key) : (kvs.any fun kv => decide (kv.1 = k)) = l.any fun kv => decide (kv.1 = k) := by
 induction r with
 | nil => rfl
 | cons h t ih => simp only [List.any_cons, ih, h.1]
theorem RD.repl {fz : Addr → Prop} {H : Hp} {l : List Ydb} {kvs : List Ydq} (r : RD K fz H l kvs) (k : List Key) {x : T} {v : V} (h : Rf K fz H x v) :
  RD K fz H (l.map fun kv => if kv.1 = k then (kv.1, x) else kv) (kvs.map fun kv => if kv.1 = k then (kv.1, v) else kv) := by
 induction r with
 | nil => exact .nil
 | @cons e p _ _ h1 t ih =>
  rw [List.map_cons, List.map_cons]
  refine .cons ?_ ih
  by_cases q : e.1 = k
  ·rw [if_pos q, if_pos (h1.1.trans q)]; exact ⟨h1.1, h⟩
  ·rw [if_neg q, if_neg (fun z => q (h1.1.symm.trans z))]; exact h1
theorem RD.put {fz : Addr → Prop} {H : Hp} {l : List Ydb} {kvs : List Ydq} (r : RD K fz H l kvs) (k : List Key) {x : T} {v : V} (h : Rf K fz H x v) : RD K fz H (putG l k x) (putK kvs k v) := by
 unfold putG putK
 rw [r.any k]
 split
 ·exact r.repl k h
 ·exact Paired.snoc r ⟨rfl, h⟩
theorem RD.zip {fz : Addr → Prop} {H : Hp} {l : List Ydb} {kvs : List Ydq} (r : RD K fz H l kvs) : kvs = (l.map (·.1)).zip (kvs.map (·.2)) ∧ RfL K fz H (l.map (·.2)) (kvs.map (·.2)) := by
 induction r with
 | nil => exact ⟨rfl, by simp [RfL]⟩
 | @cons e p _ _ h t ih =>
  refine ⟨?_, ?_⟩
  ·simp only [List.map_cons, List.zip_cons_cons]
   rw [← ih.1, ← h.1]
  ·simp only [List.map_cons, RfL]
   exact ⟨_, _, rfl, h.2, ih.2⟩
theorem RD.of {fz : Addr → Prop} {H : Hp} : ∀ {ks : List (List Key)} {ts : List T} {vs : List V}, RfL K fz H ts vs → RD K fz H (ks.zip ts) (ks.zip vs)
 | [], _, _, _ => .nil
 | k :: ks, [], vs, h => by simp only [RfL] at h; rw [h]; exact .nil
 | k :: ks, t :: ts, vs, h => by
  simp only [RfL] at h
  obtain ⟨v, r, rfl, a, b⟩ := h
  exact .cons ⟨rfl, a⟩ (RD.of b)
theorem RD.val {fz : Addr → Prop} {H : Hp} {l : List Ydb} {kvs : List Ydq} (r : RD K fz H l kvs) (k : List Key) : (valD2 l k = none ∧ valV kvs k = none) ∨ ∃ x v, valD2 l k = some x ∧ valV kvs k = some v ∧ Rf K fz H x v := by
 induction r with
 | nil => exact .inl ⟨rfl, rfl⟩
 | @cons e p _ _ h t ih =>
  by_cases q : e.1 = k
  ·refine .inr ⟨e.2, p.2, ?_, valV_pos (h.1.trans q), h.2⟩
   simp [valD2, List.find?_cons, q]
  ·have e1 : valV (p :: _) k = valV _ k := valV_neg (r := by assumption) (fun z => q (h.1.symm.trans z))
   have e2 : ∀ r, valD2 (e :: r) k = valD2 r k := fun r => by simp [valD2, List.find?_cons, q]
   rw [e1, e2]
   exact ih
theorem keys_rf {fz : Addr → Prop} {H : Hp} : ∀ {ts : List T} {vs : List V} {ks : List Key}, keysT ts = some ks → RfL K fz H ts vs → vs = ks.map kV
 | [], vs, ks, h, r => by
  simp only [keysT, Option.some.injEq] at h
  subst h
  simp only [RfL] at r
  exact r
 | t :: ts, vs, ks, h, r => by
  unfold keysT at h
  split at h
  ·rename_i k ks' h1 h2
   cases h
   simp only [RfL] at r
   obtain ⟨v, r', rfl, a, b⟩ := r
   rw [keys_rf h2 b, List.map_cons]
   refine congrArg (· :: _) ?_
   unfold keyT at h1
   split at h1
   ·cases h1; simp only [Rf] at a; exact a
   ·cases h1; simp only [Rf] at a; exact a
   ·cases h1
  ·cases h
end
end Mir
namespace Mir
open PySem PySem.Spec L2
open PyProof.Rows hiding St
section
variable {prog : Program} {w : World}
theorem SeqH.there {h : Heap} {kd : Kd} {a : Addr} {its : Array Value} (x : SeqH h kd a its) : ∃ o, h.get? a = some o := by
 cases kd with
 | l => obtain ⟨o, e, _⟩ := x; exact ⟨o, e⟩
 | t => obtain ⟨o, e, _⟩ := x; exact ⟨o, e⟩
theorem SeqH.kp {h h' : Heap} {kd : Kd} {a : Addr} {its : Array Value} (x : SeqH h kd a its) (k : ∀ o, h.get? a = some o → h'.get? a = some o) : SeqH h' kd a its := by
 cases kd with
 | l => obtain ⟨o, e, r⟩ := x; exact ⟨o, k o e, r⟩
 | t => obtain ⟨o, e, r⟩ := x; exact ⟨o, k o e, r⟩
end
end Mir
namespace Mir
open PySem PySem.Spec L2
open PyProof.Rows hiding St
section
variable {A B : Type} {eta : IS} {hp : IH}
@[simp] theorem zag {a : A} {k : A → IH → Res B} : (Res.ok a hp).bind k = k a hp := rfl
@[simp] theorem bind_bad {k : A → IH → Res B} : (Res.bad : Res A).bind k = .bad := rfl
@[simp] theorem bind_er {e : Ex} {k : A → IH → Res B} : (Res.er e eta hp : Res A).bind k = .er e eta hp := rfl
@[simp] theorem zb1 {a : A} : noEr (Res.ok a hp) = Res.ok a hp := rfl
@[simp] theorem noEr_bad : noEr (Res.bad : Res A) = .bad := rfl
@[simp] theorem then_nx {S : M Fl} {e : IS} : thenF S (.nx e) hp = S e hp := rfl
@[simp] theorem then_rt {S : M Fl} {w : W} : thenF S (.rt w) hp = .ok (.rt w) hp := rfl
@[simp] theorem then_bk {S : M Fl} {e : IS} : thenF S (.bk e) hp = .ok (.bk e) hp := rfl
@[simp] theorem then_ct {S : M Fl} {e : IS} : thenF S (.ct e) hp = .ok (.ct e) hp := rfl
@[simp] theorem p_var {i : Nat} : mVar i eta hp = (match eta[i]? with | some (some w) => .ok w hp | _ => .bad) := rfl
@[simp] theorem p_c {x : T} : mC x eta hp = (.ok (.t x) hp) := rfl
@[simp] theorem p_bin {f : Op2} {Fa Fb : M W} : mBin f Fa Fb eta hp = ((Fa eta hp).bind fun a h1 => (Fb eta h1).bind fun b h2 => f a b h2) := rfl
@[simp] theorem p_un {f : Op1} {Fa : M W} : mUn f Fa eta hp = ((Fa eta hp).bind fun a h1 => f a h1) := rfl
@[simp] theorem p_nil  : mNil eta hp = (.ok [] hp) := rfl
@[simp] theorem p_cons {Fa : M W} {Fr : M (List W)} : zab Fa Fr eta hp = ((Fa eta hp).bind fun a h1 => (Fr eta h1).bind fun r h2 => .ok (a :: r) h2) := rfl
@[simp] theorem p_star {Fa : M W} {Fr : M (List W)} : mStar Fa Fr eta hp = ((Fa eta hp).bind fun a h1 => match items h1 a with | some ws => (Fr eta h1).bind fun r h2 => .ok (ws ++ r) h2 | none => .bad) := rfl
@[simp] theorem p_app {f : OpN} {Fs : M (List W)} : mApp f Fs eta hp = ((Fs eta hp).bind fun a h1 => f a h1) := rfl
@[simp] theorem p_frz {F : M W} : mFrz F eta hp = ((F eta hp).bind fun a h1 => zcf a h1) := rfl
@[simp] theorem zcq {f : W → IH → Res Bool} {F : M W} : zaf f F eta hp = ((F eta hp).bind fun a h1 => f a h1) := rfl
@[simp] theorem p_and {U V : M Bool} : mAnd U V eta hp = ((U eta hp).bind fun a h1 => if a then V eta h1 else .ok false h1) := rfl
@[simp] theorem p_or {U V : M Bool} : mOr U V eta hp = ((U eta hp).bind fun a h1 => if a then .ok true h1 else V eta h1) := rfl
@[simp] theorem p_not {U : M Bool} : mNot U eta hp = ((U eta hp).bind fun a h1 => .ok (!a) h1) := rfl
@[simp] theorem p_if {A : Type} {U : M Bool} {F G : M A} : mIf U F G eta hp = ((U eta hp).bind fun b h1 => if b then F eta h1 else G eta h1) := rfl
@[simp] theorem p_andV {Fa Fb : M W} : mAndV Fa Fb eta hp = ((Fa eta hp).bind fun a h1 => match a with | .t (.bl true) => Fb eta h1 | .t (.bl false) => .ok (.t Ya3) h1 | _ => .bad) := rfl
@[simp] theorem p_orV {Fa Fb : M W} : mOrV Fa Fb eta hp = ((Fa eta hp).bind fun a h1 => match a with | .t (.bl true) => .ok (.t Ycq) h1 | .t (.bl false) => Fb eta h1 | _ => .bad) := rfl
@[simp] theorem p_notV {Fa : M W} : mNotV Fa eta hp = ((Fa eta hp).bind fun a h1 => match a with | .t (.bl b) => .ok (.t (.bl (!b))) h1 | _ => .bad) := rfl
@[simp] theorem p_chain {f g : Op2} {Fa Fb Fc : M W} : mChain f g Fa Fb Fc eta hp = ((Fa eta hp).bind fun a h1 => (Fb eta h1).bind fun b h2 => (f a b h2).bind fun z h3 => match z with | .t (.bl true) => (Fc eta h3).bind fun c h4 => g b c h4 | .t (.bl false) => .ok (.t Ya3) h3 | _ => .bad) := rfl
@[simp] theorem p_skip  : zbu eta hp = (.ok Yc1 hp) := rfl
@[simp] theorem p_seq {S R : M Fl} : mSeq S R eta hp = ((S eta hp).bind (thenF R)) := rfl
@[simp] theorem p_ret {F : M W} : mRet F eta hp = ((F eta hp).bind fun a h1 => .ok (.rt a) h1) := rfl
@[simp] theorem p_retN  : mRetN eta hp = (.ok (.rt Yar) hp) := rfl
@[simp] theorem p_drop {F : M W} : mDrop F eta hp = ((F eta hp).bind fun _ h1 => .ok Yc1 h1) := rfl
@[simp] theorem p_brk  : mBrk eta hp = (.ok (.bk eta) hp) := rfl
@[simp] theorem p_cnt  : mCnt eta hp = (.ok (.ct eta) hp) := rfl
@[simp] theorem p_asg {F : M W} {G : W → IS → Option IS} : mAsg F G eta hp = ((F eta hp).bind fun a h1 => match G a eta with | some e => .ok (.nx e) h1 | none => .bad) := rfl
@[simp] theorem p_set {i : Nat} {F : M W} : mSet i F eta hp = ((F eta hp).bind fun a h1 => .ok (.nx Ydo) h1) := rfl
@[simp] theorem p_par {is : List Nat} {Fs : M (List W)} : mPar is Fs eta hp = ((Fs eta hp).bind fun ws h1 => if ws.length = is.length then .ok (.nx ((is.zip ws).foldl Yfs eta)) h1 else .bad) := rfl
@[simp] theorem p_parG {n : Nat} {Fs : M (List W)} {Gs : List W → IS → Option IS} : mParG n Fs Gs eta hp = ((Fs eta hp).bind fun ws h1 => if ws.length = n ∧ n ≤ 16777216 then (match Gs ws eta with | some e => .ok (.nx e) h1 | none => .bad) else .bad) := rfl
@[simp] theorem p_aug {i : Nat} {f : Op2} {F : M W} : mAug i f F eta hp = (match eta[i]? with | some (some x) => (F eta hp).bind fun y h1 => (f x y h1).bind fun z h2 => .ok (.nx (eta.set i (some z))) h2 | _ => .bad) := rfl
@[simp] theorem p_for {Fi : M (List W)} {G : W → IS → Option IS} {S : M Fl} : mFor Fi G S eta hp = ((Fi eta hp).bind fun ws h1 => forL G S ws eta h1) := rfl
@[simp] theorem p_while {n : Nat} {U : M Bool} {S : M Fl} : mWhile n U S eta hp = (zc0 U S n eta hp) := rfl
@[simp] theorem p_comp {fin : OpN} {Fi : M (List W)} {G : W → IS → Option IS} {U : M Bool} {E : M W} {vs : List Nat} : zbq fin Fi G U E vs eta hp = ((Fi eta hp).bind fun ws h1 => if ws.length ≤ 16777216 then (zb8 G U E (wipeI eta vs) ws h1).bind fun r h2 => fin r h2 else .bad) := rfl
@[simp] theorem p_sq {F : M W} : mSq F eta hp = ((F eta hp).bind sqI) := rfl
@[simp] theorem p_src {f : List W → IH → Res (List W)} {Fs : M (List W)} : mSrc f Fs eta hp = ((Fs eta hp).bind f) := rfl
@[simp] theorem p_yes  : mYes eta hp = (.ok true hp) := rfl
@[simp] theorem p_call {f : OpN} {ds : List T} {Fs : M (List W)} : zan f ds Fs eta hp = ((Fs eta hp).bind fun ws h1 => noEr (f (ws ++ ds.map W.t) h1)) := rfl
@[simp] theorem p_meth0 {ty : W → IH → Bool} {f : OpM} {Fo : M W} : mMeth0 ty f Fo eta hp = ((Fo eta hp).bind fun w h1 => if ty w h1 = true then f w [] h1 else .bad) := rfl
@[simp] theorem p_meth {ty : W → IH → Bool} {f : OpM} {Fo : M W} {Fs : M (List W)} : mMeth ty f Fo Fs eta hp = ((Fo eta hp).bind fun w h1 => if ty w h1 = true then (Fs eta h1).bind fun ws h2 => f w ws h2 else .bad) := rfl
@[simp] theorem p_sl {Fa : M W} {Fl Fh : MO} : mSl Fa Fl Fh eta hp = ((Fa eta hp).bind fun a h1 => (Fl eta h1).bind fun l h2 => (Fh eta h2).bind fun h h3 => slW a l h h3) := rfl
@[simp] theorem p_noPart  : zbc eta hp = (.ok none hp) := rfl
@[simp] theorem p_part {F : M W} : zca F eta hp = ((F eta hp).bind fun a h1 => match a with | .t (.int i) => .ok (some i) h1 | _ => .bad) := rfl
@[simp] theorem p_disp {ps : List (Key × M W)} : mDisp ps eta hp = ((mVals ps eta (hp ++ [some (.dic [])])).bind fun kvs h1 => match getD h1 hp.length with | some [] => if kvs.length ≤ 15 then .ok Ycm (h1.set hp.length (some (.dic (mergeW [] kvs)))) else .bad | _ => .bad) := rfl
@[simp] theorem p_dput {Fd Fk Fv : M W} : mDPut Fd Fk Fv eta hp = ((Fv eta hp).bind fun v h1 => (Fd eta h1).bind fun d h2 => (Fk eta h2).bind fun k h3 => match d, asK k with | .r i, some k => (match getD h3 i with | some kvs => if kvs.length < 16777216 then .ok Yc1 (h3.set i (some (.dic (putW kvs k v)))) else .bad | none => .bad) | _, _ => .bad) := rfl
@[simp] theorem p_fz {i : Nat} {S : M Fl} : mFz i S eta hp = (match eta[i]? with | some (some w) => (zcf w hp).bind fun w' h1 => S (eta.set i (some w')) h1 | _ => .bad) := rfl
@[simp] theorem p_gN {i : Nat} {w : W} : gN i w eta = some Ye5 := rfl
@[simp] theorem p_gsN : gsN [] eta = some eta := rfl
@[simp] theorem p_gsC {G : W → IS → Option IS} {Gs : List W → IS → Option IS} {w : W} {ws : List W} : gsC G Gs (w :: ws) eta = (G w eta).bind fun e => Gs ws e := rfl
@[simp] theorem p_gTp {n : Nat} {Gs : List W → IS → Option IS} {ts : List T} : gT n Gs (.t (.pr ts)) eta = if ts.length = n then Gs Yl eta else none := rfl
@[simp] theorem p_gTt {n : Nat} {Gs : List W → IS → Option IS} {ts : List T} : gT n Gs Y7 eta = if ts.length = n then Gs Yl eta else none := rfl
@[simp] theorem p_gAp {n : Nat} {Gs : List W → IS → Option IS} {ts : List T} : gA n Gs (.t (.pr ts)) eta = if ts.length = n then Gs Yl eta else none := rfl
@[simp] theorem p_gAt {n : Nat} {Gs : List W → IS → Option IS} {ts : List T} : gA n Gs Y7 eta = if ts.length = n then Gs Yl eta else none := rfl
@[simp] theorem p_gAl {n : Nat} {Gs : List W → IS → Option IS} {ts : List T} : gA n Gs Y3 eta = if ts.length = n then Gs Yl eta else none := rfl
@[simp] theorem p_forN {G : W → IS → Option IS} {S : M Fl} : forL G S [] eta hp = .ok Yc1 hp := rfl
@[simp] theorem p_compN {G : W → IS → Option IS} {U : M Bool} {E : M W} : zb8 G U E eta [] hp = .ok [] hp := rfl
@[simp] theorem zb9 {ts : List T} : allT Yl = some ts := by
 induction ts with
 | nil => rfl
 | cons t ts ih => simp [allT, ih]
@[simp] theorem seqT_t {ts : List T} : seqT Y7 = some ts := rfl
@[simp] theorem seqT_l {ts : List T} : seqT Y3 = some ts := rfl
@[simp] theorem seqT_s {ts : List T} : seqT (.t (.scr ts)) = some ts := rfl
@[simp] theorem items_t {ts : List T} : items hp Y7 = some Yl := rfl
@[simp] theorem items_l {ts : List T} : items hp Y3 = some Yl := rfl
@[simp] theorem items_s {ts : List T} : items hp (.t (.scr ts)) = some Yl := rfl
@[simp] theorem items_r {i : Nat} : items hp (.r i) = getL hp i := rfl
@[simp] theorem litems_l {ts : List T} : litems hp Y3 = some Yl := rfl
@[simp] theorem litems_s {ts : List T} : litems hp (.t (.scr ts)) = some Yl := rfl
@[simp] theorem litems_r {i : Nat} : litems hp (.r i) = getL hp i := rfl
@[simp] theorem hitems_l {ts : List T} : hitems hp Y3 = some Yl := rfl
@[simp] theorem hitems_r {i : Nat} : hitems hp (.r i) = getL hp i := rfl
@[simp] theorem asT_t {x : T} : asT hp (.t x) = some x := rfl
@[simp] theorem asT_r {i : Nat} : asT hp (.r i) = ((getL hp i).bind allT).map T.lst := rfl
@[simp] theorem getL_new {ws : List W} : getL (hp ++ [some (.lst ws)]) hp.length = some ws := by simp [getL]
@[simp] theorem zbv {i : Nat} {ws : List W} (h : i < hp.length) : getL (hp.set i (some (.lst ws))) i = some ws := by simp [getL, h]
theorem getL_lt {i : Nat} {ws : List W} (h : getL hp i = some ws) : i < hp.length := (List.getElem?_eq_some_iff.mp (zbs h)).1
end
@[simp] theorem allI_map : ∀ {ns : List Int}, allW asI (ns.map fun n => W.t (.int n)) = some ns
 | [] => rfl
 | n :: ns => by simp [allW, asI, allI_map (ns := ns)]
@[simp] theorem allS_map : ∀ {ns : List Str}, allW asS (ns.map fun n => W.t (.str n)) = some ns
 | [] => rfl
 | n :: ns => by simp [allW, asS, allS_map (ns := ns)]
@[simp] theorem allB_map : ∀ {ns : List Bool}, allW asBl (ns.map fun n => W.t (.bl n)) = some ns
 | [] => rfl
 | n :: ns => by simp [allW, asBl, allB_map (ns := ns)]
section
variable {hp : IH} {i j : Int} {b c neg : Bool} {x y : Str} {u v : T}
@[simp] theorem asB_bl : asB Ydl hp = .ok b hp := rfl
@[simp] theorem truW_bl : truW Ydl hp = .ok b hp := rfl
@[simp] theorem iNeg_i : iNeg Yal hp = .ok (.t (.int (-i))) hp := rfl
@[simp] theorem opI_ii {C : Int → Int → Bool} {g : Int → Int → Int} : opI C g Yal Ybp hp = if C i j = true then .ok (.t (.int (g i j))) hp else .bad := rfl
@[simp] theorem opC_ii {g : Int → Int → Bool} : opC g Yal Ybp hp = .ok (.t (.bl (g i j))) hp := rfl
@[simp] theorem cYes_t : cYes i j = true := rfl
@[simp] theorem wLt_ii : wLt Yal Ybp hp = .ok (.t (.bl (decide (i < j)))) hp := rfl
@[simp] theorem wLt_ss : wLt (.t (.str x)) (.t (.str y)) hp = .ok (.t (.bl (ltCps x.cps.toList y.cps.toList))) hp := rfl
@[simp] theorem wAdd_ii : wAdd Yal Ybp hp = .ok (.t (.int (i + j))) hp := rfl
@[simp] theorem wAdd_tt {xs ys : List T} : wAdd (.t (.tup xs)) (.t (.tup ys)) hp = if xs.length + ys.length ≤ 16777216 then .ok (.t (.tup (xs ++ ys))) hp else .bad := rfl
@[simp] theorem wAdd_ll {xs ys : List T} : wAdd (.t Yby) (.t (.lst ys)) hp = if xs.length + ys.length ≤ 16777216 then .ok Ygc hp else .bad := by simp [wAdd]
@[simp] theorem wMul_ii : wMul Yal Ybp hp = if cMul i j = true then .ok (.t (.int (i * j))) hp else .bad := rfl
@[simp] theorem wMul_li {xs : List T} : wMul (.t Yby) Ybp hp = if -(2 ^ 63) ≤ j ∧ j < 2 ^ 63 ∧ xs.length * j.toNat ≤ 16777216 then .ok (.t (.lst (repT j.toNat xs))) hp else .bad := by simp [wMul]
@[simp] theorem eqW_tt : eqW neg (.t u) (.t v) hp = if fit u 60 = true ∧ fit v 60 = true then .ok (.t (.bl (if neg then !Mir.eqT u v else Mir.eqT u v))) hp else .bad := rfl
@[simp] theorem isN_n : isN neg Yar Yar hp = .ok (.t (.bl (!neg))) hp := rfl
@[simp] theorem isN_i : isN neg Yal Yar hp = .ok (.t (.bl neg)) hp := rfl
@[simp] theorem isN_b : isN neg Ydl Yar hp = .ok (.t (.bl neg)) hp := rfl
@[simp] theorem isN_t {ts : List T} : isN neg Y7 Yar hp = .ok (.t (.bl neg)) hp := rfl
@[simp] theorem isB_bb : isB neg Ydl (.t (.bl c)) hp = .ok Ygd hp := rfl
@[simp] theorem ixW_l {ts : List T} : ixW Y3 Yal hp = (match atI Yl i with | some w => .ok w hp | none => .bad) := rfl
@[simp] theorem ixW_t {ts : List T} : ixW Y7 Yal hp = (match atI Yl i with | some w => .ok w hp | none => .bad) := rfl
@[simp] theorem ixW_r {k : Nat} : ixW (.r k) Yal hp = (match (getL hp k).bind fun ws => atI ws i with | some w => .ok w hp | none => .bad) := rfl
@[simp] theorem oInt_i : oInt [.t (.int i)] hp = .ok Yal hp := rfl
@[simp] theorem oAbs_i : oAbs [.t (.int i)] hp = .ok (.t Yf6) hp := rfl
@[simp] theorem oMax2_i : oMax2 [.t (.int i), .t (.int j)] hp = .ok (.t (.int (if j > i then j else i))) hp := rfl
@[simp] theorem oMin2_i : oMin2 [.t (.int i), .t (.int j)] hp = .ok (.t (.int (if j < i then j else i))) hp := rfl
@[simp] theorem oLen_l {ts : List T} : oLen [.t Yd4] hp = .ok (.t (.int ts.length)) hp := by simp [oLen]
@[simp] theorem oLen_t {ts : List T} : oLen [.t (.tup ts)] hp = .ok (.t (.int ts.length)) hp := by simp [oLen]
@[simp] theorem oLen_r {k : Nat} : oLen [.r k] hp = (match getL hp k with | some xs => .ok (.t (.int xs.length)) hp | none => .bad) := rfl
@[simp] theorem oTup_t {ts : List T} : oTup [.t (.tup ts)] hp = .ok Y7 hp := rfl
@[simp] theorem oTup_l {ts : List T} : oTup [.t Yd4] hp = .ok Y7 hp := by simp [oTup]
@[simp] theorem oListF_l {ts : List T} : oListF [.t Yd4] hp = .ok Y3 hp := by simp [oListF]
@[simp] theorem oListF_t {ts : List T} : oListF [.t (.tup ts)] hp = .ok Y3 hp := by simp [oListF]
@[simp] theorem oListL_l {ts : List T} : oListL [.t Yd4] hp = .ok Ycm (hp ++ [some (.lst Yl)]) := rfl
@[simp] theorem oListL_t {ts : List T} : oListL [.t (.tup ts)] hp = .ok Ycm (hp ++ [some (.lst Yl)]) := rfl
@[simp] theorem sqI_l {ts : List T} : sqI Y3 hp = .ok Yl hp := rfl
@[simp] theorem sqI_t {ts : List T} : sqI Y7 hp = .ok Yl hp := rfl
@[simp] theorem sqI_s {ts : List T} : sqI (.t (.scr ts)) hp = .ok Yl hp := rfl
@[simp] theorem rng1_i : rng1 [.t (.int i)] hp = if -(2 ^ 62) ≤ i ∧ i < 2 ^ 62 then .ok ((List.range i.toNat).map fun k => W.t (.int (0 + (k : Nat)))) hp else .bad := rfl
@[simp] theorem rng2_i : rng2 [.t (.int i), .t (.int j)] hp = if -(2 ^ 62) ≤ i ∧ i < 2 ^ 62 ∧ -(2 ^ 62) ≤ j ∧ j < 2 ^ 62 then .ok Yfh hp else .bad := rfl
@[simp] theorem enum1_1 {a : W} : enum1 [a] hp = (match seqT a with | some ts => .ok (enumT 0 ts) hp | none => .bad) := rfl
@[simp] theorem zip2_2 {a b : W} : zip2 [a, b] hp = (match seqT a, seqT b with | some ts, some us => .ok (zipT ts us) hp | _, _ => .bad) := rfl
@[simp] theorem isL_r {k : Nat} : isL (.r k) hp = (getL hp k).isSome := rfl
@[simp] theorem isL_l {ts : List T} : isL Y3 hp = true := rfl
@[simp] theorem isTp_t {ts : List T} : isTp Y7 hp = true := rfl
@[simp] theorem freeze_t : zcf (.t u) hp = .ok (.t u) hp := rfl
@[simp] theorem freeze_r {k : Nat} : zcf (.r k) hp = (match (getL hp k).bind allT with | some ts => .ok Y3 (hp.set k none) | none => .bad) := rfl
@[simp] theorem fit_n {n : Nat} : fit .non n = true := by cases n <;> rfl
@[simp] theorem fit_b {n : Nat} : fit (.bl b) n = true := by cases n <;> rfl
@[simp] theorem fit_i {n : Nat} : fit (.int i) n = true := by cases n <;> rfl
@[simp] theorem fit_s {n : Nat} : fit (.str x) n = true := by cases n <;> rfl
@[simp] theorem fit_t {n : Nat} {ts : List T} : fit (.tup ts) (n + 1) = fitL ts n := rfl
@[simp] theorem fit_l {n : Nat} {ts : List T} : fit Yd4 (n + 1) = fitL ts n := rfl
@[simp] theorem fitL_n {n : Nat} : fitL [] n = true := by cases n <;> rfl
@[simp] theorem fitL_c {n : Nat} {ts : List T} : fitL (u :: ts) n = (fit u n && fitL ts n) := by cases n <;> rfl
@[simp] theorem eqT_nn : Mir.eqT .non .non = true := by simp [Mir.eqT]
@[simp] theorem eqT_ii : Mir.eqT (.int i) (.int j) = (i == j) := by simp [Mir.eqT]
@[simp] theorem eqT_bb : Mir.eqT (.bl b) (.bl c) = (b == c) := by simp [Mir.eqT]
@[simp] theorem eqT_ss : Mir.eqT (.str x) (.str y) = (x == y) := by simp [Mir.eqT]
@[simp] theorem eqT_tt {ts us : List T} : Mir.eqT (.tup ts) (.tup us) = eqTL ts us := by simp [Mir.eqT]
@[simp] theorem eqT_ll {ts us : List T} : Mir.eqT Yd4 (.lst us) = eqTL ts us := by simp [Mir.eqT]
@[simp] theorem eqTL_nn : eqTL [] [] = true := by simp [eqTL]
@[simp] theorem eqTL_cn {ts : List T} : eqTL (u :: ts) [] = false := by simp [eqTL]
@[simp] theorem eqTL_nc {ts : List T} : eqTL [] (u :: ts) = false := by simp [eqTL]
@[simp] theorem eqTL_cc {ts us : List T} : eqTL (u :: ts) (v :: us) = (Mir.eqT u v && eqTL ts us) := by simp [eqTL]
@[simp] theorem allT_n : allT [] = some [] := rfl
@[simp] theorem allT_c {ws : List W} : allT (.t u :: ws) = (allT ws).map (u :: ·) := rfl
@[simp] theorem lstOf_e {ws : List W} : zaj ws hp = (match allT ws with | some ts => if ts.length ≤ 16777216 then .ok Y3 hp else .bad | none => .bad) := rfl
@[simp] theorem tupOf_e {ws : List W} : zce ws hp = (match allT ws with | some ts => if ts.length ≤ 16777216 then .ok Y7 hp else .bad | none => .bad) := rfl
@[simp] theorem newL_e {ws : List W} : newL ws hp = if ws.length ≤ 16777216 then .ok Ycm (hp ++ [some (.lst ws)]) else .bad := rfl
@[simp] theorem oAppend_r {k : Nat} {w : W} : oAppend (.r k) [w] hp = (match getL hp k with | some xs => if xs.length < 16777216 then .ok Yar (hp.set k (some (.lst (xs ++ [w])))) else .bad | none => .bad) := rfl
@[simp] theorem oPop_r {k : Nat} : oPop (.r k) [] hp = (match getL hp k with | some xs => (match xs[xs.length - 1]? with | some y => .ok y (hp.set k (some (.lst xs.dropLast))) | none => .bad) | none => .bad) := rfl
@[simp] theorem asK_i : asK Yal = some (.inl i) := rfl
@[simp] theorem asK_s : asK (.t (.str x)) = some (.inr x) := rfl
@[simp] theorem dGet_s {k : Nat} {w : W} : dGet (.r k) w hp = (match asK w with | some q => (match (getD hp k).bind fun kvs => valW kvs q with | some w => .ok w hp | none => .bad) | none => .bad) := by
 unfold dGet
 cases asK w <;> rfl
end
theorem fitL_ints {ns : List Int} {n : Nat} : fitL (ns.map T.int) n = true := by
 induction ns with
 | nil => simp
 | cons x xs ih => simp [ih]
theorem fitL_strs {ns : List Str} {n : Nat} : fitL (ns.map T.str) n = true := by
 induction ns with
 | nil => simp
 | cons x xs ih => simp [ih]
theorem bin_ok {f : Op2} {Fa Fb : M W} {eta : IS} {hp h1 h2 : IH} {a b : W} {r : Res W} (ha : Fa eta hp = .ok a h1) (hb : Fb eta h1 = .ok b h2) (h : f a b h2 = r) : mBin f Fa Fb eta hp = r := by
 rw [p_bin, ha, zag, hb, zag]
 exact h
theorem zax {Fa : M W} {Fs : M (List W)} {eta : IS} {hp h1 h2 : IH} {a : W} {as : List W} (ha : Fa eta hp = .ok a h1) (hs : Fs eta h1 = .ok as h2) : zab Fa Fs eta hp = .ok (a :: as) h2 := by
 rw [p_cons, ha, zag, hs, zag]
theorem zal {f : OpN} {Fs : M (List W)} {eta : IS} {hp h1 h2 : IH} {w : W} {ws : List W} (hs : Fs eta hp = .ok ws h1) (h : f ws h1 = .ok w h2) : zan f [] Fs eta hp = .ok w h2 := by
 rw [p_call, hs, zag, List.map_nil, List.append_nil, h, zb1]
theorem test_ok {F : M W} {eta : IS} {hp h1 : IH} {b : Bool} (h : F eta hp = .ok Ydl h1) : zaf asB F eta hp = .ok b h1 := by
 rw [zcq, h, zag, asB_bl]
theorem if_no {A : Type} {U : M Bool} {F G : M A} {eta : IS} {hp h1 : IH} (h : U eta hp = .ok false h1) : mIf U F G eta hp = G eta h1 := by
 rw [p_if, h, zag, if_neg Bool.false_ne_true]
theorem if_yes {A : Type} {U : M Bool} {F G : M A} {eta : IS} {hp h1 : IH} (h : U eta hp = .ok true h1) : mIf U F G eta hp = F eta h1 := by
 rw [p_if, h, zag, if_pos rfl]
theorem zbl {S R : M Fl} {eta e1 : IS} {hp h1 : IH} {r : Res Fl} (h : S eta hp = .ok (.nx e1) h1) (g : R e1 h1 = r) : mSeq S R eta hp = r := by
 rw [p_seq, h, zag, then_nx]
 exact g
theorem set_ok {i : Nat} {F : M W} {eta : IS} {hp h1 : IH} {w : W} (h : F eta hp = .ok w h1) : mSet i F eta hp = .ok (.nx Ye5) h1 := by
 rw [p_set, h, zag]
theorem fnP_ok {n nn : Nat} {B : M Fl} {ts : List T} {hp h1 : IH} {x : T} {eta : IS} (hl : ts.length = n) (he : (ts.map W.t).map some ++ List.replicate (nn - n) none = eta) (h : B eta [] = .ok (.rt (.t x)) h1) : fnP n nn B Yl hp = .ok (.t x) hp := by
 unfold fnP
 rw [if_pos ⟨by rw [List.length_map]; exact hl, by rw [zb9]; rfl⟩, he, h]
theorem fnM_ok {n nn : Nat} {B : M Fl} {ws : List W} {hp h1 : IH} {x : W} {eta : IS} (hl : ws.length = n) (he : ws.map some ++ List.replicate (nn - n) none = eta) (h : B eta hp = .ok (.rt x) h1) : fnM n nn B ws hp = .ok x h1 := by
 unfold fnM
 rw [if_pos hl, he, h]
end Mir
namespace Mir
open PySem PySem.Spec L2
open PyProof.Rows hiding St
theorem fitL_all {n : Nat} : ∀ {xs : List T}, (∀ x ∈ xs, fit x n = true) → fitL xs n = true
 | [], _ => by simp
 | x :: xs, h => by simp only [fitL_c, h x Yx, fitL_all fun y hy => h y (List.mem_cons_of_mem _ hy), Bool.and_self]
theorem comp_list {A : Type} {i : Nat} {U : M Bool} {E : M W} {f g : A → T} {p : A → Bool} {eta : IS} {hp : IH} : ∀ {as : List A}, (∀ a ∈ as, U (eta.set i (some (.t (f a)))) hp = .ok (p a) hp) → (∀ a ∈ as, p a = true → E (eta.set i (some (.t (f a)))) hp = .ok (.t (g a)) hp) →
  zb8 (gN i) U E eta ((as.map f).map W.t) hp = .ok (((as.filter p).map g).map W.t) hp
 | [], _, _ => rfl
 | a :: as, h, k => by
  have h1 := h a Yx
  have ih := comp_list (i := i) (eta := eta) (as := as) (fun u hu => h u Ydc) fun u hu => k u Ydc
  cases q : p a with
  | true =>
   have k1 := k a Yx q
   simp only [List.map_cons, zb8, turnL, p_gN, h1, q, zag, if_true, k1, zb1, ih, List.filter_cons_of_pos q]
  | false =>
   simp only [List.map_cons, zb8, turnL, p_gN, h1, q, zag, Bool.false_eq_true, if_false, zb1, ih, List.filter_cons_of_neg (by simp [q] : ¬ p a = true)]
theorem comp_all {A : Type} {i : Nat} {E : M W} {f g : A → T} {eta : IS} {hp : IH} {as : List A} (h : ∀ a ∈ as, E (eta.set i (some (.t (f a)))) hp = .ok (.t (g a)) hp) : zb8 (gN i) mYes E eta ((as.map f).map W.t) hp = .ok ((as.map g).map W.t) hp := by
 have := comp_list (i := i) (U := mYes) (E := E) (f := f) (g := g) (p := fun _ => true) (eta := eta) (hp := hp) (as := as) Yce fun a ha _ => h a ha
 rw [List.filter_eq_self.mpr fun _ _ => rfl] at this
 exact this
theorem app1_ok {f : OpN} {F : M W} {eta : IS} {hp h1 : IH} {a : W} {r : Res W} (h : F eta hp = .ok a h1) (g : f [a] h1 = r) : mApp f (zab F mNil) eta hp = r := by
 rw [p_app, zax h rfl, zag]
 exact g
end Mir
namespace Mir
open PySem PySem.Spec L2
open PyProof.Rows hiding St
abbrev wI (n : Int) : W := .t (.int n)
theorem allT_ints (ns : List Int) : allT (ns.map wI) = some (ns.map T.int) := by
 have : ns.map wI = (ns.map T.int).map W.t := by simp [wI]
 rw [this, zb9]
theorem atI_end {A : Type} {xs : List A} {x : A} : atI (xs ++ [x]) (-1) = some x := by
 have h : ixN (xs.length + 1) (-1) = some xs.length := by
  unfold ixN
  rw [if_neg Yc, if_pos Yc]
  congr 1
  omega
 simp [atI, h]
theorem set_same {hp : IH} {j : Nat} {c : Option Cell} (h : hp[j]? = some c) : hp.set j c = hp := by
 apply List.ext_getElem?
 intro k
 by_cases hk : j = k
 ·subst hk
  rw [List.getElem?_set_self (List.getElem?_eq_some_iff.mp h).1, h]
 ·rw [List.getElem?_set_ne hk]
theorem getL_ne {hp : IH} {i j : Nat} {c : Option Cell} (h : j ≠ i) : getL (hp.set j c) i = getL hp i := by simp [getL, List.getElem?_set_ne h]
theorem cDiv_ok {x wide : Int} (hw : 0 < wide) (hw2 : wide < 2 ^ 64) : cDiv x wide = true := by
 simp only [cDiv, decide_eq_true_eq]
 refine ⟨hw, ?_⟩
 have : wide.natAbs.log2 < 64 := (Nat.log2_lt Yc).mpr Yc
 omega
theorem cMod_ok {x wide : Int} (hw : 0 < wide) : cMod x wide = true := by simpa [cMod] using hw
theorem cMul_ok {x y : Int} (hx : x.natAbs < 2 ^ 64) (hy : y.natAbs < 2 ^ 64) : cMul x y = true := by
 have h : ∀ n : Nat, n < 2 ^ 64 → n.log2 < 64 := fun n h => by
  by_cases h0 : n = 0
  ·subst h0; decide
  ·exact (Nat.log2_lt h0).mpr h
 simp only [cMul, decide_eq_true_eq]
 have := h _ hx
 have := h _ hy
 omega
theorem getL_keep {hp hp' : IH} {k : Nat} (h : hp'[k]? = hp[k]?) : getL hp' k = getL hp k := by unfold getL; rw [h]
theorem atI_nn {A : Type} {xs : List A} {n : Int} (h0 : 0 ≤ n) (h1 : n < xs.length) : atI xs n = xs[n.toNat]? := by
 unfold atI ixN
 rw [if_pos h0, if_pos h1]
 rfl
theorem fitL_erase {n : Nat} : ∀ {ts : List T} (k : Nat), fitL ts n = true → fitL (ts.eraseIdx k) n = true
 | [], _, _ => by simp
 | t :: ts, 0, h => by simp only [fitL_c, Bool.and_eq_true] at h; exact h.2
 | t :: ts, k + 1, h => by
  simp only [fitL_c, Bool.and_eq_true] at h
  simp only [List.eraseIdx_cons_succ, fitL_c, Bool.and_eq_true]
  exact ⟨h.1, fitL_erase k h.2⟩
theorem erase_map {A B : Type} (f : A → B) : ∀ (l : List A) (k : Nat), (l.map f).eraseIdx k = (l.eraseIdx k).map f
 | [], _ => rfl
 | _ :: _, 0 => rfl
 | x :: l, k + 1 => by simp [erase_map f l k]
theorem erase_perm {A : Type} : ∀ (l : List A) (k : Nat) (h : k < l.length), (l[k] :: l.eraseIdx k).Perm l
 | [], _, h => absurd h (Nat.not_lt_zero _)
 | x :: l, 0, _ => .refl _
 | x :: l, k + 1, h => by
  simp only [List.getElem_cons_succ, List.eraseIdx_cons_succ]
  exact (List.Perm.swap _ _ _).trans ((erase_perm l k (by simpa using h)).cons x)
theorem getL_app {hp : IH} {k : Nat} {c : List (Option Cell)} (h : k < hp.length) : getL (hp ++ c) k = getL hp k := by unfold getL; rw [List.getElem?_append_left h]
theorem perm_strs {zs : List T} {l : List Str} (h : zs.Perm Yfv) : ∃ l' : List Str, l'.Perm l ∧ zs = l'.map T.str := by
 let g : T → Str := fun t => match t with | .str x => x | _ => "a"
 have e1 : (l.map T.str).map g = l := by simp [g, Function.comp_def]
 refine ⟨zs.map g, by rw [← e1]; exact h.map g, ?_⟩
 have : ∀ t ∈ zs, T.str (g t) = t := fun t ht => by
  have := h.mem_iff.mp ht
  rw [List.mem_map] at this
  obtain ⟨x, _, e⟩ := this
  rw [← e]
 rw [List.map_map]
 conv => lhs; rw [← List.map_id zs]
 exact List.map_congr_left fun t ht => (this t ht).symm
theorem cutL_map {A B : Type} (f : A → B) (xs : List A) (lo hi : Option Int) : cutL (xs.map f) lo hi = (cutL xs lo hi).map f := by
 unfold cutL
 rw [List.length_map, List.map_take, List.map_drop]
theorem cutL_len {A : Type} (xs : List A) (lo hi : Option Int) : (cutL xs lo hi).length ≤ xs.length := by
 unfold cutL
 rw [List.length_take, List.length_drop]
 omega
theorem cutL_to {A : Type} (xs : List A) (k : Nat) : cutL xs none (some (k : Int)) = xs.take k := by
 unfold cutL
 rw [HT.sIx_none, HT.sIx_nat]
 simp only [List.drop_zero, Nat.sub_zero]
 rcases Nat.le_total k xs.length with h | h
 ·rw [Nat.min_eq_left h]
 ·rw [Nat.min_eq_right h, List.take_of_length_le h, List.take_of_length_le Yem]
def oT : Option Int → T | none => .non | some i => .int i
/-- a list or a tuple -/
def sqT (b : Bool) (ts : List T) : T := if b then .tup ts else .lst ts
def pos (w : List Str) (x : Str) : Nat := w.idxOf x
theorem ixW_sq {b : Bool} {ts : List T} {n : Nat} {hp : IH} (h : n < ts.length) : ixW (.t Ycr) (.t (.int n)) hp = .ok (.t ts[n]) hp := by
 have e : atI Yl (n : Int) = some (.t ts[n]) := by
  rw [atI_nn Yc (by simpa using h)]
  simp [h]
 cases b <;> simp [sqT, e]
def natW (k : Nat) : W := .t (.int (0 + (k : Nat)))
theorem rng_is {n : Nat} {hp : IH} (hn : n < 100000) : rng1 [.t (.int n)] hp = .ok ((List.range n).map natW) hp := by
 have c : -(2 ^ 62) ≤ (n : Int) ∧ (n : Int) < 2 ^ 62 := ⟨by omega, by omega⟩
 rw [rng1_i, if_pos c, Int.toNat_natCast]
 rfl
theorem for_ok {Fi : M (List W)} {G : W → IS → Option IS} {S : M Fl} {eta : IS} {hp h1 : IH} {ws : List W} (h : Fi eta hp = .ok ws h1) : mFor Fi G S eta hp = forL G S ws eta h1 := by
 rw [p_for, h]
 rfl
theorem comp_ok {fin : OpN} {Fi : M (List W)} {G : W → IS → Option IS} {U : M Bool} {E : M W} {vs : List Nat} {eta : IS} {hp h1 h2 : IH} {ws ys : List W} {r : Res W} (h : Fi eta hp = .ok ws h1) (hl : ws.length ≤ 16777216) (hc : zb8 G U E (wipeI eta vs) ws h1 = .ok ys h2) (hf : fin ys h2 = r) :
  zbq fin Fi G U E vs eta hp = r := by
 rw [p_comp, h, zag, if_pos hl, hc, zag]
 exact hf
end Mir
namespace Mir
open PySem PySem.Spec L2
open PyProof.Rows hiding St
theorem binP {f : Op2} {Fa Fb : M W} {eta : IS} {hp : IH} {a b : W} {r : Res W} (ha : Fa eta hp = .ok a hp) (hb : Fb eta hp = .ok b hp) (h : f a b hp = r) : mBin f Fa Fb eta hp = r := bin_ok ha hb h
theorem zbn {F : M W} {eta : IS} {hp : IH} {b : Bool} (h : F eta hp = .ok Ydl hp) : zaf asB F eta hp = .ok b hp := test_ok h
theorem zcn {f : OpN} {F : M W} {eta : IS} {hp : IH} {a : W} {r : Res W} (h : F eta hp = .ok a hp) (g : f [a] hp = r) : mApp f (zab F mNil) eta hp = r := app1_ok h g
theorem varP {i : Nat} {eta : IS} {hp : IH} {w : W} (h : eta[i]? = some (some w)) : mVar i eta hp = .ok w hp := by rw [p_var, h]
theorem iGt_ii {i j : Int} {hp : IH} : iGt Yal Ybp hp = .ok (.t (.bl (decide (j < i)))) hp := rfl
theorem iGe_ii {i j : Int} {hp : IH} : iGe Yal Ybp hp = .ok (.t (.bl (decide (j ≤ i)))) hp := rfl
theorem wMul_ok {i j : Int} {hp : IH} (h : cMul i j = true) : wMul Yal Ybp hp = .ok (.t (.int (i * j))) hp := by rw [wMul_ii, if_pos h]
theorem iMod_ok {i j : Int} {hp : IH} (h : cMod i j = true) : iMod Yal Ybp hp = .ok (.t (.int (i % j))) hp := by unfold iMod; rw [opI_ii, if_pos h]
theorem iDiv_ok {i j : Int} {hp : IH} (h : cDiv i j = true) : iDiv Yal Ybp hp = .ok (.t (.int (i / j))) hp := by unfold iDiv; rw [opI_ii, if_pos h]
theorem iput_ok {Fd Fk Fv : M W} {eta : IS} {hp h1 : IH} {i k : Nat} {v : W} {xs : List W} (hv : Fv eta hp = .ok v h1) (hd : Fd eta h1 = .ok (.r i) h1) (hk : Fk eta h1 = .ok (.t (.int k)) h1) (hx : getL h1 i = some xs) (hl : k < xs.length) : mIput Fd Fk Fv eta hp = .ok Yc1 (h1.set i (some (.lst (xs.set k v)))) := by
 have e : ixN xs.length (k : Int) = some k := by
  unfold ixN
  rw [if_pos Yc, if_pos Yc]
  rfl
 unfold mIput
 rw [hv, zag, hd, zag, hk, zag]
 simp only [hx, e]
theorem any_str {x : Str} : ∀ {l : List Str}, (l.map T.str).any (fun y => Mir.eqT y (.str x)) = decide (x ∈ l)
 | [] => by simp
 | y :: l => by
  have ih := any_str (x := x) (l := l)
  simp only [List.map_cons, List.any_cons, ih, eqT_ss]
  by_cases h : y = x
  ·subst h; simp
  ·have : ¬ x = y := fun e => h e.symm
   simp [h, this]
theorem bools_all {l : List Bool} {hp : IH} : oAll [.t (.lst (l.map T.bl))] hp = .ok (.t (.bl (l.all id))) hp := by
 have al : allW asBl ((l.map T.bl).map W.t) = some l := by rw [List.map_map]; exact allB_map
 simp only [oOnL, litems_l, Option.bind_some, al]
theorem sqI_sq {b : Bool} {ts : List T} {hp : IH} : sqI (.t Ycr) hp = .ok Yl hp := by cases b <;> rfl
theorem oTup_sq {b : Bool} {ts : List T} {hp : IH} : oTup [.t Ycr] hp = .ok Y7 hp := by cases b <;> simp [sqT]
end Mir
namespace Mir
open PySem PySem.Spec L2
open PyProof.Rows hiding St
section
variable {hp : IH} {i j : Int} {x y z u v : T} {ts us : List T} {w : W} {b c : Bool} {s r : Str}
theorem ev_for0 {G : W → IS → Option IS} {S : M Fl} {eta : IS} : forL G S [] eta hp = .ok Yc1 hp := rfl
theorem ev_for1 {G : W → IS → Option IS} {S : M Fl} {eta : IS} {ws : List W} : forL G S (w :: ws) eta hp = (match G w eta with | none => .bad | some e1 => (S e1 hp).bind fun f h1 => match f with | .nx e2 => forL G S ws e2 h1 | .ct e2 => forL G S ws e2 h1 | .bk e2 => .ok (.nx e2) h1 | .rt w => .ok (.rt w) h1) := rfl
theorem ev_atl0 {A : Type} {a : A} {l : List A} : atI (a :: l) 0 = some a := by rw [atI_nn Yc (by rw [List.length_cons]; omega)]; rfl
theorem ev_atl1 {A : Type} {a a1 : A} {l : List A} : atI (a :: a1 :: l) 1 = some a1 := by rw [atI_nn Yc (by rw [List.length_cons, List.length_cons]; omega)]; rfl
theorem ev_atl2 {A : Type} {a a1 a2 : A} {l : List A} : atI (a :: a1 :: a2 :: l) 2 = some a2 := by rw [atI_nn Yc Yck]; rfl
theorem ev_atl3 {A : Type} {a a1 a2 a3 : A} {l : List A} : atI (a :: a1 :: a2 :: a3 :: l) 3 = some a3 := by rw [atI_nn Yc Yck]; rfl
theorem ev_ixl0 {a0 : T} : ixW (.t (.lst (a0 :: ts))) (.t (.int 0)) hp = .ok (.t a0) hp := by rw [ixW_l]; simp only [List.map_cons, ev_atl0]
theorem ev_ixt0 {a0 : T} : ixW (.t (.tup (a0 :: ts))) (.t (.int 0)) hp = .ok (.t a0) hp := by rw [ixW_t]; simp only [List.map_cons, ev_atl0]
theorem ev_ixl1 {a0 a1 : T} : ixW (.t (.lst (a0 :: a1 :: ts))) (.t (.int 1)) hp = .ok (.t a1) hp := by rw [ixW_l]; simp only [List.map_cons, ev_atl1]
theorem ev_ixt1 {a0 a1 : T} : ixW (.t (.tup (a0 :: a1 :: ts))) (.t (.int 1)) hp = .ok (.t a1) hp := by rw [ixW_t]; simp only [List.map_cons, ev_atl1]
theorem ev_ixl2 {a0 a1 a2 : T} : ixW (.t (.lst (a0 :: a1 :: a2 :: ts))) (.t (.int 2)) hp = .ok (.t a2) hp := by rw [ixW_l]; simp only [List.map_cons, ev_atl2]
theorem ev_ixt2 {a0 a1 a2 : T} : ixW (.t (.tup (a0 :: a1 :: a2 :: ts))) (.t (.int 2)) hp = .ok (.t a2) hp := by rw [ixW_t]; simp only [List.map_cons, ev_atl2]
theorem ev_ixl3 {a0 a1 a2 a3 : T} : ixW (.t (.lst (a0 :: a1 :: a2 :: a3 :: ts))) (.t (.int 3)) hp = .ok (.t a3) hp := by rw [ixW_l]; simp only [List.map_cons, ev_atl3]
theorem ev_ixt3 {a0 a1 a2 a3 : T} : ixW (.t (.tup (a0 :: a1 :: a2 :: a3 :: ts))) (.t (.int 3)) hp = .ok (.t a3) hp := by rw [ixW_t]; simp only [List.map_cons, ev_atl3]
theorem ev_atl4 {A : Type} {a a1 a2 a3 a4 : A} {l : List A} : atI (a :: a1 :: a2 :: a3 :: a4 :: l) 4 = some a4 := by rw [atI_nn Yc Yck]; rfl
theorem ev_ixl4 {a0 a1 a2 a3 a4 : T} : ixW (.t (.lst (a0 :: a1 :: a2 :: a3 :: a4 :: ts))) (.t (.int 4)) hp = .ok (.t a4) hp := by rw [ixW_l]; simp only [List.map_cons, ev_atl4]
theorem ev_ixt4 {a0 a1 a2 a3 a4 : T} : ixW (.t (.tup (a0 :: a1 :: a2 :: a3 :: a4 :: ts))) (.t (.int 4)) hp = .ok (.t a4) hp := by rw [ixW_t]; simp only [List.map_cons, ev_atl4]
theorem ev_gt : iGt Yal Ybp hp = .ok (.t (.bl (decide (j < i)))) hp := rfl
theorem ev_ge : iGe Yal Ybp hp = .ok (.t (.bl (decide (j ≤ i)))) hp := rfl
theorem ev_le : iLe Yal Ybp hp = .ok (.t (.bl (decide (i ≤ j)))) hp := rfl
theorem ev_sub : iSub Yal Ybp hp = .ok (.t (.int (i - j))) hp := rfl
theorem ev_eqi {neg : Bool} : eqW neg Yal Ybp hp = .ok Ygb hp := by
 rw [eqW_tt, if_pos ⟨rfl, rfl⟩]
 rfl
theorem ev_eqs {neg : Bool} : eqW neg (.t (.str s)) (.t (.str r)) hp = .ok (.t (.bl (if neg then !decide (s = r) else decide (s = r)))) hp := by
 have h : (s == r) = decide (s = r) := by
  by_cases q : s = r
  ·subst q; simp
  ·simp [q]
 rw [eqW_tt, if_pos ⟨by simp, by simp⟩, eqT_ss, h]
theorem ev_eqb {neg : Bool} : eqW neg Ydl (.t (.bl c)) hp = .ok Ygd hp := by
 rw [eqW_tt, if_pos ⟨by simp, by simp⟩, eqT_bb]
 cases neg <;> cases b <;> cases c <;> rfl
theorem ev_wipe0 {eta : IS} : wipeI eta [] = eta := rfl
theorem ev_wipe1 {eta : IS} {k : Nat} {l : List Nat} : wipeI eta (k :: l) = (wipeI eta l).set k none := rfl
theorem ev_comp1 {G : W → IS → Option IS} {U : M Bool} {E : M W} {eta : IS} {ws : List W} : zb8 G U E eta (w :: ws) hp = (noEr (match G w eta with | none => .bad | some e1 => (U e1 hp).bind fun b h1 => if b then (E e1 h1).bind fun y h2 => .ok (some y) h2 else .ok none h1)).bind fun o h1 => (zb8 G U E eta ws h1).bind fun r h2 => .ok (match o with | some y => y :: r | none => r) h2 := rfl
end
end Mir
namespace Mir
open PySem PySem.Spec L2
open PyProof.Rows hiding St
theorem CN.inj {K : PySem.W.Frag} {c : Str} {C D : Addr} (h : CN K c C) (g : CN K c D) : C = D := by
 have e : some (some (Value.ref C)) = some (some (Value.ref D)) := h.symm.trans g
 cases e
 rfl
def insOf (hp : IH) : W → Option (Str × List Yey)
 | .t (.ins c ns vs) => some (c, ns.zip (vs.map W.t))
 | .r i => (match hp[i]? with | some (some (.ins c fs)) => some (c, fs) | _ => none)
 | _ => none
section
variable {K : PySem.W.Frag} {ω : World} {s : S4}
theorem RwF.look (f : Str) : ∀ {fs : List (Str × W)} {vs : List (Str × V)}, RwF K s fs vs → (∀ w, fs.lookup f = some w → ∃ v, vs.lookup f = some v ∧ Rw K s w v) ∧ (fs.lookup f = none → vs.lookup f = none)
 | [], vs, h => by rw [show vs = [] from h]; exact ⟨fun w e => by simp at e, fun _ => rfl⟩
 | (g, w) :: fs, vs, h => by
  obtain ⟨v, r, rfl, a, b⟩ := h
  obtain ⟨i1, i2⟩ := RwF.look f b
  by_cases e : f = g
  ·have hb : (f == g) = true := beq_iff_eq.mpr e
   exact ⟨fun u q => by
    simp only [List.lookup, hb, Option.some.injEq] at q ⊢
    subst q
    exact ⟨v, rfl, a⟩, fun q => by simp [List.lookup, hb] at q⟩
  ·have hb : (f == g) = false := beq_eq_false_iff_ne.mpr e
   exact ⟨fun u q => by
    simp only [List.lookup, hb] at q ⊢
    exact i1 u q, fun q => by
    simp only [List.lookup, hb] at q ⊢
    exact i2 q⟩
theorem RwF.names : ∀ {fs : List (Str × W)} {vs : List (Str × V)}, RwF K s fs vs → vs.map (·.1) = fs.map (·.1)
 | [], vs, h => by rw [show vs = [] from h]; rfl
 | (g, w) :: fs, vs, h => by
  obtain ⟨v, r, rfl, a, b⟩ := h
  rw [List.map_cons, List.map_cons, RwF.names b]
theorem RwF.length {fs : List Yey} {vs : List Yea} (h : RwF K s fs vs) : fs.length = vs.length := by
 have := congrArg List.length h.names
 rw [List.length_map, List.length_map] at this
 exact this.symm
end
/-- f may be read of, stored in an instance of the class c: no class of it has the name -/
structure FldOk (K : PySem.W.Frag) (c f : Str) : Prop where
 ex : ∃ C, CN K c C ∧ Cls K C ∧ NoAttr K C f
theorem FldOk.at_ {K : PySem.W.Frag} {c f : Str} {C : Addr} (h : FldOk K c f) (n : CN K c C) : Cls K C ∧ NoAttr K C f := by
 obtain ⟨D, n', h1, h2⟩ := h.ex
 cases n.inj n'
 exact ⟨h1, h2⟩
def fldW (cs : List Str) (f : Str) (w : W) (hp : IH) : Res W := match insOf hp w with
 | some (c, fs) => if c ∈ cs then (match fs.lookup f with | some x => .ok x hp | none => .bad) else .bad
 | none => .bad
def mFld (cs : List Str) (f : Str) (F : M W) : M W := fun eta hp => (F eta hp).bind fun a h1 => fldW cs f a h1
def putA (f : Str) (w : W) : List Yey → List Yey
 | [] => [(f, w)]
 | (g, x) :: r => if g = f then (g, w) :: r else (g, x) :: putA f w r
def fldSet (cs : List Str) (f : Str) (eta : IS) (o v : W) (hp : IH) : Res Fl := match o with
 | .r i => (match hp[i]? with
  | some (some (.ins c fs)) => if c ∈ cs ∧ fs.length < 1000 then .ok Yc1 (hp.set i (some Yge)) else .bad
  | _ => .bad)
 | _ => .bad
def mFldSet (cs : List Str) (f : Str) (Fo Fv : M W) : M Fl := fun eta hp => (Fv eta hp).bind fun v h1 => (Fo eta h1).bind fun o h2 => fldSet cs f eta o v h2
theorem RwF.put {K : PySem.W.Frag} {s : S4} {f : Str} {w : W} {v : V} (r : Rw K s w v) : ∀ {fs : List (Str × W)} {vs : List (Str × V)}, RwF K s fs vs → RwF K s (putA f w fs) (putF f v vs)
 | [], vs, h => by rw [show vs = [] from h]; exact ⟨v, [], rfl, r, rfl⟩
 | (g, x) :: fs, vs, h => by
  obtain ⟨u, q, rfl, a, b⟩ := h
  unfold putA putF
  by_cases e : g = f
  ·rw [if_pos e, if_pos e]
   exact ⟨v, q, rfl, r, b⟩
  ·rw [if_neg e, if_neg e]
   exact ⟨u, _, rfl, a, RwF.put r b⟩
section
variable {X : Cx} {Wx : WX} {e o val : Expr} {F Fo Fv : M W} {cs : List Str} {f : Str} {pos pos' : Pos}
theorem st_fld (h : ∀ c ∈ cs, FldOk X.K c f) (ho : IE X Wx o Fo) (hv : IE X Wx val Fv) (hs : swapsWith val (some (.Attribute o f pos')) pos.line X.env = pure false := by rfl) : ISt X Wx (.Assign [.Attribute o f pos'] val pos) (mFldSet cs f Fo Fv) :=
 PS.imp (ps_fld ho hv hs) fun D σ H q => by
  obtain ⟨s0, eta, e1, R0, S0, g0⟩ := q
  refine ⟨s0, eta, e1, R0, S0, Go.bind g0 fun v vv s1 A1 R1 f1 _ g1 => ?_⟩
  refine ⟨s1, eta, rfl, R1, S0.aft A1 R0, Go.bind g1 fun w ov s2 A2 R2 f2 eok g2 => ?_⟩
  clear eok
  have f1' := f1.aft A2 R1
  have S2 := (S0.aft A1 R0).aft A2 R1
  unfold fldSet at g2
  split at g2
  ·rename_i i
   split at g2
   ·rename_i c fs hc
    split at g2
    ·rename_i hh
     obtain ⟨a, e1, e2⟩ := f2
     obtain ⟨C, dx, vs, h1, h2, h3⟩ := R2.cell i _ a hc e1
     obtain ⟨c1, c2⟩ := (h c hh.1).at_ h2
     have ok : CellOk X.K X.w s2 a Yge (some (.ins C dx (putF f vv vs))) := ⟨C, dx, _, rfl, h2, h3.put f1'⟩
     refine ⟨a, C, dx, vs, e2, h1, c1, c2, by rw [← h3.length]; exact hh.2, ?_⟩
     have A := aft_setL (c := .ins c (putA f v fs)) (o := .ins C dx (putF f vv vs)) R2 hc e1
     exact g2 (.nx σ) (s2.setL i a Yge (.ins C dx (putF f vv vs))) rfl A (rel_setL R2 hc e1 ok) (S2.aft A R2)
    ·exact g2.elim
   ·exact g2.elim
  ·exact g2.elim
end
def frzAll : List Yey → IH → Res (List T)
 | [], hp => .ok [] hp
 | x :: r, hp => (zcf x.2 hp).bind fun w h1 => match w with
  | .t t => (frzAll r h1).bind fun ts h2 => .ok (t :: ts) h2
  | .r _ => .bad
def freezeI (w : W) (hp : IH) : Res W := match w with
 | .r i => (match hp[i]? with
  | some (some (.ins c fs)) => (frzAll fs hp).bind fun ts h1 => (match h1[i]? with | some (some (.ins _ _)) => .ok (.t (.ins c (fs.map (·.1)) ts)) (h1.set i none) | _ => .bad)
  | _ => .bad)
 | _ => .bad
def mFrzI (F : M W) : M W := fun eta hp => (F eta hp).bind fun w h1 => freezeI w h1
section
variable {K : PySem.W.Frag} {ω : World} {Wx : WX}
theorem frz_one {s : S4} {w : W} {v : V} {x : W} {h1 : IH} (R : Rel K ω s) (r : Rw K s w v) (g : zcf w s.hp = .ok x h1) : ∃ s', s'.H = s.H ∧ s'.hp = h1 ∧ s'.rho = s.rho ∧ Aft s s' ∧ Rel K ω s' ∧ Rw K s' x v := by
 cases w with
 | t t =>
  simp only [zcf, Res.ok.injEq] at g
  obtain ⟨rfl, rfl⟩ := g
  exact ⟨s, rfl, rfl, rfl, Aft.refl s, R, r⟩
 | r i =>
  simp only [zcf] at g
  cases hq : (getL s.hp i).bind allT with
  | none => simp only [hq] at g; cases g
  | some ts =>
   simp only [hq, Res.ok.injEq] at g
   obtain ⟨rfl, rfl⟩ := g
   rw [Option.bind_eq_some_iff] at hq
   obtain ⟨ws, h1, h2⟩ := hq
   obtain ⟨a, vs, e, e1, e2, l, nf⟩ := R.lst h1 r
   subst e
   have A := aft_frz R (zbs h1) e1
   refine ⟨s.frz i a, rfl, rfl, rfl, A, rel_frz R (zbs h1) e1, ?_⟩
   rw [zbt h2] at l
   simp only [Rw, Rf]
   exact ⟨a, vs, rfl, ⟨.inr rfl, e2⟩, RfL.aft A R _ _ Ydx⟩
theorem frz_all : ∀ (fs : List (Str × W)) {s : S4} {vs : List (Str × V)} {ts : List T} {h1 : IH}, Rel K ω s → RwF K s fs vs → frzAll fs s.hp = .ok ts h1 → ∃ s', s'.H = s.H ∧ s'.hp = h1 ∧ s'.rho = s.rho ∧ Aft s s' ∧ Rel K ω s' ∧ RfL K s'.fz s'.H ts (vs.map (·.2)) ∧ ts.length = fs.length
 | [], s, vs, ts, h1, R, l, g => by
  simp only [frzAll, Res.ok.injEq] at g
  obtain ⟨rfl, rfl⟩ := g
  rw [show vs = [] from l]
  exact ⟨s, rfl, rfl, rfl, Aft.refl s, R, by simp [RfL], rfl⟩
 | (n, w) :: fs, s, vs, ts, h1, R, l, g => by
  obtain ⟨v, r, rfl, a, b⟩ := l
  simp only [frzAll] at g
  cases hf : zcf w s.hp with
  | bad => rw [hf] at g; cases g
  | er _ _ _ => rw [hf] at g; cases g
  | ok x h2 =>
   rw [hf] at g
   obtain ⟨s2, e1, e2, e3, A2, R2, r2⟩ := frz_one R a hf
   cases x with
   | r _ => cases g
   | t t =>
    subst e2
    simp only [Res.bind] at g
    cases hg : frzAll fs s2.hp with
    | bad => rw [hg] at g; cases g
    | er _ _ _ => rw [hg] at g; cases g
    | ok us h3 =>
     rw [hg] at g
     simp only [Res.ok.injEq] at g
     obtain ⟨rfl, rfl⟩ := g
     obtain ⟨s3, q1, q2, q3, A3, R3, l3, n3⟩ := frz_all fs R2 (RwF.aft A2 R _ _ b) hg
     refine ⟨s3, q1.trans e1, q2, q3.trans e3, A2.trans A3, R3, ?_, by rw [List.length_cons, List.length_cons, n3]⟩
     rw [List.map_cons]
     simp only [RfL]
     exact ⟨v, _, rfl, Rf.aft A3 R2 _ _ r2, l3⟩
theorem zip_parts {A B : Type} : ∀ l : List (A × B), (l.map (·.1)).zip (l.map (·.2)) = l
 | [] => rfl
 | x :: l => by rw [List.map_cons, List.map_cons, List.zip_cons_cons, zip_parts l]
theorem go_freezeI {s : S4} {w : W} {v : V} {Q : VK} (R : Rel K ω s) (r : Rw K s w v) (g : Go K ω Wx (Rw K) s (freezeI w s.hp) Q) : Q v s.H := by
 unfold freezeI at g
 split at g
 ·rename_i i
  split at g
  ·rename_i c fs hc
   obtain ⟨a, e1, e2⟩ := r
   obtain ⟨C, dx, vs, h1, h2, h3⟩ := R.cell i _ a hc e1
   cases hg : frzAll fs s.hp with
   | bad => rw [hg] at g; exact g.elim
   | er _ _ _ =>
    exfalso
    have : ∀ (fs : List (Str × W)) (hp : IH) e eta h, frzAll fs hp ≠ .er e eta h := by
     intro fs
     induction fs with
     | nil => intro hp e eta h z; cases z
     | cons x fs ih =>
      intro hp e eta h z
      simp only [frzAll] at z
      cases hf : zcf x.2 hp with
      | bad => rw [hf] at z; cases z
      | er _ _ _ =>
       cases hx : x.2 with
       | t t => rw [hx] at hf; cases hf
       | r j =>
        rw [hx] at hf
        simp only [zcf] at hf
        split at hf <;> cases hf
      | ok y h2 =>
       rw [hf] at z
       cases y with
       | r _ => cases z
       | t t =>
        simp only [Res.bind] at z
        cases hg : frzAll fs h2 with
        | bad => rw [hg] at z; cases z
        | ok _ _ => rw [hg] at z; cases z
        | er _ _ _ => exact ih _ _ _ _ hg
    exact this _ _ _ _ _ hg
   | ok ts h5 =>
    rw [hg] at g
    obtain ⟨s2, q1, q2, q3, A2, R2, l2, n2⟩ := frz_all fs R h3 hg
    subst q2
    simp only [Res.bind] at g
    split at g
    ·rename_i c' fs' hc'
     have ha : s2.rho[i]? = some a := by rw [q3]; exact e1
     have A3 := aft_frz R2 hc' ha
     have R3 := rel_frz R2 hc' ha
     have fin := g v (s2.frz i a) rfl (A2.trans A3) R3 (by
      simp only [Rw, Rf]
      refine ⟨a, C, vs.map (·.2), e2, h2, ⟨.inr rfl, dx, ?_⟩, by rw [List.length_map, n2], RfL.aft A3 R2 _ _ l2⟩
      rw [← h3.names, zip_parts]
      show s2.H a = _
      rw [q1]
      exact h1)
     have eH : (s2.frz i a).H = s.H := q1
     rw [eH] at fin
     exact fin
    ·exact g.elim
  ·exact g.elim
 ·exact g.elim
theorem ie_frzI {X : Cx} {e : Expr} {F : M W} (he : IE X Wx e F) : IE X Wx e (mFrzI F) := PE.imp he fun σ H Q h => by
 obtain ⟨s, eta, e1, R1, S1, g⟩ := h
 exact ⟨s, eta, e1, R1, S1, Go.bind g fun a b s' A' R' f' _ g' => go_freezeI R' f' g'⟩
end
end Mir
namespace Mir
open PySem PySem.Spec L2
open PyProof.Rows hiding St
section
variable {prog : Program} {w : World} {A : Around} {E : Value → Shared → Prop} {h : Heap} {g : Array GenState} {d : Drawn} {t : Nat} {os : OsState}
variable {nm q : Str} {C N : Addr} {bs bm : List Value} {hdct : Bool} {sn : List Str} {sub : List Value} {ab : Bool} {col : Option Bool} {dd : Option Addr} {k0 k1 k2 k3 k5 : Option Value}
/-- the built-in __init__ bound to the exception, called -/
theorem call_mw {B newId i : String} {bmB : List Value} (FB : PySem.ExcBaseFacts B newId i bmB) {u e t0 : Addr} {rest : List Value} {Q : Value → Shared → Prop}
  (hC : h.get? C = some (excClassObj nm q C N bs bm hdct sn sub ab col dd k0 k1 k2 k3 k5 newId)) (he : h.get? e = some (PySem.HandSPX.excO C t0)) (hu : h.get? u = some (PySem.W.kxs_mw i e)) (hrest : rest.length ≤ sizeLine)
  (hq : ∀ h' t1, (∀ b o, b ≠ e → h.get? b = some o → h'.get? b = some o) → h'.get? e = some (PySem.HandSPX.excO C t1) → Q .none ⟨h', g, d, t, os⟩) :
  wpAny (model prog w) A (call (.ref u) rest) Q E ⟨h, g, d, t, os⟩ := by
 refine wpAny_call (codeAny_of_tree ?_)
 show wpAny _ A.in1 (callAny (.ref u) ⟨rest, []⟩) _ _ _
 simp only [callAny]
 refine wpAny_bind (wpAny_load hu ?_)
 simp only [PySem.W.kxs_mw, show (Value.type "method-wrapper" == Value.type "method" || Value.type "method-wrapper" == Value.type "builtin_function_or_method" || Value.type "method-wrapper" == Value.type "method-wrapper") = true by decide, if_true]
 refine PySem.W.KFB.if_so Ybd ?_
 refine wpAny_bind (PySem.W.check_bound_init FB.toExcCallFacts hC he rfl ?_)
 refine wpAny_bind (wpAny_pure (wpAny_pure ?_))
 refine ⟨plainId_quiet FB.init.plain _, codeAny_builtin FB.initEntry ?_⟩
 rw [Around.under_plainId FB.init.plain _]
 wp_walk
 refine hq _ h.objs.size (fun b o hb ho => ?_) ?_
 ·rw [Heap.get?_update_other _ _ (Ne.symm hb)]
  exact Heap.get?_push_of_some _ ho
 ·rw [Heap.get?_update_self _ (Heap.get?_push_of_some _ he) rfl]
  rfl
end
theorem ldL' {M : Model} {A : Around} {E : Value → Shared → Prop} {s : Shared} {env : Env} {m : Str → Option Value} {x : Str} {pos : Pos} {v : Value} {Q : Value → Shared → Prop} (hn : s.heap.Ns env.locals m) (hv : m x = some v) (h : Q v s)
  (hk : env.scope.kind = .function) (hl : env.kindOf x = some .local) (hd : (x == ("__debug__" : Str)) = false) : wpAny M A (eval Yfr env) Q E s := wpAny_Name (wpAny_loadName_local hk hl hn hv h) hd
/-- what the written part says of such a class -/
structure XIni (P : Program) (K : PySem.W.Frag) (C fI : Addr) (qual fld : Str) (params : Arguments) (body : List Stmt) (scope : Scope) (fd : FuncData) : Prop where
 T : OexC K C
 ex : ∃ (oc : Value) (od : Option Addr) (kV doc pm : Value) (an : Option Addr) (cda : Addr) (ct : Value) (cc : Addr) (osl : Array Yc8) (ccl : Value) (cdd : Option Addr) (vs : Array Value) (ccs : Array Yc8) (file : Str) (tf : Tok) (cl : Value) (cld : Option Addr) (csl : Array Yc8),
  fd = PySem.W.ksFn "__init__" qual params body scope .none kV doc pm an Yec ct cc ∧ K.lookup fI = some ⟨oc, od, .func fd, osl⟩ ∧ PySem.W.codeIn K Yec qual = true ∧
  K.lookup cda = some ⟨ccl, cdd, .fields vs, ccs⟩ ∧ vs[2]? = some (.str file tf) ∧ ((P.main.file : Str) == file) = true ∧ K.lookup cc = some ⟨cl, cld, .cell (some (.ref C)), csl⟩
 iC : PySem.W.findIn K (.ref C) "__init__" = some (some (.ref fI))
 tI : PySem.W.typeIn K (.ref fI) = some Yfw
 sup : PySem.W.ks_superIn K C C "__init__" = some Yeo
 sub : PySem.W.subIn K (.ref C) (.type "ValueError") = some true
 mro : PySem.W.mroIn K C (.ref C) = some true
 gs : PySem.W.nsIn K mainGlobals "super" = some none
 ta : PySem.W.nsIn K PySem.cStatics "thirdparty.any" = some none
 fl : PySem.W.findIn K (.ref C) fld = some none
 top : (P.main.scope.names.lookup ("super" : Str)).isSome = false
/-- .. and its scope -/
structure XSc (par : Str) (ar : Arg) (params : Arguments) (scope : Scope) : Prop where
 hp : (params.posonlyargs ++ params.args).head? = some ar
 ha : ar.arg = ("self" : Str)
 ks : scope.names.lookup ("super" : Str) = some .globalImplicit
 kc : scope.names.lookup ("__class__" : Str) = some .free
 kself : scope.names.lookup Yed = some .local
 kpar : scope.names.lookup par = some .local
 kind : scope.kind = .function
 co : scope.isCoroutine = false
 gen : scope.isGenerator = false
 cell : ∀ x ∈ scope.names, x.2 ≠ .cell
 ne : par ≠ ("self" : Str)
 db : (par == ("__debug__" : Str)) = false
section
variable {P : Program} {w : World} {K : PySem.W.Frag} {mg mb : Str → Option Value} {A : Around} {R : Result → Shared → Prop} {hp : Heap} {g : Array GenState} {d : Drawn} {t : Nat} {os : OsState}
theorem xini_code {C fI e t0 : Addr} {qual fld par txt : Str} {params : Arguments} {scope : Scope} {fd : FuncData} {ar : Arg} {args : Args} {u : Value} {p0 p1 p2 p3 p4 p5 p6 p7 p8 p9 : Pos} {j : Nat}
  (X : XIni P K C fI qual fld params [.Expr Yb p5, .Assign [.Attribute (.Name "self" p6) fld p7] (.Name par p8) p9] scope fd) (S : XSc par ar params scope)
  (KX : K.In hp) (Gg : hp.Ns mainGlobals mg) (Gb : hp.Ns builtinsNs mb) (Gbb : ∀ x : Str, x ≠ "__name__" → mb x = bootBuiltins x) (nl : hp.NoLimit) (hroom : A.depth < recursionLimit)
  (Ke : K.lookup e = none) (he : hp.get? e = some (PySem.HandSPX.excO C t0)) (hbind : BindsTo ⟨hp, g, d, t, os⟩ fd args [("self", .ref e), (par, u)])
  (hq : ∀ h' tk' dx t1, (∀ b o, b ≠ e → hp.get? b = some o → h'.get? b = some o) → hp.objs.size ≤ dx → dx ≠ e → h'.get? e = some ({ cls := .ref C, dict := some dx, data := .fields #[.ref t1, .none, .none, .none, .bool false, .none] } : Obj) →
   h'.Ns1 dx (fun y => if y = fld then some u else none) → R (.ok (.ret .none)) ⟨h', g, d, tk', os⟩)
  (hev : ∀ env : Env, eval Yb env = (do
   let ov ← attributeBase Ybh "__init__" env (eval Ybh env)
   standAt p2.atName
   let (f, first) ← holding [ov] Yu
   callWith p4 f first (backTo p4 Ycf) [])) :
  codeAny Ybt A (.call (.ref fI) args) R ⟨hp, g, d, t, os⟩ := by
 obtain ⟨oc, od, kV, doc, pm, an, cda, ct, cc, osl, ccl, cdd, vs, ccs, file, tf, cl, cld, csl, rfl, lk, hcd, hcode, hvs, hfile, hcell⟩ := X.ex
 obtain ⟨nm, q, N, bs, bm, sn, sub, ab, col, dd, k0, k1, k2, k3, k5, hC, hbm⟩ := X.T.cls
 have hcl : PySem.W.clsIn K C = some { name := nm, bases := bs, mro := .ref C :: bm, ns := N, qualname := q, hasDict := true, slotNames := sn, subclasses := sub, abstract := ab, collection := col, hasDel := false } := by unfold PySem.W.clsIn; rw [hC] <;> rfl
 have kn : PySem.HandSPX.excO C t0 = PySem.HandSPX.excO C t0 := rfl
 refine PySem.ks_codeAny_call_defAt (binds := [("self", .ref e), (par, u)]) hroom (KX _ _ lk) rfl nl (PySem.W.codeRec_of KX hcd) rfl hbind S.cell ?_ (fun h₁ hns k1' => ?_) S.co S.gen S.kind
 ·intro x hx
  simp only [List.mem_cons, List.not_mem_nil, or_false] at hx
  rcases hx with rfl | rfl
  ·exact S.kself
  ·exact S.kpar
 have X1 : K.In h₁ := KX.keeps k1'
 have he1 := k1' _ _ he
 have hb1 : ([Ycz, (par, u)] : List (Str × Value)).reverse.lookup Yed = some (Value.ref e) := by
  have : ((("self" : Str) == par)) = false := beq_eq_false_iff_ne.mpr (Ne.symm S.ne)
  show List.lookup Yed [(par, u), Ycz] = _
  rw [List.lookup_cons, this]
  show List.lookup Yed [Ycz] = _
  rw [List.lookup_cons, beq_self_eq_true]
 have hb2 : ([Ycz, (par, u)] : List (Str × Value)).reverse.lookup par = some u := by
  show List.lookup par [(par, u), Ycz] = _
  rw [List.lookup_cons, beq_self_eq_true]
 have hCg := X1 _ _ hC
 have heC : e ≠ C := by
  intro z
  rw [z, hCg] at he1
  cases he1
 have hal : PySem.W.alongIn K "__init__" bm = some Yeo := by
  have q := X.sup
  unfold PySem.W.ks_superIn at q
  rw [hcl] at q
  have z : (((Value.ref C) :: bm).dropWhile (· != .ref C)).drop 1 = bm := by simp [List.dropWhile_cons]
  rw [← z]
  exact q
 have hi : interactive (PySem.W.ksEnv qual scope hp.objs.size fI Yec cc) = false := by simp [interactive, S.kind]
 have FB := PySem.F.excBase_ValueError
 refine PySem.ks_wpAt_execs_cons (PySem.ks_wpAt_Expr_any (env := PySem.W.ksEnv qual scope hp.objs.size fI Yec cc) (PySem.ks_wpAt_MethodCall ?_ (hev _)) hi)
 refine PySem.ks_wpAt_super_base (env := PySem.W.ksEnv qual scope hp.objs.size fI Yec cc) S.ks S.kc Ybd rfl (X1 _ _ lk) rfl S.hp rfl (X1 _ _ hcode) rfl hvs hfile X.top ?_
 refine PySem.W.ks_loadName_global (env := PySem.W.ksEnv qual scope hp.objs.size fI Yec cc) S.kind S.ks (PySem.Calls.loadGlobal_builtin (env := PySem.W.ksEnv qual scope hp.objs.size fI Yec cc) (Gg.keeps k1') (PySem.W.mg_none_of KX Gg X.gs) (Gb.keeps k1') ((Gbb _ Yv).trans Yv) ⟨rfl, ?_⟩)
 refine wpAny_loadName_free (env := PySem.W.ksEnv qual scope hp.objs.size fI Yec cc) S.kind S.kc rfl ⟨_, X1 _ _ hcell, rfl⟩ ?_
 rw [S.ha]
 refine wpAny_loadName_local (env := PySem.W.ksEnv qual scope hp.objs.size fI Yec cc) S.kind S.kself hns hb1 ?_
 refine PySem.ks_wpAny_isType_cls hCg rfl ⟨rfl, ?_⟩
 refine PySem.ks_wpAny_call_super hCg rfl he1 rfl (fun c z => by cases z) (PySem.W.looks_mroIn X1 X.mro) (fun h2 e2 k2 => ?_)
 have X2 := X1.keeps k2
 have he2 := k2 _ _ he1
 refine PySem.W.kxs_getMethod PySem.W.kxs_ValueError e2 (PySem.W.looks_opaque X2 X.ta) (l₀ := .ref C :: bm) ((PySem.W.looks_clsIn X2 hcl).andThen .now) (l := bm) (by simp [List.dropWhile_cons]) X2 hal ?_ heC Ybd ?_
 ·exact (⟨he2, rfl, rfl, trivial⟩ : PySem.W.InstAt h2 e (PySem.HandSPX.excO C t0) C none).type.andThen (PySem.W.looks_subIn X2 X.sub)
 have k3 : ∀ b o, h2.get? b = some o → (h2.push Yek).get? b = some o := fun b o q => Heap.get?_push_of_some _ q
 have hu : (h2.push Yek).get? h2.objs.size = some Yek := Heap.get?_push_at rfl rfl
 have X3 := X2.keeps k3
 have he3 := k3 _ _ he2
 refine PySem.W.kxs_callWith (i := "ValueError.__init__") (x := e) rfl (Calls.evalArgs_plain (x := eval (.Constant (.str txt) j p3) (PySem.W.ksEnv qual scope hp.objs.size fI Yec cc)) (rest := []) (Calls.spliced_cons (Calls.Constant_str (Calls.spliced_nil ⟨hu, ?_⟩))))
 refine call_mw (rest := [_]) FB (X3 _ _ hC) he3 hu (by rw [sizeLine_eq]; simp) fun h4 t1 k4 he4 => ?_
 -- self.fld = par
 have k14 : ∀ b o, b ≠ e → h₁.get? b = some o → h4.get? b = some o := fun b o hb q => k4 b o hb (k3 _ _ (k2 _ _ q))
 have X4 : K.In h4 := fun b o q => k4 b o (fun z => by rw [z, Ke] at q; cases q) (X3 b o q)
 have hL : e ≠ hp.objs.size := Nat.ne_of_lt (Heap.lt_size he)
 have hns4 : h4.Ns hp.objs.size _ := hns.at fun o q => k14 _ o (Ne.symm hL) q
 refine PySem.ks_wpAt_execs_cons (PySem.ks_wpAt_Assign_Attr (wpAt_of_wpAny (ldL' (env := PySem.W.ksEnv qual scope hp.objs.size fI Yec cc) hns4 hb2 (ldL' (env := PySem.W.ksEnv qual scope hp.objs.size fI Yec cc) hns4 hb1 ?_ S.kind S.kself Ybd) S.kind S.kpar S.db)))
 refine PySem.W.set_plain X4 (ox := { cls := .ref C, dict := none, data := .fields #[.ref t1, .none, .none, .none, .bool false, .none] }) (od := none) ⟨he4, rfl, rfl, trivial⟩ X.T.sa ?_
 refine PySem.HandSPX.exc_osa X4 he4 hcl (show PySem.HandSPX.refsVE (.ref C :: bm) = true from hbm) rfl X.fl (fun h5 tk5 dx k5' dn dne hx hn => ?_)
 refine wpAt_of_wpAny (wpAny_execs_nil ?_)
 refine hq h5 tk5 dx t1 (fun b o hb q => k5' b o hb (k14 b o hb (k1' b o q))) ?_ dne hx hn
 have : hp.objs.size ≤ h4.objs.size := by
  obtain ⟨oL, es, ep, hL2, _⟩ := hns4
  exact Nat.le_of_lt (Heap.lt_size hL2)
 exact Nat.le_trans this dn
end
/-- the promise of such an __init__ -/
def spI (C : Addr) (fld : Str) : Sp := fun vs H Q _ => ∃ (e : Addr) (y : V), vs = [.ref e, y] ∧ H e = some (exo e C none) ∧ ∀ dx, H dx = none → dx ≠ e → Q .non (upd (upd H dx (exd dx [(fld, y)])) e (exo e C (some dx)))
section
variable {P : Program} {w : World} {K : PySem.W.Frag} {mg : Str → Option Value} {base : Heap} {CX : CXT} {C fI : Addr} {qual fld par txt : Str} {params : Arguments} {scope : Scope} {fd : FuncData} {ar : Arg} {p0 p1 p2 p3 p4 p5 p6 p7 p8 p9 : Pos} {j : Nat}
theorem xini_run (X : XIni P K C fI qual fld params [.Expr Yb p5, .Assign [.Attribute (.Name "self" p6) fld p7] (.Name par p8) p9] scope fd) (S : XSc par ar params scope)
  (hev : ∀ env : Env, eval Yb env = (do
   let ov ← attributeBase Ybh "__init__" env (eval Ybh env)
   standAt p2.atName
   let (f, first) ← holding [ov] Yu
   callWith p4 f first (backTo p4 Ycf) []))
  {A : Around} {outer : List Env} {s : Shared} {H : Hp} {args : Args} {us : List Value} {vs : List V} {Q : VK} {E : XK} (hroom : A.depth < recursionLimit) (e0 : Env0 P w K mg base A outer s H) (hb : BindsTo s fd args (([Yed, par] : List Str).zip us)) (r : Vals vs us) (h : spI C fld vs H Q E) :
  codeAny Ybt A (.call (.ref fI) args) (CR CX outer P w H s Q E) s := by
 obtain ⟨e, y, rfl, he, q⟩ := h
 cases r with
 | @cons _ u0 _ ur ra rb =>
  cases rb with
  | @cons _ u _ ur2 ry rc =>
   cases rc
   obtain rfl : u0 = Value.ref e := ra
   obtain ⟨t0, ho⟩ := exo_at e0.hok he
   have keep : ∀ b o, base.get? b = some o → s.heap.get? b = some o := fun b o z => (e0.bs b o z).1
   have Ke : K.lookup e = none := by
    cases z : K.lookup e with
    | none => rfl
    | some o =>
     have z1 := (e0.bs e o (e0.mod.kin _ _ z)).2
     rw [he] at z1
     cases z1
   obtain ⟨mb, Gb, Gbb⟩ := e0.mod.blt
   have ok := e0.hok
   have bare := e0.bare
   have KX := e0.mod.kin.keeps keep
   have Gg : s.heap.Ns mainGlobals mg := e0.mod.glob.at fun o z => keep _ _ z
   have Gb' : s.heap.Ns builtinsNs mb := Gb.at fun o z => keep _ _ z
   have nl : s.heap.NoLimit := e0.mod.nolimit.keeps keep
   clear e0
   obtain ⟨hp, g, d, t, os⟩ := s
   refine xini_code X S KX Gg Gb' Gbb nl hroom Ke ho hb (fun h' tk' dx t1 k dn dne hx hn => ?_) hev
   have hnd : H dx = none := ok.fresh dn
   have nd : ∀ {b : Addr} {o : Obj}, hp.get? b = some o → b ≠ dx := fun {b o} q => Nat.ne_of_lt (Nat.lt_of_lt_of_le (Heap.lt_size q) dn)
   have na : ∀ {b : Addr}, H b = none → b ≠ e := fun {b} n z => by
    rw [z, he] at n
    cases n
   refine ⟨.non, upd (upd H dx (exd dx [(fld, y)])) e (exo e C (some dx)), rfl, bare, ?_, ?_, rfl, q dx hnd dne⟩
   ·exact {
     keep := fun b o q n _ _ => k b o (na n) q
     slot := fun b o q n _ _ => ⟨o.slots, k b o (na n) q⟩
     free := fun b o q n _ => by rw [upd_ne (na n), upd_ne (nd q)]; exact n
     there := fun b o q _ => by
      by_cases hb : b = e
      ·exact ⟨_, by rw [hb]; exact hx⟩
      ·exact ⟨o, k b o hb q⟩
     tups := fun b xs q => by rw [upd_ne (at_ne he q exo_tup), upd_ne (ne_of_none q hnd)]; exact q
     frzs := fun b o v q => by rw [upd_ne (at_ne he q exo_frz), upd_ne (ne_of_none q hnd)]; exact q
     tbls := fun b ps q => ⟨#[], by rw [upd_ne (at_ne he q exo_tbl), upd_ne (ne_of_none q hnd), q]; simp⟩ }
   ·intro b o q
    by_cases hb : b = e
    ·subst hb
     rw [upd_same] at q
     cases q
     exact exo_ok hx
    ·rw [upd_ne hb] at q
     by_cases hd : b = dx
     ·subst hd
      rw [upd_same] at q
      cases q
      exact exd_ok hn (relO_put (fs := []) ry fun g => True.intro)
     ·rw [upd_ne hd] at q
      exact (ok b o q).stay (fun c v hc z => k c v (by
        rcases hc with hc | hc
        ·rw [hc]
         exact hb
        ·exact at_ne he hc exo_own) z)
       (fun c hc => by rw [upd_ne (at_ne he hc exo_own), upd_ne (ne_of_none hc hnd)]; exact hc) (fun c xs hc => by rw [upd_ne (at_ne he hc exo_tup), upd_ne (ne_of_none hc hnd)]; exact hc)
theorem spI_len {vs : List V} {H : Hp} {Q : VK} {E : XK} (h : spI C fld vs H Q E) : vs.length = ([Yed, par] : List Str).length := by
 obtain ⟨e, y, rfl, _⟩ := h
 rfl
theorem xini_ok (X : XIni P K C fI qual fld params [.Expr Yb p5, .Assign [.Attribute (.Name "self" p6) fld p7] (.Name par p8) p9] scope fd) (S : XSc par ar params scope)
  (hev : ∀ env : Env, eval Yb env = (do
   let ov ← attributeBase Ybh "__init__" env (eval Ybh env)
   standAt p2.atName
   let (f, first) ← holding [ov] Yu
   callWith p4 f first (backTo p4 Ycf) [])) : FnOk P w K mg base CX 1 fI fd [Yed, par] (spI C fld) :=
 ⟨fun vs H Q E h => spI_len h, fun A outer s H args us vs Q E hr e0 hb r h => xini_run X S hev hr.depth e0 hb r h⟩
theorem xini_hot (X : XIni P K C fI qual fld params [.Expr Yb p5, .Assign [.Attribute (.Name "self" p6) fld p7] (.Name par p8) p9] scope fd) (S : XSc par ar params scope)
  (hev : ∀ env : Env, eval Yb env = (do
   let ov ← attributeBase Ybh "__init__" env (eval Ybh env)
   standAt p2.atName
   let (f, first) ← holding [ov] Yu
   callWith p4 f first (backTo p4 Ycf) [])) : L2H.FnH P w K mg base CX 1 fI fd [Yed, par] (spI C fld) :=
 ⟨fun vs H Q E h => spI_len h, fun A outer s H args us vs Q E p hr _ _ e0 hb r h => xini_run X S hev hr.depth e0 hb r h⟩
end
end Mir
namespace Mir
open PySem PySem.Spec L2
open PyProof.Rows hiding St
section
variable {X : Cx} {CX : CXT} {k : Nat} {f C g p1 : Addr} {fd : FuncData} {ps : List Str} {sp : Sp} {dvs : List V} {ds : List Value} {E : L2.St → XK} {x m fl : Str} {p pos apos : Pos} {e o : Expr} {es : List Expr} {ta : TE} {t : TA} {pl : Sem Bool} {mc : Value}
theorem run_makeX {pins : List Ydk} {σ : L2.St} {H : Hp} {s : Shared} {Q : VK} {us : List Value} {vs : List V} (M : Mk X.K C f) (F : FnG X.prog X.w X.K X.mg X.base CX k f fd ps sp) (hr : Room (k + 1) X.A) (hgd : X.A.guards = some []) (hb : Binds X.K fd ps ds) (hd : Vals dvs ds) (hx : PassesAt CX X σ (E σ)) (I : Inv X pins σ H s) (r : Vals vs us)
  (h : ∀ x dx, H x = none → H dx = none → dx ≠ x → sp Yfx (upd (upd H dx (.own x)) x Yfa) Ycl (E σ)) : wpAny Yaf X.A (call (.ref C) us) (EP X pins σ Q) X.xe s := by
 have q0 := h Ybb s.heap.objs.size (I.hok.fresh (Nat.le_succ _)) (I.hok.fresh Yem) (Nat.ne_of_lt Ye7)
 have J := Inv.made (C := C) I
 have r2 : Vals (V.ref Ybb :: (vs ++ dvs)) (Value.ref Ybb :: (us ++ ds)) := .cons rfl (r.append hd)
 have el : (Value.ref Ybb :: us ++ ds).length = ps.length := (show _ = _ from r2.length.symm).trans (F.len _ _ _ _ q0)
 have cod := F.run (X.A.under (.builtin "type.__call__" ⟨.ref C :: us, []⟩)) X.stack _ _ ⟨Value.ref Ybb :: us, []⟩ (Value.ref Ybb :: (us ++ ds)) _ _ (E σ) (hr.make C us []) hgd (J.env0.make C us []) (hb _ (Value.ref Ybb :: us) J.kIn el) r2 q0
 refine wpAny_call (make_map (f := f) I.kIn M.makes M.init (beq_iff_eq.mp M.fn) (codeAny_mono cod ?_))
 rintro (er | fl) s' q
 ·exact hx pins _ _ er s' J q
 ·cases fl with
  | ret u =>
   obtain ⟨v, H', J2, rv, ev, q3⟩ := J.after q
   subst ev
   exact ⟨rv, V.ref Ybb, H', J2, rfl, q3⟩
  | next => exact (show False from q).elim
  | brk => exact (show False from q).elim
  | cont => exact (show False from q).elim
def tMakeX (C : Addr) (sp : Sp) (dvs : List V) (E : L2.St → XK) (t : TA) : TE := fun σ H Q => t σ H fun vs H1 => ∀ x dx, H1 x = none → H1 dx = none → dx ≠ x → sp Yfx (upd (upd H1 dx (.own x)) x Yfa) Ycl (E σ)
theorem pe_makeX (M : Mk X.K C f) (F : FnG X.prog X.w X.K X.mg X.base CX k f fd ps sp) (hr : Room (k + 1) X.A) (hgd : X.A.guards = some []) (hg : Gl X x) (hm : X.mg x = some (.ref C)) (hb : Binds X.K fd ps ds) (hd : Vals dvs ds) (hx : ∀ σ, PassesAt CX X σ (E σ)) (ha : PA X Yb3 t)
  (hdb : (x == ("__debug__" : Str)) = false := by decide) (he : starEach Yb3 X.env = (false, eval e X.env) :: starEach es X.env := by rfl) (hpl : (backTo pos Yb0).any (·.1) = false := by rfl) : PE X Yab (tMakeX C sp dvs E t) :=
 ⟨fun pins s σ H Q I h => wpAny_Call_Name_kw (ld_glob I hg hm (PySem.W.callWith_K (h₀ := X.base) I.ok.mod.kin M.kp (thn (ha.run pos pins s σ H _ I h) fun us s1 ⟨vs, H1, I1, r, q⟩ => ⟨I1.kIn, run_makeX M F hr hgd hb hd (hx σ) I1 r q⟩) he hpl) hdb)⟩
end
def reEr {A : Type} (eta : IS) (r : Res A) : Res A := match r with
 | .er e _ h => .er e eta h
 | r => r
def spX (K : PySem.W.Frag) (ω : World) (f : OpN) (n : Nat) : Sp := fun vs H Q E => ∃ (s : S4) (ws : List W), s.H = H ∧ Rel K ω s ∧ RwL K s ws vs ∧ ws.length = n ∧ Go K ω (fun cls d _ H' => E cls d H') (Rw K) s (f ws s.hp) Q
/-- a def's function: exceptions go on; its cells stay -/
def fnX (n nn : Nat) (B : M Fl) : OpN := fun ws hp => if ws.length = n then (match B Yds hp with
  | .ok (.rt w) h => .ok w h
  | .ok (.nx _) h => .ok Yar h
  | .er e _ h => .er e [] h
  | _ => .bad) else .bad
theorem fnX_len {n nn : Nat} {B : M Fl} : ∀ ws hp, ws.length ≠ n → fnX n nn B ws hp = .bad := fun ws hp h => by unfold fnX; rw [if_neg h]
section
variable {K : PySem.W.Frag} {ω : World}
theorem spX_len {f : OpN} {n : Nat} {vs : List V} {H : Hp} {Q : VK} {E : XK} (h : spX K ω f n vs H Q E) : vs.length = n := by
 obtain ⟨s, ws, _, _, l, e, _⟩ := h
 rw [← RwL.length l, e]
variable {P : Program} {w : World} {mg : Str → Option Value} {base : Heap} {CX : CXT}
theorem okX {x qual : Str} {st : Stmt} {f : Addr} {fd : FuncData} {N ps : List Str} {k : Nat} {B : M Fl} {dfs : List V} {kws : List Yea} (F : FunD K x qual (defArgs st) Yfo Ya7 dfs kws f fd) (S : FnScope N ps Ya7)
  (hb : ∀ (cdv : Value) (A : Around) (outer : List Env) (s : Shared) (H : Hp) (E : XK), Room k Yaz → A.guards = some [] → ISs Yc2 (fun cls d _ H' => E cls d H') Yfo B) :
  FnG P w K mg base CX (k + 1) f fd ps (spX K w (fnX ps.length N.length B) ps.length) := by
 refine Fun.okG F S (fun vs H Q E h => spX_len h) fun cdv A outer s H vs Q E hr hgd h => ⟨_, hb cdv A outer s H E hr hgd, ?_⟩
 obtain ⟨s0, ws, e1, R1, l, el, g⟩ := h
 refine ⟨s0, _, e1, R1, sl_start l, ?_⟩
 unfold fnX at g
 rw [if_pos el] at g
 rw [el]
 cases hB : B (ws.map some ++ List.replicate (N.length - ps.length) none) s0.hp with
 | ok fl hp =>
  rw [hB] at g
  cases fl with
  | rt wr => exact fun b s' h1 h2 h3 h4 => by cases b <;> first | exact h4.elim | exact g _ s' h1 h2 h3 h4
  | nx e => exact fun b s' h1 h2 h3 h4 => by cases b <;> first | exact h4.elim | exact g .non s' h1 h2 h3 (by simp [Rw, Rf])
  | bk e => exact g.elim
  | ct e => exact g.elim
 | er e eta hp =>
  rw [hB] at g
  exact fun s' σ' cls d h1 h2 h3 h4 h5 => g s' [] cls d h1 h2 h3 ⟨rfl, fun i w z => by simp at z⟩ h5
 | bad => rw [hB] at g; exact g.elim
end
def mMakeX (c : Str) (f : OpN) (ds : List T) (Fs : M (List W)) : M W := fun eta hp => (Fs eta hp).bind fun ws h1 => (reEr eta (f Yfb (h1 ++ [some (.ins c [])]))).bind fun w h2 => match w with
 | .t .non => .ok (.r h1.length) h2
 | _ => .bad
section
variable {X : Cx} {Wx : WX} {CX : CXT} {k : Nat} {f C g p1 : Addr} {fd : FuncData} {ps : List Str} {m : OpN} {n : Nat} {c x mn fl : Str} {p pos apos : Pos} {e o : Expr} {es : List Expr} {Fo : M W} {Fs : M (List W)} {dvs : List V} {ds : List Value} {dts : List T} {pl : Sem Bool} {mc : Value}
theorem go_madeX {s : S4} {eta : IS} {σ : L2.St} {x dx : Addr} {ws : List W} {vs : List V} {Q : VK} (R : Rel X.K X.w s) (S : Sl X.K s eta σ) (cn : CN X.K c C) (f1 : RwL X.K s ws vs) (hdt : ∀ s, RwL X.K s (dts.map W.t) dvs) (hl : ∀ ws hp, ws.length ≠ n → m ws hp = .bad) (nx : s.H x = none) (ndx : s.H dx = none) (ne : dx ≠ x)
  (g : Go X.K X.w Wx (Rw X.K) s ((reEr eta Ye3).bind fun w h2 => match w with | .t .non => .ok (.r s.hp.length) h2 | _ => .bad) Q) :
  spX X.K X.w m n Yfx (upd (upd s.H dx (.own x)) x Yfa) Ycl (WE Wx σ) := by
 have A0 := (Aft.refl s).setD (D := dx) (o' := .own x) ndx
 have R0 : Rel X.K X.w (s.setD dx (.own x)) := rel_setD R (R.fresh ndx).1 (R.fresh ndx).2
 have nx0 : (s.setD dx (.own x)).H x = none := by show upd s.H dx (.own x) x = none; rw [upd_ne (Ne.symm ne)]; exact nx
 have ok0 : CellOk X.K X.w (s.setD dx (.own x)) x (.ins c []) (some Yfa) := ⟨C, dx, [], rfl, cn, rfl⟩
 have A1 := aft_addL (c := .ins c []) (o := .ins C dx []) R0 nx0
 have R1 := rel_addL R0 nx0 ok0
 have A := A0.trans A1
 refine ⟨(s.setD dx (.own x)).addL x (.ins c []) Yfa, .r s.hp.length :: (ws ++ dts.map W.t), rfl, R1, ?_, ?_, ?_⟩
 ·exact ⟨.ref x, _, rfl, addL_r (s := s.setD dx (.own x)) R0, RwL.append (RwL.aft A R _ _ f1) (hdt _)⟩
 ·by_cases q : (W.r s.hp.length :: (ws ++ dts.map W.t)).length = n
  ·exact q
  ·rw [hl _ _ q] at g; exact g.elim
 ·have g' := Go.aft g A
  show Go X.K X.w (fun cls d _ H' => Wx cls d σ H') (Rw X.K) _ Ye3 _
  cases hq : m (.r s.hp.length :: (ws ++ dts.map W.t)) (s.hp ++ [some (.ins c [])]) with
  | er e1 eta1 h1 =>
   rw [hq] at g'
   exact fun s' σ' cls d q1 q2 q3 q4 q5 => g' s' σ cls d q1 q2 q3 (S.aft (A.trans q2) R) q5
  | bad => rw [hq] at g'; exact g'.elim
  | ok a h =>
   rw [hq] at g'
   intro b s' e1 e2 e3 e4
   simp only [Mir.reEr, Res.bind] at g'
   split at g'
   ·have hb : b = .non := by simpa only [Rw, Rf] using e4
    refine ⟨hb, g' (.ref x) s' e1 e2 e3 ?_⟩
    obtain ⟨ex, pre, _⟩ := e2.pre
    refine ⟨x, ?_, rfl⟩
    rw [pre]
    have h0 : ((s.setD dx (.own x)).addL x (.ins c []) Yfa).rho[s.hp.length]? = some x := by
     obtain ⟨a, q1, q2⟩ := addL_r (K := X.K) (p := x) (c := .ins c []) (o := .ins C dx []) (s := s.setD dx (.own x)) R0
     cases q2
     exact q1
    rw [List.getElem?_append_left (List.getElem?_eq_some_iff.mp h0).1]
    exact h0
   ·exact g'.elim
theorem ie_makeX (M : Mk X.K C f) (cn : CN X.K c C) (Fk : FnG X.prog X.w X.K X.mg X.base CX k f fd ps (spX X.K X.w m n)) (hr : Room (k + 1) X.A) (hgd : X.A.guards = some []) (hg : Gl X x) (hm : X.mg x = some (.ref C)) (hb : Binds X.K fd ps ds) (hd : Vals dvs ds) (hdt : ∀ s, RwL X.K s (dts.map W.t) dvs) (hl : ∀ ws hp, ws.length ≠ n → m ws hp = .bad)
  (hx : ∀ σ, PassesAt CX X σ (WE Wx σ)) (ha : IA X Wx Yb3 Fs)
  (hdb : (x == ("__debug__" : Str)) = false := by decide) (he : starEach Yb3 X.env = (false, eval e X.env) :: starEach es X.env := by rfl) (hpl : (backTo pos Yb0).any (·.1) = false := by rfl) : IE X Wx Yab (mMakeX c m dts Fs) :=
 PE.imp (pe_makeX (E := WE Wx) M Fk hr hgd hg hm hb hd hx ha hdb he hpl) fun σ H Q h =>
  tM.bind1 (R := fun (vs : List V) (H1 : Hp) => ∀ x dx, H1 x = none → H1 dx = none → dx ≠ x → spX X.K X.w m n Yfx (upd (upd H1 dx (.own x)) x Yfa) Ycl (WE Wx σ))
   (C := W) (k := fun (ws : List W) (eta : IS) (h1 : IH) => (reEr eta (m (W.r h1.length :: (ws ++ dts.map W.t)) (h1 ++ [some (Cell.ins c [])]))).bind fun w h2 => match w with | .t .non => (Res.ok (W.r h1.length) h2 : Res W) | _ => .bad) h fun s eta ws vs R1 S1 f1 g x dx nx ndx ne => go_madeX R1 S1 cn f1 hdt hl nx ndx ne g
end
end Mir
namespace Mir
open PySem PySem.Spec L2
open PyProof.Rows hiding St
/-- .. which a context that takes any takes -/
theorem takesN {X : Cx} {W : WX} (t : L2.Takes X W) : L2N.Takes X W := fun u s' ⟨a, B, sI, pins, σ, H, cls, d, e, I, nb, up, sky, na, os, ag, w⟩ =>
 t u s' ⟨a, B, sI, pins, σ, H, cls, d, e, I, nb, up, by
  rcases sky with ⟨h1, h2, h3, oe, vs, h4, h5, h6⟩ | h | ⟨h1, h2, h3, h4⟩
  ·exact .inl ⟨h1, h2, h3, oe, vs, h4, h5.zc, h6⟩
  ·exact .inr (.inl (L2H.flyingZ_imp (fun o z => z.zc) h))
  ·exact .inr (.inr ⟨h1, h2, h3, L2H.tracedZ_imp (fun o z => z.zc) h4⟩), na, os, ag, w⟩
theorem pmk_oexN {X : Cx} {CX : CXT} {x : Str} {e : Expr} {es : List Expr} {ta : TA} {p pos : Pos} {C fI : Addr} {k : Nat} {fd : FuncData} {ps : List Str} {sp : Sp} (T : OexC X.K C) (iC : PySem.W.findIn X.K (.ref C) "__init__" = some (some (.ref fI))) (tI : PySem.W.typeIn X.K (.ref fI) = some Yfw)
  (F1 : FnOk X.prog X.w X.K X.mg X.base CX k fI fd ps sp) (hr : Room (k + 1) X.A) (hb : Binds X.K fd ps []) (hx : Passes CX X Ydp) (hg : Gl X x) (hm : X.mg x = some (.ref C)) (ha : PA X Yb3 ta)
  (hdb : (x == ("__debug__" : Str)) = false := by decide) (he : starEach Yb3 X.env = (false, eval e X.env) :: starEach es X.env := by rfl) (hpl : (backTo pos Yb0).any (·.1) = false := by rfl) :
  L2N.PMk X Yab (tMkO C sp [] ta) := by
 intro pins s σ H Q I h
 obtain ⟨nm, q, N, bs, bm, sn, sub, ab, col, dd, k0, k1, k2, k3, k5, hC, hbm⟩ := T.cls
 refine wpAny_Call_Name_kw (ld_glob I hg hm ?_ hdb)
 refine PySem.W.callWith_K (h₀ := X.base) I.ok.mod.kin T.kC (thn (ha.run pos pins s σ H _ I h) fun us s1 ⟨vs, H1, I1, r1, hz, q1⟩ => ⟨I1.kIn, ?_⟩) he hpl
 show wpAny _ _ (call (.ref C) us) _ _ _
 obtain ⟨hp, g, dr, tk, os⟩ := s1
 have hsz : hp.objs.size ≤ hp.objs.size + 1 := Nat.le_succ _
 have hn : H1 Ya5 = none := I1.hok.fresh hsz
 have hq := q1 Ya5 hn
 rw [List.append_nil] at hq
 have kk : ∀ b o, hp.get? b = some o → ((hp.push (PySem.W.kdv_tup us)).push Yb1).get? b = some o := fun b o e => Heap.get?_push_of_some _ (Heap.get?_push_of_some _ e)
 have hget : ((hp.push (PySem.W.kdv_tup us)).push Yb1).get? Ya5 = some Yb1 := by heap_get
 have I2 : Inv X pins σ (upd H1 Ya5 (exo Ya5 C none)) ⟨(hp.push (PySem.W.kdv_tup us)).push Yb1, g, dr, tk, os⟩ :=
  I1.laid (t' := tk) (a := hp.objs.size + 1) (o := exo Ya5 C none) (h' := (hp.push (PySem.W.kdv_tup us)).push Yb1) kk hsz (exo_ok hget)
 have r2 : Vals (V.ref Ya5 :: vs) (Value.ref Ya5 :: us) := .cons rfl r1
 have hl : (Value.ref Ya5 :: us ++ []).length = ps.length := by
  have e := r2.length
  rw [F1.len _ _ _ _ hq] at e
  rw [List.append_nil]
  exact e.symm
 have hus : us.length ≤ sizeLine := by
  rw [← Paired.length r1, sizeLine_eq]
  omega
 have b2 := hb _ (Value.ref Ya5 :: us) I2.kIn hl
 rw [List.append_nil] at b2
 refine wpAny_call (PySem.HandSPX.call_own F.excBase_ValueError (fun Y => PySem.HandSPX.refsVE_contains Y bm hbm) (I1.kIn _ _ hC) (PySem.W.looks_findIn I1.kIn iC) (fun self => PySem.W.bind_fn I1.kIn self tI) hus
  (codeAny_mono (F1.run _ X.stack _ _ ⟨Value.ref Ya5 :: us, []⟩ (Value.ref Ya5 :: us) _ _ Ydp (hr.make C us []) (I2.env0.make C us []) b2 r2 hq) fun r s' hq' => ?_))
 cases r with
 | error er => exact hx pins σ _ _ er s' I2 hq'
 | ok fl =>
  cases fl with
  | ret u =>
   obtain ⟨v, H2, os2, bare2, un2, hok2, rv, ev, d, fs, ea, ed, hd1, q2⟩ := hq'
   subst ev
   obtain ⟨h2, g2, d2, t2, os'⟩ := s'
   obtain ⟨t0, G, J, kG, ge, hoe, na⟩ := mk_end0 (d2 := d2) (t2 := t2) I1 hsz kk un2 hok2 os2 bare2 ea ed hd1
   exact ⟨rv, hp.objs.size + 1, _, _, ⟨G, g2, d2, t2, os'⟩, _, .ref C, some d, rfl, J, kG, ge, hoe, ⟨rfl, rfl, fun vs hv => by cases hv; rfl⟩, rfl, rfl, na, rfl, bare2, raises_own T.exC T.tyC, q2⟩
  | next => exact False.elim hq'
  | brk => exact False.elim hq'
  | cont => exact False.elim hq'
/-- the mirror's exceptions -/
def ExF (K : PySem.W.Frag) (s : S4) (a : Ex) (b : Value × Option Addr) : Prop := ExR K s a b.1 b.2
abbrev tX (K : PySem.W.Frag) (ω : World) (Wx : WX) (F : M Ex) : L2.St → Hp → XK → Prop := fun σ H Q => tM K ω Wx (ExF K) F σ H (fun b H' => Q b.1 b.2 H')
def mExc (c fld : Str) (Fs : M (List W)) : M Ex := fun eta hp => (Fs eta hp).bind fun ws h => match ws with
 | [w] => .ok ⟨c, [(fld, w)]⟩ h
 | _ => .bad
def mRaise (F : M Ex) : M Fl := fun eta hp => (F eta hp).bind fun e h => .er e eta h
section
variable {X : Cx} {Wx : WX} {C : Addr} {c fld : Str} {Fs : M (List W)} {F : M Ex} {e : Expr} {pos : Pos}
theorem tmk_of (cn : CN X.K c C) : ∀ σ H Q, tX X.K X.w Wx (mExc c fld Fs) σ H Q → tMkO C (spI C fld) [] (tA X.K X.w Wx Fs) σ H Q := fun σ H Q h => by
 refine tM.bind1 (R := fun (vs : List V) (H1 : Hp) => vs.length ≤ 1000 ∧ ∀ a, H1 a = none → spI C fld (.ref a :: (vs ++ [])) (upd H1 a (exo a C none)) (fun v H2 => v = .non ∧ ∃ (d : Addr) (fs : List Yea), H2 a = some (exo a C (some d)) ∧ H2 d = some (exd d fs) ∧ H1 d = none ∧ Q (.ref C) (some d) (upd (del H2 a) d (.xd fs))) Ydp)
  (C := Ex) (k := fun (ws : List W) (_ : IS) (h : IH) => match ws with | [w] => (Res.ok (⟨c, [(fld, w)]⟩ : Ex) h : Res Ex) | _ => .bad) h fun s eta ws vs R1 S1 f1 g => ?_
 split at g
 ·rename_i w
  obtain ⟨v, r, e1, f2, e2⟩ := f1
  subst e1
  cases (show r = [] from e2)
  refine ⟨by simp, fun a na => ⟨a, v, rfl, upd_same, fun dx hdx hne => ⟨rfl, dx, [(fld, v)], upd_same, ?_, ?_, ?_⟩⟩⟩
  ·rw [upd_ne hne, upd_same]
  ·rw [upd_ne hne] at hdx
   exact hdx
  ·rw [upd_ne hne] at hdx
   have eH : upd (del (upd (upd (upd s.H a (exo a C none)) dx (exd dx [(fld, v)])) a (exo a C (some dx))) a) dx (.xd [(fld, v)]) = upd s.H dx (.xd [(fld, v)]) := by
    funext b
    by_cases h1 : b = dx
    ·rw [h1, upd_same, upd_same]
    ·rw [upd_ne h1, upd_ne h1]
     by_cases h2 : b = a
     ·rw [h2, del_same, na]
     ·rw [del_ne h2, upd_ne h2, upd_ne h1, upd_ne h2]
   rw [eH]
   have A := (Aft.refl s).setD (D := dx) (o' := .xd [(fld, v)]) hdx
   have R' : Rel X.K X.w (s.setD dx (.xd [(fld, v)])) := rel_setD R1 (R1.fresh hdx).1 (R1.fresh hdx).2
   exact g (.ref C, some dx) (s.setD dx (.xd [(fld, v)])) rfl A R' ⟨C, rfl, cn, .inr ⟨dx, _, rfl, upd_same, v, [], rfl, f2.aft A R1, rfl⟩⟩
 ·exact g.elim
/-- raise C(e) -/
theorem st_raise (hc : X.calm = true) (tk : L2N.Takes X Wx) (he : L2N.PMk X e (tX X.K X.w Wx F)) : ISt X Wx (.Raise (some e) none pos) (mRaise F) := PS.imp (L2N.ps_raise hc tk he) fun D σ H h => by
 obtain ⟨s, eta, e1, R1, S1, g⟩ := h
 refine ⟨s, eta, e1, R1, S1, Go.bind g fun a b s' A R f _ g' => ?_⟩
 exact g' s' σ b.1 b.2 rfl (Aft.refl s') R (S1.aft A R1) f
end
end Mir
namespace Mir
open PySem PySem.Spec L2
open PyProof.Rows hiding St
open HotX (HotAt)
end Mir
namespace Mir
open PySem PySem.Spec L2
open PyProof.Rows hiding St
/-- which classes a clause names -/
def HitOk (K : PySem.W.Frag) (c : Value) (hit : Str → Option Bool) : Prop := ∀ (c' : Str) (C' : Addr) (b : Bool), hit c' = some b → CN K c' C' → PySem.W.exmOne K (.ref C') c = some b
theorem Sl.unset {K : PySem.W.Frag} {s : S4} {eta : IS} {σ : L2.St} (h : Sl K s eta σ) (i : Nat) (x : Option V) : Sl K s Yfi (σ.set i x) := by
 refine ⟨by rw [List.length_set, List.length_set]; exact h.1, fun j w q => ?_⟩
 by_cases e : i = j
 ·subst e
  by_cases hl : i < eta.length
  ·rw [List.getElem?_set_self hl] at q; cases q
  ·rw [List.getElem?_eq_none Yfk] at q; cases q
 ·rw [List.getElem?_set_ne e] at q
  obtain ⟨v, h1, h2⟩ := h.2 j w q
  exact ⟨v, by rw [List.getElem?_set_ne e]; exact h1, h2⟩
section
variable {X : Cx} {Wx : WX} {C fI : Addr} {c fld x : Str} {fd : FuncData} {ps : List Str} {e : Expr} {es : List Expr} {Fs : M (List W)} {p pos : Pos} {CX : CXT}
theorem xc_cold (T : OexC X.K C) (iC : PySem.W.findIn X.K (.ref C) "__init__" = some (some (.ref fI))) (tI : PySem.W.typeIn X.K (.ref fI) = some Yfw) (cn : CN X.K c C) (F1 : FnOk X.prog X.w X.K X.mg X.base Yft 1 fI fd ps (spI C fld)) (hr : Room 2 X.A) (hb : Binds X.K fd ps []) (hg : Gl X x) (hm : X.mg x = some (.ref C)) (ha : IA X Wx Yb3 Fs)
  (hdb : (x == ("__debug__" : Str)) = false := by decide) (he : starEach Yb3 X.env = (false, eval e X.env) :: starEach es X.env := by rfl) (hpl : (backTo pos Yb0).any (·.1) = false := by rfl) : L2N.PMk X Yab (tX X.K X.w Wx (mExc c fld Fs)) :=
 fun pins s σ H Q I h => pmk_oexN T iC tI F1 hr hb passL hg hm ha hdb he hpl pins s σ H Q I (tmk_of cn σ H Q h)
end
end Mir
namespace Mir
open PySem PySem.Spec L2
open PyProof.Rows hiding St
/-- a class: a built-in type or an own class by name -/
abbrev CT := String ⊕ Str
def tyC (hp : IH) : W → Option CT
 | .t .non => some (.inl "NoneType") | .t (.bl _) => some (.inl "bool") | .t (.int _) => some (.inl "int") | .t (.str _) => some (.inl "str")
 | .t (.tup _) => some (.inl "tuple") | .t (.pr _) => some (.inl "tuple") | .t (.lst _) => some (.inl "list") | .t (.scr _) => some (.inl "list")
 | .t (.dic _ _) => some (.inl "dict") | .t (.ins c _ _) => some (.inr c)
 | .t (.ty _) => none | .t (.cls _) => none | .t (.dit _ _) => none | .t (.exc _ _ _) => none
 | .r i => match hp[i]? with
  | some (some (.lst _)) => some (.inl "list")
  | some (some (.dic _)) => some (.inl "dict")
  | some (some (.ins c _)) => some (.inr c)
  | _ => none
def clC : T → Option CT
 | .ty n => some (.inl n) | .cls c => some (.inr c) | _ => none
def clCs : List T → Option (List CT)
 | [] => some []
 | x :: r => match clC x, clCs r with
  | some a, some b => some (a :: b)
  | _, _ => none
/-- the value of a class -/
def CVal (K : PySem.W.Frag) : CT → Value → Prop
 | .inl n, v => v = .type n
 | .inr c, v => ∃ C, v = .ref C ∧ CN K c C
/-- what isinstance asks of an own class -/
structure InsC (K : PySem.W.Frag) (C : Addr) : Prop where
 cl : Cls K C
 ha : PySem.W.findIn K (.ref C) "__class__" = some (some Y8)
 hn : PySem.W.specialIn K Y8 "__get__" = some Ydt
 htk : PySem.W.takesIn K Y8 = some true
 hm : PySem.W.mroIn K C (.type "object") = some true
structure IsTab (K : PySem.W.Frag) (tab : CT → CT → Option Bool) : Prop where
 ok : ∀ t c b tv cv, tab t c = some b → CVal K t tv → CVal K c cv → PySem.W.kitOne K tv cv = some b
 ins : ∀ c d b C, tab (.inr c) d = some b → CN K c C → InsC K C
def anyC (tab : CT → CT → Option Bool) (t : CT) : List CT → Option Bool
 | [] => some false
 | c :: r => match tab t c with
  | some true => some true
  | some false => anyC tab t r
  | none => none
def oIsi (tab : CT → CT → Option Bool) : OpN := fun ws hp => match ws with
 | [x, .t (.tup cs)] => (match tyC hp x, clCs cs with
  | some t, some ds => (match ds with
   | [] => .bad
   | _ :: _ => (match anyC tab t ds with
    | some b => .ok Ydl hp
    | none => .bad))
  | _, _ => .bad)
 | [x, .t c] => (match tyC hp x, clC c with
  | some t, some d => (match tab t d with
   | some b => .ok Ydl hp
   | none => .bad)
  | _, _ => .bad)
 | _ => .bad
section
variable {K : PySem.W.Frag} {ω : World} {s : S4}
/-- the type of such a value; own classes by the table -/
theorem ty_at (R : Rel K ω s) {w : W} {v : V} {t : CT} (h : tyC s.hp w = some t) (r : Rw K s w v) (hI : ∀ c C, t = .inr c → CN K c C → InsC K C) : ∃ tv, CVal K t tv ∧ TyX K s.H v tv := by
 cases w with
 | t x =>
  cases x with
  | non => simp only [tyC, Option.some.injEq] at h; subst h; simp only [Rw, Rf] at r; subst r; exact ⟨_, rfl, .base .non⟩
  | bl b => simp only [tyC, Option.some.injEq] at h; subst h; simp only [Rw, Rf] at r; subst r; exact ⟨_, rfl, .base (.bl b)⟩
  | int b => simp only [tyC, Option.some.injEq] at h; subst h; simp only [Rw, Rf] at r; subst r; exact ⟨_, rfl, .base (.int b)⟩
  | str b => simp only [tyC, Option.some.injEq] at h; subst h; simp only [Rw, Rf] at r; subst r; exact ⟨_, rfl, .base (.str b)⟩
  | tup xs =>
   simp only [tyC, Option.some.injEq] at h; subst h; simp only [Rw, Rf] at r
   obtain ⟨a, vs, e, f, _⟩ := r
   subst e
   rcases f with ⟨_, o, h, _⟩ | ⟨o, its, n, h1, h2, _⟩
   ·exact ⟨_, rfl, .fTuple h⟩
   ·exact ⟨_, rfl, .kTuple h1 h2⟩
  | pr xs =>
   simp only [tyC, Option.some.injEq] at h; subst h; simp only [Rw, Rf] at r
   obtain ⟨a, vs, e, ⟨_, f⟩, _⟩ := r
   subst e
   exact ⟨_, rfl, .base (.tup f)⟩
  | lst xs =>
   simp only [tyC, Option.some.injEq] at h; subst h; simp only [Rw, Rf] at r
   obtain ⟨a, vs, e, ⟨_, f⟩, _⟩ := r
   subst e
   exact ⟨_, rfl, .base (.lst f)⟩
  | scr xs =>
   simp only [tyC, Option.some.injEq] at h; subst h; simp only [Rw, Rf] at r
   obtain ⟨a, vs, e, f, _⟩ := r
   subst e
   rcases f with ⟨_, o, h⟩ | ⟨o, its, n, h1, h2, _⟩
   ·exact ⟨_, rfl, .base (.frz h)⟩
   ·exact ⟨_, rfl, .kList h1 h2⟩
  | dic ks xs =>
   simp only [tyC, Option.some.injEq] at h; subst h; simp only [Rw, Rf] at r
   obtain ⟨a, vs, e, ⟨_, o, f⟩, _⟩ := r
   subst e
   exact ⟨_, rfl, .fDict f⟩
  | ins c ns xs =>
   simp only [tyC, Option.some.injEq] at h; subst h; simp only [Rw, Rf] at r
   obtain ⟨a, C, vs, e, cn, ⟨_, dx, f⟩, _⟩ := r
   subst e
   have q := hI c C rfl cn
   exact ⟨_, ⟨C, rfl, cn⟩, .base (.ins f q.cl q.ha q.hn q.htk q.hm)⟩
  | ty n => simp [tyC] at h
  | cls c => simp [tyC] at h
  | dit _ _ => simp [tyC] at h
  | exc _ _ _ => simp [tyC] at h
 | r i =>
  obtain ⟨a, e1, e2⟩ := r
  subst e2
  simp only [tyC] at h
  split at h
  ·rename_i xs q
   obtain ⟨vs, h1, _⟩ := R.cell i _ a q e1
   cases h
   exact ⟨_, rfl, .base (.lst h1)⟩
  ·rename_i xs q
   obtain ⟨vs, h1, _⟩ := R.cell i _ a q e1
   cases h
   exact ⟨_, rfl, .base (.dK h1)⟩
  ·rename_i c fs q
   obtain ⟨C, dx, vs, h1, cn, _⟩ := R.cell i _ a q e1
   cases h
   have q := hI c C rfl cn
   exact ⟨_, ⟨C, rfl, cn⟩, .base (.ins h1 q.cl q.ha q.hn q.htk q.hm)⟩
  ·cases h
theorem cl_at {x : T} {v : V} {d : CT} (h : clC x = some d) (r : Rf K s.fz s.H x v) : ∃ cv, CVal K d cv ∧ ClsV v cv := by
 cases x with
 | ty n => simp only [clC, Option.some.injEq] at h; subst h; simp only [Rf] at r; subst r; exact ⟨_, rfl, .ty n⟩
 | cls c => simp only [clC, Option.some.injEq] at h; subst h; simp only [Rf] at r; obtain ⟨C, e, cn⟩ := r; subst e; exact ⟨_, ⟨C, rfl, cn⟩, .own C⟩
 | _ => simp [clC] at h
end
/-- isinstance(x, (c, ..)), the tuple frozen -/
def rIsiF (K : PySem.W.Frag) : List V → Hp → VK → Prop := fun xs H Q => ∃ (x : V) (tp : Addr) (o : Obj) (cs : List V) (t : Value) (us : List Value) (b : Bool), xs = [x, .ref tp] ∧ H tp = some (.frz o (.tup cs)) ∧ Paired ClsV cs us ∧ TyX K H x t ∧ PySem.W.kitAny K t us = some b ∧ Q (.bl b) H
theorem call_isiF {X : Cx} : CallR X Yfy (rIsiF X.K) := by
 intro pins s σ H xs us Q I r h
 obtain ⟨x, tp, o, cs, t, ws, b, rfl, hT, k, ty, e, q⟩ := h
 obtain ⟨u1, u2, rfl, r1, r2⟩ := vals2 r
 cases (show u2 = Value.ref tp from r2)
 obtain ⟨P, Z, p, hx⟩ := kit_of I r1 ty
 obtain ⟨_, _, its, rv, o1, h1, h2, n, h3⟩ := (show ObjOk X.prog X.w H s.heap tp (.frz o (.tup cs)) from I.hok tp _ hT)
 have e3 := ClsV.all k rv
 subst e3
 obtain ⟨oc, od, dt, sl⟩ := o1
 simp only at h2 h3
 subst h2 h3
 exact PySem.W.kia_tup Z I.kIn p h1 e hx fun tk => ⟨.bl b, H, I.tok tk, rfl, q⟩
def rIsiA (K : PySem.W.Frag) : List V → Hp → VK → Prop := fun xs H Q => rIsi K xs H Q ∨ (rIsiF K xs H Q ∨ rIsiK K xs H Q)
theorem call_isiA {X : Cx} : CallR X Yfy (rIsiA X.K) := CallR.or call_isi (CallR.or call_isiF call_isiK)
section
variable {K : PySem.W.Frag} {ω : World} {s : S4} {Wx : WX} {tab : CT → CT → Option Bool}
theorem cls_at : ∀ {xs : List T} {vs : List V} {ds : List CT}, clCs xs = some ds → RfL K s.fz s.H xs vs → ∃ us : List Value, Paired ClsV vs us ∧ Paired (CVal K) ds us
 | [], vs, ds, h, r => by
  simp only [RfL] at r
  simp only [clCs, Option.some.injEq] at h
  subst r h
  exact ⟨[], .nil, .nil⟩
 | x :: xs, vs, ds, h, r => by
  simp only [RfL] at r
  obtain ⟨v, t, e, a, b⟩ := r
  subst e
  simp only [clCs] at h
  split at h
  ·rename_i d ds' h1 h2
   cases h
   obtain ⟨cv, c1, c2⟩ := cl_at h1 a
   obtain ⟨us, p1, p2⟩ := cls_at h2 b
   exact ⟨cv :: us, .cons c2 p1, .cons c1 p2⟩
  ·cases h
theorem any_at (h : IsTab K tab) {t : CT} {tv : Value} (ht : CVal K t tv) : ∀ {ds : List CT} {us : List Value} {b : Bool}, anyC tab t ds = some b → Paired (CVal K) ds us → PySem.W.kitAny K tv us = some b
 | [], us, b, e, p => by
  cases p
  simp only [anyC, Option.some.injEq] at e
  subst e
  rfl
 | c :: r, us, b, e, p => by
  cases p with
  | cons q p =>
   simp only [anyC] at e
   unfold PySem.W.kitAny
   split at e
   ·rename_i h1
    rw [h.ok _ _ _ _ _ h1 ht q]
    exact e
   ·rename_i h1
    rw [h.ok _ _ _ _ _ h1 ht q]
    exact any_at h ht e p
   ·cases e
theorem any_some {t : CT} : ∀ {d : CT} {ds : List CT} {b : Bool}, anyC tab t (d :: ds) = some b → ∃ b', tab t d = some b'
 | d, ds, b, e => by
  simp only [anyC] at e
  split at e
  ·exact ⟨_, by assumption⟩
  ·exact ⟨_, by assumption⟩
  ·cases e
theorem ok_isi (ht : IsTab K tab) : OpNOk K ω Wx (oIsi tab) (rIsiA K) := by
 intro s ws xs Q R r go
 unfold oIsi at go
 split at go
 ·rename_i x cs
  obtain ⟨v, c, e, rv, rc⟩ := RwL.two r
  subst e
  split at go
  ·rename_i t ds h1 h2
   split at go
   ·exact go.elim
   ·rename_i d ds
    split at go
    ·rename_i b hb
     have q := go (.bl b) s rfl Yg R (by simp only [Rw, Rf])
     obtain ⟨b', hb'⟩ := any_some hb
     obtain ⟨tv, c1, ty⟩ := ty_at R h1 rv (fun c C e cn => ht.ins c d b' C (by rw [← e]; exact hb') cn)
     simp only [Rw, Rf] at rc
     obtain ⟨a, vs, e, f, l⟩ := rc
     subst e
     obtain ⟨us, p1, p2⟩ := cls_at h2 l
     have ka := any_at ht c1 hb p2
     rcases f with ⟨_, o, hH, _⟩ | ⟨o, its, n, k1, k2, _, k3, _, k4⟩
     ·exact .inr (.inl ⟨v, a, o, vs, tv, us, b, rfl, hH, p1, ty, ka, q⟩)
     ·refine .inr (.inr ⟨v, a, o.dict, us, n, o.slots, tv, b, rfl, ?_, ty, ka, q⟩)
      have e3 := ClsV.all p1 k4
      obtain ⟨oc, od, dt, sl⟩ := o
      simp only at k2 k3
      subst k2 k3
      rw [k1, ← e3]
    ·exact go.elim
  ·exact go.elim
 ·rename_i x c hne
  obtain ⟨v, c', e, rv, rc⟩ := RwL.two r
  subst e
  split at go
  ·rename_i t d h1 h2
   split at go
   ·rename_i b hb
    have q := go (.bl b) s rfl Yg R (by simp only [Rw, Rf])
    obtain ⟨tv, c1, ty⟩ := ty_at R h1 rv (fun c C e cn => ht.ins c d b C (by rw [← e]; exact hb) cn)
    obtain ⟨cv, c2, c3⟩ := cl_at h2 (by simpa only [Rw] using rc)
    exact .inl ⟨v, c', tv, cv, b, rfl, c3, ty, ht.ok _ _ _ _ _ hb c1 c2, q⟩
   ·exact go.elim
  ·exact go.elim
 ·exact go.elim
end
end Mir
namespace Mir
open PySem PySem.Spec L2
open PyProof.Rows hiding St
def mSM (f : OpM) (Fo Fe : M W) : M W := fun eta hp => (Fo eta hp).bind fun w h1 => match w with
 | .t (.str a) => (Fe eta h1).bind fun u h2 => f Yez [u] h2
 | _ => .bad
def oSplit : OpM := fun w ws hp => match w, ws with
 | .t (.str a), [.t (.str b)] => if (b.length == 0) = false ∧ a.length + 2 ≤ 16777216 then .ok (.t (.lst ((Txt.split a b).map T.str))) hp else .bad
 | _, _ => .bad
section
variable {K : PySem.W.Frag} {ω : World} {s : S4} {Wx : WX}
theorem ok_split : OpMOk K ω Wx oSplit (fun x xs H Q => ∃ a b, x = .str a ∧ xs = [.str b] ∧ (b.length == 0) = false ∧ a.length + 2 ≤ sizeLine ∧ rNewStrs (Txt.split a b) H Q) := by
 intro s w ws x xs Q R r rs go
 unfold oSplit at go
 split at go
 ·rename_i a b
  split at go
  ·rename_i hh
   simp only [Rw, Rf] at r
   obtain ⟨v, e, rv⟩ := RwL.one rs
   simp only [Rw, Rf] at rv
   subst r rv e
   exact ⟨a, b, rfl, rfl, hh.1, by rw [sizeLine_eq]; exact hh.2, fun p hp => go (.ref p) (s.addF p (.lst ((Txt.split a b).map V.str))) rfl (zbj R hp) (zby R hp) (zc7 R hp (strs_rf _))⟩
  ·exact go.elim
 ·exact go.elim
end
section
variable {X : Cx} {Wx : WX} {o e : Expr} {Fo Fe : M W} {name : Str} {apos cpos : Pos} {id : String} {f : OpM} {r : V → List V → Hp → VK → Prop}
theorem ie_sm (slot : Slot "str" name id) (hty : typeOf (.builtin id) = pure (.type "method_descriptor")) (hm : MtR X id r) (hf : OpMOk X.K X.w Wx f r) (ho : IE X Wx o Fo) (he : IE X Wx e Fe)
  (hs : starEach [e] X.env = [(false, eval e X.env)] := by rfl) (hbase : attributeBase o name X.env Yeb = eval o X.env := by rfl) (hline : (apos.endLine == cpos.line) = true := by rfl) :
  IE X Wx (.Call (.Attribute o name apos) [e] [] cpos) (mSM f Fo Fe) :=
 PE.imp (pe_m1 slot hty hm ho he hs hbase hline) fun σ H Q h =>
  tM.bind1 (R := fun (x : V) (H1 : Hp) => (∃ a, x = .str a) ∧ tE X.K X.w Wx Fe σ H1 fun y H2 => r x [y] H2 Q) (k := fun (w : W) eta h1 => match w with | .t (.str a) => ((Fe eta h1).bind fun u h2 => f Yez [u] h2 : Res W) | _ => .bad) h fun s eta a b R1 S1 f1 g => by
   split at g
   ·rename_i a
    refine ⟨⟨a, by simpa only [Rw, Rf] using f1⟩, s, eta, rfl, R1, S1, Go.bind g fun u y s' A' R' r' _ g' => hf s' Yez [u] b [y] Q R' (f1.aft A' R1) ⟨y, [], rfl, r', rfl⟩ g'⟩
   ·exact g.elim
theorem ie_split (ho : IE X Wx o Fo) (he : IE X Wx e Fe) (hs : starEach [e] X.env = [(false, eval e X.env)] := by rfl) (hbase : attributeBase o "split" X.env Yeb = eval o X.env := by rfl) (hline : (apos.endLine == cpos.line) = true := by rfl) :
  IE X Wx (.Call (.Attribute o "split" apos) [e] [] cpos) (mSM oSplit Fo Fe) := ie_sm F.slot_str_split F.type_str_split mt_split ok_split ho he hs hbase hline
end
def inS (neg : Bool) : Op2 := fun a b hp => match a, b with
 | .t (.str i), .t (.str j) => (match i.cps.toList with
  | [c] => .ok (.t (.bl (if neg then !decide (c ∈ j.cps.toList) else decide (c ∈ j.cps.toList)))) hp
  | _ => .bad)
 | _, _ => .bad
section
variable {X : Cx} {Wx : WX} {a b : Expr} {Fa Fb : M W} {pos : Pos}
theorem ok_inS {K : PySem.W.Frag} {ω : World} : zco K ω Wx (inS false) (fun x y H Q => ∃ (c : Nat) (z : Str), x = .str ⟨#[c]⟩ ∧ y = .str z ∧ Q (.bl (decide (c ∈ z.cps.toList))) H) := by
 intro s a b x y Q R ra rb go
 unfold inS at go
 split at go
 ·rename_i i j
  split at go
  ·rename_i c hc
   simp only [Rw, Rf] at ra rb
   subst ra rb
   have ei : i = ⟨#[c]⟩ := Str.ext' (Array.toList_inj.mp (by rw [hc]))
   subst ei
   exact ⟨c, j, rfl, rfl, go _ s rfl Yg R Ye⟩
  ·exact go.elim
 ·exact go.elim
theorem ie_inS (ha : IE X Wx a Fa) (hb : IE X Wx b Fb) (hm : behindInMarks .In b = false := by rfl) : IE X Wx (.Compare a [.In] [b] pos) (mBin (inS false) Fa Fb) := ie_cmp op_in_sign ok_inS ha hb hm
end
end Mir
namespace Mir
open PySem PySem.Spec L2
open PyProof.Rows hiding St
section
variable {prog : Program} {w : World} {A : Around} {E : Value → Shared → Prop} {s : Shared}
/-- the loop: Ph i holds of the heap behind i elements -/
theorem addAll {R : Result → Shared → Prop} {I S l : Addr} {items : Array Value} (hh : A.in1.handled = none) (nl : l ≠ I) (nS : S ≠ I) (nSl : S ≠ l) (Ph : Nat → Heap → Prop)
  (stay : ∀ i h h', Ph i h → (∀ b o, b ≠ I → h.get? b = some o → h'.get? b = some o) → Ph i h')
  (step : ∀ (i : Nat) (v : Value) (s1 : Shared) (Q : Bool → Shared → Prop) (E1 : Value → Shared → Prop), items[i]? = some v → Ph i s1.heap → (∀ b h' tk, Heap.SameBut S s1.heap h' → s1.toks ≤ tk → Ph (i + 1) h' → Q b { s1 with heap := h', toks := tk }) → wpAny (model prog w) A.in1 (setAdd S v) Q E1 s1) :
  ∀ (k i : Nat) (s0 : Shared), items.size - i = k → i ≤ items.size → (s0.heap.IsListIter I l i ∧ s0.heap.IsList l items) → Ph i s0.heap →
   (∀ s' : Shared, Moved [S, I] (fun a b => b = a) s0 s' → Ph items.size s'.heap → R (.ok (.ret .none)) s') →
   codeAny (model prog w) A (.builtin "set.update.loop" ⟨[.ref S, .ref I], []⟩) R s0 := by
 have W := (Walks.list (prog := prog) (w := w) hh I l nl items).toS
 have wide : ∀ {a b : Shared}, Moved [I] (fun x y => y = x) a b → Moved [S, I] (fun x y => y = x) a b := fun m => ⟨fun b o hb q => m.heap b o (fun z => hb (List.mem_cons_of_mem _ z)) q, m.gens, m.drawn, m.os, m.toks⟩
 intro k
 induction k with
 | zero =>
  intro i s0 hk hi st ph hR
  obtain rfl : i = items.size := by omega
  refine codeAny_builtin F.entry_set_update_loop ?_
  rw [Around.under_plainId F.plain_set_update_loop _]
  refine wpAny_bind (W.done s0 _ _ st fun s' hm => wpAny_pure (hR s' (wide hm) (stay _ _ _ ph fun b o hb q => hm.heap b o (by simpa using hb) q)))
 | succ k ih =>
  intro i s0 hk hi st ph hR
  have hlt : i < items.size := by omega
  refine codeAny_builtin F.entry_set_update_loop ?_
  rw [Around.under_plainId F.plain_set_update_loop _]
  refine wpAny_bind (W.item i s0 _ _ hlt st fun v s1 hv st1 hm => ?_)
  have ph1 : Ph i s1.heap := stay _ _ _ ph fun b o hb q => hm.heap b o (by simpa using hb) q
  refine wpAny_bind (wpAny_holding (step i v s1 _ _ hv ph1 fun b h' tk sb ht ph2 => ?_))
  have kp : ∀ b o, b ≠ S → s1.heap.get? b = some o → h'.get? b = some o := fun b o hb q => (sb.2 b hb).trans q
  refine wpAny_pure ⟨plainId_quiet F.plain_set_update_loop _, ih (i + 1) _ Yc hlt (W.frame _ s1 _ _ st1 ht fun b hb o q => kp b o (fun z => ?_) q) ph2 fun s2 hm2 ph3 => hR s2 ⟨fun b o hb q => ?_, ?_, ?_, ?_, ?_⟩ ph3⟩
  ·subst z
   simp only [List.mem_cons, List.not_mem_nil, or_false] at hb
   rcases hb with z | z
   ·exact nS z
   ·exact nSl z
  ·have h1 := (wide hm).heap b o hb q
   exact hm2.heap b o hb (kp b o (fun z => hb (by simp [z])) h1)
  ·exact hm2.gens.trans hm.gens
  ·exact hm2.drawn.trans hm.drawn
  ·exact hm2.os.trans hm.os
  ·exact Nat.le_trans (Nat.le_trans hm.toks ht) hm2.toks
/-- an empty set -/
abbrev zcg (led : Bool) : Obj := { cls := .type "set", dict := none, data := .set #[] 0 (.fresh 0 0 led) }
/-- set(l) -/
theorem call_setL {l : Addr} {items : Array Value} {Q : Value → Shared → Prop} (hh : A.handled = none) (hl : s.heap.IsList l items) (Ph : Nat → Heap → Prop)
  (base : ∀ led h, h.get? s.heap.objs.size = some (zcg led) → (∀ b o, s.heap.get? b = some o → h.get? b = some o) → Ph 0 h)
  (stay : ∀ i h h', Ph i h → (∀ b o, b ≠ s.heap.objs.size + 1 → h.get? b = some o → h'.get? b = some o) → Ph i h')
  (step : ∀ (A' : Around) (i : Nat) (v : Value) (s1 : Shared) (Q : Bool → Shared → Prop) (E1 : Value → Shared → Prop), A'.handled = none → A'.units ≤ A.units + 8 → items[i]? = some v → Ph i s1.heap → (∀ b h' tk, Heap.SameBut s.heap.objs.size s1.heap h' → s1.toks ≤ tk → Ph (i + 1) h' → Q b { s1 with heap := h', toks := tk }) → wpAny (model prog w) A' (setAdd s.heap.objs.size v) Q E1 s1)
  (hq : ∀ h' tk, Ph items.size h' → (∀ b o, s.heap.get? b = some o → h'.get? b = some o) → Q (.ref s.heap.objs.size) { s with heap := h', toks := tk }) :
  wpAny (model prog w) A (call (.type "set") [.ref l]) Q E s := by
 have TC := PySem.F.called_set
 obtain ⟨c, tl, hmro⟩ := TC.mro
 have hmade := TC.made
 have hsub := TC.sub
 have hnt := TC.notType
 have hcc := TC.canCreate
 have hct := PySem.F.typeCall_set_1 (.ref l)
 refine wpAny_call (codeAny_of_tree (wpAny_pure ⟨Code.quiet_builtin _ Yv, codeAny_builtin PySem.F.entry_type_call ?_⟩))
 rw [Around.under_plain (weight_type_call_type "set" [.ref l] []) rfl]
 repeat (any_goals (first | assumption | wp_step))
 refine codeAny_mono (code_set_new_1 (.ref l) (E := E) (Q₁ := fun obj s₁ => ∃ led : Bool, obj = .ref s.heap.objs.size ∧ s₁ = { s with heap := s.heap.push (zcg led) }) fun led => ⟨led, rfl, rfl⟩) fun r s₁ hr => ?_
 rcases r with e | fl
 ·exact hr
 cases fl with
 | ret obj =>
  obtain ⟨led, rfl, rfl⟩ := hr
  have gS : (s.heap.push (zcg led)).get? s.heap.objs.size = some (zcg led) := Heap.get?_push_size _ rfl
  have tS : Shared.TypeIs { s with heap := s.heap.push (zcg led) } (.ref s.heap.objs.size) "set" := ⟨_, gS, rfl⟩
  have hli := TC.init.lookup
  have hbi := TC.init.bind (.ref s.heap.objs.size)
  have lS : l < s.heap.objs.size := let ⟨_, q, _⟩ := hl; Heap.lt_size q
  have zS : (s.heap.push (zcg led)).objs.size = s.heap.objs.size + 1 := Heap.size_push ..
  repeat (any_goals (first | assumption | wp_step))
  refine codeAny_mono (codeAny_call_builtin (R := wants (fun r s₂ => r = .none ∧ ∃ h' tk, s₂ = { s with heap := h', toks := tk } ∧ Ph items.size h' ∧ ∀ b o, s.heap.get? b = some o → h'.get? b = some o) E) TC.init.plain PySem.F.entry_set_init (check_set_init_1 tS ?_)) fun r₂ s₂ hr₂ => ?_
  ·have hl1 : (s.heap.push (zcg led)).IsList l items := hl.push _
   obtain ⟨ol, hol, hcl, nl, hdl⟩ := id hl1
   have t1 : Shared.TypeIs { s with heap := s.heap.push (zcg led) } (.ref l) "list" := ⟨ol, hol, hcl⟩
   have hsls := PySem.F.sub_list_set
   have hslf := PySem.F.sub_list_frozenset
   have hne : (Value.type "list" == Value.type "dict") = false := by decide
   obtain ⟨ocls, odict, odata, oslots⟩ := ol
   simp only at hcl hdl
   subst hcl hdl
   unfold Builtin.«set.__init__» noKeywords Builtin.Frozenset.updateFrom
   generalize hPI : pyIter = PI
   wp_walk
   subst hPI
   refine wpAny_pyIter_list hl1 (wpAny_bind (wpAny_runValue ?_))
   refine addAll (A := A.in1.in1) (S := s.heap.objs.size) (I := (s.heap.push (zcg led)).objs.size) (l := l) (items := items) (by simp [hh]) (by rw [zS]; exact Nat.ne_of_lt (Nat.lt_succ_of_lt lS)) (by rw [zS]; exact Nat.ne_of_lt Ye7) (Nat.ne_of_gt lS) Ph (fun i h h' p k => stay i h h' p fun b o hb q => k b o (by rw [zS]; exact hb) q) (fun i v s1 Q1 E1 hv p k => step _ i v s1 Q1 E1 (by simp [hh]) (by simp only [Around.in1_units]; omega) hv p k) _ 0 _ rfl (Nat.zero_le _) ?_ ?_ ?_
   ·exact ⟨⟨_, Heap.get?_push_size _ rfl, rfl, rfl⟩, hl1.push _⟩
   ·exact base led _ (Heap.get?_push_of_some _ gS) fun b o q => Heap.get?_push_of_some _ (Heap.get?_push_of_some _ q)
   ·intro s' hm ph
    obtain ⟨h', g', d', tk', os'⟩ := s'
    obtain rfl : g' = s.gens := hm.gens
    obtain rfl : d' = s.drawn := hm.drawn
    obtain rfl : os' = s.os := hm.os
    show wpAny _ _ _ _ _ _
    refine wpAny_pure ?_
    show wpAny _ _ (ret Value.none) _ _ _
    refine wpAny_pure ⟨rfl, h', tk', rfl, ph, fun b o q => ?_⟩
    have hb := Heap.lt_size q
    refine hm.heap b o (fun z => ?_) (Heap.get?_push_of_some _ (Heap.get?_push_of_some _ q))
    simp only [List.mem_cons, List.not_mem_nil, or_false, zS] at z
    rcases z with z | z
    ·rw [z] at hb; exact Nat.lt_irrefl _ hb
    ·rw [z] at hb; exact Nat.lt_irrefl _ (Nat.lt_trans Ye7 hb)
  ·rcases r₂ with e | fl₂
   ·exact hr₂
   cases fl₂ with
   | ret r =>
    obtain ⟨rfl, h', tk, rfl, ph, k⟩ := hr₂
    repeat (any_goals (first | assumption | wp_step))
    exact hq h' tk ph k
   | _ => exact hr₂.elim
 | _ => exact hr.elim
end
def memK (k : Key) (l : List Key) : Bool := l.any fun j => decide (k = j)
def addK (acc : List Key) (k : Key) : List Key := if memK k acc = true then acc else acc ++ [k]
/-- each once, where it first comes -/
def zcd (ks : List Key) : List Key := ks.foldl addK []
theorem addK_mem {acc : List Key} {k j : Key} : memK j (addK acc k) = (memK j acc || decide (j = k)) := by
 unfold addK
 split
 ·rename_i h
  by_cases e : j = k
  ·subst e
   rw [h, Bool.true_or]
  ·simp [e]
 ·simp [memK]
theorem addK_len {acc : List Key} {k : Key} : (addK acc k).length = if memK k acc = true then acc.length else acc.length + 1 := by
 unfold addK
 split <;> simp
theorem onceK_snoc (ks : List Key) (k : Key) : zcd (ks ++ [k]) = addK (zcd ks) k := by simp [zcd, List.foldl_append]
theorem onceK_le : ∀ (ks acc : List Key), (ks.foldl addK acc).length ≤ acc.length + ks.length
 | [], acc => by simp
 | k :: r, acc => by
  have h := onceK_le r (addK acc k)
  have h2 : (addK acc k).length ≤ acc.length + 1 := by rw [addK_len]; split <;> omega
  simp only [List.foldl_cons, List.length_cons]
  omega
section
variable {X : Cx}
/-- the set behind the first i -/
def PhK (P : Program) (w : World) (S : Addr) (ks : List Key) (i : Nat) (h : Heap) : Prop := h.SetOf (mixKind P w) S (fun k => memK k (zcd (ks.take i))) (zcd (ks.take i)).length
def tLenSetK (K : PySem.W.Frag) (ta : TE) : TE := fun σ H Q => ta σ H fun x H1 => ∃ (l : Addr) (ks : List Key), x = .ref l ∧ SqL K H1 l (ks.map kV) ∧ ks.length ≤ 4000 ∧ Q (.int Ycj) H1
theorem pe_lenSetK {a : Expr} {ta : TE} {p p2 q pos : Pos} (hc : X.calm = true) (hg : Gl X "len") (hm : X.mg "len" = none) (hg2 : Gl X "set") (hm2 : X.mg "set" = none) (ha : PE X a ta)
  (na : starEach [a] X.env = (false, eval a X.env) :: starEach [] X.env := by rfl) : PE X Yaw (tLenSetK X.K ta) := ⟨fun pins s σ H Q I h => by
 refine Call_ (ld_blt I hg hm boot_len (callWith_builtin1 (args_cons (Call_ (ld_blt I hg2 hm2 boot_set (callWith_type1 (args_cons (thn (ha.run pins s σ H _ I h) ?_) na) na rfl))) rfl) rfl rfl))
 rintro v s1 ⟨x, H1, I1, r1, l, ks, rfl, hq, hz, q1⟩
 cases r1
 obtain ⟨its, rv, pl, _⟩ := I1.list hq
 have hn : its.length = ks.length := by rw [← rv.length, List.length_map]
 refine args_nil (call_setL (items := its.toArray) (I1.ok.hd hc) pl.isList (PhK X.prog X.w s1.heap.objs.size ks) ?_ ?_ ?_ ?_)
 ·intro led h g k
  refine ⟨_, #[], 0, _, g, ⟨rfl, rfl, rfl⟩, rfl, (fun e he => by simp at he), (fun k => by simp [zcd, memK]), by simp [scanBound], rfl, ?_⟩
  simp [zcd]
 ·rintro i h h' ⟨o, es, ep, t, ho, r⟩ k
  exact ⟨o, es, ep, t, k _ _ (Nat.ne_of_lt Ye7) ho, r⟩
 ·intro A' i v s2 Q2 E2 hA _ hv ph k
  have hi : i < ks.length := by
   have := (Array.getElem?_eq_some_iff.mp hv).1
   simpa [hn] using this
  have hk : ks.take (i + 1) = ks.take i ++ [ks[i]] := by rw [List.take_succ_eq_append_getElem hi]
  have rv2 : RelV (kV ks[i]) v := by
   obtain ⟨u, e1, e2⟩ := Vals.get rv (i := i) (x := kV ks[i]) (by rw [List.getElem?_map, List.getElem?_eq_getElem hi]; rfl)
   have e3 : its[i]? = some v := by simpa using hv
   rw [e3] at e1
   cases e1
   exact e2
  unfold setAdd
  refine wpAny_holding (wpAny_bind ((mixKind X.prog X.w).pyHash (k := ks[i]) (kV_is rv2) ?_))
  have hroom : (zcd (ks.take i)).length + 1 < scanBound := by
   have := onceK_le (ks.take i) []
   have e : (ks.take i).length ≤ ks.length := by rw [List.length_take]; omega
   simp only [List.length_nil, scanBound] at *
   unfold zcd
   omega
  refine wpAny_setAddHashed_of (knd := mixKind X.prog X.w) (s := { s2 with toks := s2.toks + 1 }) (kV_is rv2) (key_scan rv2) ph hroom fun h' sb hS => ?_
  refine k _ h' _ sb (Nat.le_succ _) ?_
  have e1 : (fun j => memK j (zcd (ks.take i)) || decide (j = ks[i])) = fun j => memK j (zcd (ks.take (i + 1))) := funext fun j => by rw [hk, onceK_snoc, addK_mem]
  have e2 : (if memK ks[i] (zcd (ks.take i)) = true then (zcd (ks.take i)).length else (zcd (ks.take i)).length + 1) = (zcd (ks.take (i + 1))).length := by rw [hk, onceK_snoc, addK_len]
  rw [e1, e2] at hS
  exact hS
 ·intro h' tk ph k
  have I2 : Inv X pins σ H1 { s1 with heap := h', toks := tk } := I1.kept k
  obtain ⟨o, es, ep, t, ho, hex, hd, _, _, hb, hf, hn2⟩ := ph
  rw [List.take_of_length_le (by simp [hn])] at hn2
  exact args_nil (call_len_set ho hex hd hf (by have : es.size < 4096 := hb; omega) ⟨.int Ycj, H1, I2.tok _, ⟨_, by rw [hn2]⟩, q1⟩)⟩
end
/-- texts and ints as keys -/
def keysOf : List W → Option (List Key)
 | [] => some []
 | .t (.str x) :: r => (keysOf r).map (Sum.inr x :: ·)
 | .t (.int x) :: r => (keysOf r).map (Sum.inl x :: ·)
 | _ => none
def mLenSet (F : M W) : M W := fun eta hp => (F eta hp).bind fun w h => match (litems h w).bind keysOf with
 | some ks => if ks.length ≤ 4000 then .ok (.t (.int Ycj)) h else .bad
 | none => .bad
section
variable {X : Cx} {Wx : WX} {a : Expr} {F : M W} {p p2 q pos : Pos}
theorem keys_rw {K : PySem.W.Frag} {s : S4} : ∀ {ws : List W} {vs : List V} {ks : List Key}, keysOf ws = some ks → RwL K s ws vs → vs = ks.map kV := by
 intro ws
 induction ws with
 | nil =>
  intro vs ks h r
  simp only [keysOf, Option.some.injEq] at h
  subst h
  exact r
 | cons w ws ih =>
  intro vs ks h r
  obtain ⟨v, t, e, a, b⟩ := r
  unfold keysOf at h
  split at h
  ·rename_i e2
   cases e2
  ·rename_i x r' e2
   cases e2
   obtain ⟨zs, h1, h2⟩ := Option.map_eq_some_iff.mp h
   simp only [Rw, Rf] at a
   rw [← h2, e, a, ih h1 b]
   rfl
  ·rename_i x r' e2
   cases e2
   obtain ⟨zs, h1, h2⟩ := Option.map_eq_some_iff.mp h
   simp only [Rw, Rf] at a
   rw [← h2, e, a, ih h1 b]
   rfl
  ·cases h
theorem ie_lenSet (hc : X.calm = true) (hm : X.mg "len" = none) (hm2 : X.mg "set" = none) (ha : IE X Wx a F) (hg : Gl X "len" := by rfl) (hg2 : Gl X "set" := by rfl)
  (na : starEach [a] X.env = (false, eval a X.env) :: starEach [] X.env := by rfl) : IE X Wx Yaw (mLenSet F) :=
 PE.imp (pe_lenSetK hc hg hm hg2 hm2 ha na) fun σ H Q h =>
  tM.bind1 (R := fun (x : V) (H1 : Hp) => ∃ (l : Addr) (ks : List Key), x = .ref l ∧ SqL X.K H1 l (ks.map kV) ∧ ks.length ≤ 4000 ∧ Q (.int Ycj) H1)
   (k := fun (w : W) _ h => match (litems h w).bind keysOf with | some ks => (if ks.length ≤ 4000 then .ok (.t (.int Ycj)) h else .bad : Res W) | none => .bad) h fun s eta w v R1 S1 f1 g => by
   split at g
   ·rename_i ks hk
    split at g
    ·rename_i hz
     obtain ⟨ws, h1, h2⟩ := Option.bind_eq_some_iff.mp hk
     obtain ⟨l, xs, e, sq, rl⟩ := litems_sq R1 h1 f1
     subst e
     have ev := keys_rw h2 rl
     subst ev
     exact ⟨l, ks, rfl, sq, hz, g _ s rfl Yg R1 Ye⟩
    ·exact g.elim
   ·exact g.elim
end
section
variable {X : Cx} {Wx : WX} {x : Str} {pos : Pos}
theorem ie_globS {v : Str} {t : Tok} (hm : X.mg x = some (.str v t)) (hg : Gl X x := by rfl) (hd : (x == ("__debug__" : Str)) = false := by decide) : IE X Wx Yfr (mC (.str v)) :=
 ie_glob hg hm (v := .str v) ⟨_, rfl⟩ (fun s => by simp [Rw, Rf]) hd
/-- a tuple of texts -/
theorem ie_globT {a : Addr} {o : Obj} {us : List Value} {vs : List Str} {n : Nat} (hm : X.mg x = some (.ref a)) (hl : X.K.lookup a = some o) (hc : o.cls = .type "tuple") (hdn : o.dict = none) (hd : o.data = .seq us.toArray n) (hr : Vals (vs.map V.str) us) (hz : us.length ≤ 1000) (hg : Gl X x := by rfl) (hdb : (x == ("__debug__" : Str)) = false := by decide) : IE X Wx Yfr (mC (.tup (vs.map T.str))) :=
 ie_glob hg hm (v := .ref a) rfl (fun s => by
  simp only [Rw, Rf]
  exact ⟨a, vs.map V.str, rfl, .inr ⟨o, us.toArray, n, hl, hc, hdn, hd, by rw [sizeLine_eq, List.size_toArray]; omega, by simpa using hr⟩, strs_rf vs⟩) hdb
/-- an own class -/
theorem ie_cls {c : Str} {C : Addr} (cn : CN X.K c C) (hm : X.mg x = some (.ref C)) (hg : Gl X x := by rfl) (hdb : (x == ("__debug__" : Str)) = false := by decide) : IE X Wx Yfr (mC (.cls c)) :=
 ie_glob hg hm (v := .ref C) rfl (fun s => by
  simp only [Rw, Rf]
  exact ⟨C, rfl, cn⟩) hdb
/-- a built-in type -/
theorem ie_ty {n : String} (hm : X.mg x = none) (hb : bootBuiltins x = some (.type n)) (hg : Gl X x := by rfl) (hn : x ≠ "__name__" := by decide) (hdb : (x == ("__debug__" : Str)) = false := by decide) : IE X Wx Yfr (mC (.ty n)) := ⟨fun pins s σ H Q I h => by
 refine ld_blt I hg hm hb ⟨.ty n, H, I, rfl, ?_⟩ hn hdb
 obtain ⟨s0, eta, e1, R1, S1, g⟩ := h
 subst e1
 exact g _ s0 rfl (Aft.refl s0) R1 Ye⟩
end
structure ClsF (K : PySem.W.Frag) (mg : Str → Option Value) (c : Str) (C : Addr) : Prop where
 cn : CN K c C
 mg : mg c = some (.ref C)
 cl : Cls K C
structure XF (P : Program) (w : World) (K : PySem.W.Frag) (mg : Str → Option Value) (base : Heap) (c : Str) (C fI : Addr) (fd : FuncData) (ps : List Str) (fld : Str) : Prop where
 T : OexC K C
 iC : PySem.W.findIn K (.ref C) "__init__" = some (some (.ref fI))
 tI : PySem.W.typeIn K (.ref fI) = some Yfw
 cn : CN K c C
 ok : FnOk P w K mg base Yk 1 fI fd ps (spI C fld)
 hot : L2H.FnH P w K mg base Yk 1 fI fd ps (spI C fld)
 mg : mg c = some (.ref C)
 bd : Binds K fd ps []
 em : PySem.W.exmOne K (.ref C) (.ref C) = some true
def hitC (c : Str) : Str → Option Bool := fun x => if x = c then some true else none
section
variable {P : Program} {w : World} {K : PySem.W.Frag} {mg : Str → Option Value} {base : Heap} {c : Str} {C fI : Addr} {fd : FuncData} {ps : List Str} {fld : Str}
theorem XF.hit (x : XF P w K mg base c C fI fd ps fld) : HitOk K (.ref C) (hitC c) := fun c' C' b h n => by
 unfold hitC at h
 split at h
 ·rename_i e
  cases h
  subst e
  cases n.inj x.cn
  exact x.em
 ·cases h
theorem XF.sub (x : XF P w K mg base c C fI fd ps fld) : ∀ (c' : Str) (C' : Addr), hitC c c' = some true → CN K c' C' → PySem.W.subIn K (.ref C') Yfz = some true := fun c' C' h n => by
 unfold hitC at h
 split at h
 ·rename_i e
  subst e
  cases n.inj x.cn
  exact x.T.exC
 ·cases h
theorem takes_nox {X : Cx} : L2.Takes X.nox W0 := fun u s' x => by
 obtain ⟨_, _, _, _, _, _, _, _, _, _, _, _, _, _, _, _, f⟩ := x
 exact f.elim
end
/-- int(text) -/
def oIntS : OpN := fun ws hp => match ws with
 | [.t (.str a)] => (match PySem.intText? a with | some n => if a.length ≤ 640 then .ok (.t (.int n)) hp else .bad | none => .bad)
 | _ => .bad
theorem ok_intS {K : PySem.W.Frag} {ω : World} {Wx : WX} : OpNOk K ω Wx oIntS (fun xs H Q => ∃ a n, xs = [.str a] ∧ PySem.intText? a = some n ∧ a.length ≤ 640 ∧ Q (.int n) H) := by
 intro s ws xs Q R r go
 unfold oIntS at go
 split at go
 ·obtain ⟨v, e, rv⟩ := RwL.one r
  simp only [Rw, Rf] at rv
  subst rv e
  split at go
  ·rename_i n hn
   split at go
   ·rename_i hz
    exact ⟨_, n, rfl, hn, hz, go _ s rfl Yg R Ye⟩
   ·exact go.elim
  ·exact go.elim
 ·exact go.elim
end Mir
namespace Mir
open PySem PySem.Spec L2
open PyProof.Rows hiding St
end Mir
namespace Mir
open PySem PySem.Spec L2
open PyProof.Rows hiding St
end Mir
namespace Mir
open PySem PySem.Spec L2
open PyProof.Rows hiding St
end Mir
namespace Mir
open PySem PySem.Spec L2
open PyProof.Rows hiding St
section
variable {P : Program} {w : World} {A : Around} {E : Value → Shared → Prop} {s : Shared}
abbrev hK (P : Program) (w : World) (k : List Key) : Int := tupleKeyHash (mixKind P w) k
abbrev IsK (P : Program) (w : World) (h : Heap) (k : List Key) (a : Addr) : Prop := IsTupleKey (mixKind P w) h k a
/-- an int or a text: no class statement of its own, its hash asked for without a step -/
def Leaf (v : Value) : Prop := (∀ n, ofAClassStatement n v = pure false) ∧ ∃ b, ∀ n, hashByValue n v = pure b
theorem leaf_key {k : Key} {v : Value} (h : keyIs k v = true) : Leaf v := by
 rcases keyIs_shape h with ⟨i, t, _, rfl⟩ | ⟨x, t, _, rfl⟩
 ·exact ⟨fun n => by cases n <;> rfl, true, fun n => by cases n <;> rfl⟩
 ·exact ⟨fun n => by cases n <;> rfl, false, fun n => by cases n <;> rfl⟩
theorem leaves {k : List Key} {vs : List Value} (h : ItemsAre (mixKind P w) k vs) : ∀ v ∈ vs, Leaf v := by
 induction h with
 | nil => intro v hv; cases hv
 | cons h1 _ ih =>
  intro v hv
  rcases List.mem_cons.mp hv with rfl | hv
  ·exact leaf_key h1
  ·exact ih v hv
theorem plain_class {k : List Key} {b : Addr} {Q : Bool → Shared → Prop} (hk : IsK P w s.heap k b) (h : Q false s) : wpAny Ybt A (ofAClassStatement 8 (.ref b)) Q E s := by
 have ty := hk.typeIs
 obtain ⟨o, its, n, g, _, dat, it⟩ := hk
 have lv := leaves it
 unfold ofAClassStatement
 refine wpAny_bind (wpAny_typeOf ty ?_)
 have e : (("tuple" : String) == "tuple") = true := by decide
 simp only [e, if_true, Bool.not_true, Bool.false_eq_true, if_false]
 show wpAny _ _ (seqItems? (.ref b) >>= _) _ _ s
 refine wpAny_bind (wpAny_seqItems g dat (wpAny_bind ?_))
 show wpAny _ _ (forIn its _ _) _ _ s
 rw [← Array.forIn_toList]
 refine wpAny_forIn_list _ (fun l r z => r.1 = none ∧ z = s ∧ ∀ v ∈ l, Leaf v) _ ?_ ?_ _ _ ⟨rfl, rfl, lv⟩
 ·rintro v l r z ⟨h1, rfl, all⟩
  rw [(all v List.mem_cons_self).1]
  refine wpAny_bind (wpAny_pure ?_)
  simp only [Bool.false_eq_true, if_false]
  exact wpAny_pure ⟨rfl, rfl, fun u hu => all u Ydc⟩
 ·rintro ⟨r1, r2⟩ z ⟨h1, rfl, _⟩
  cases h1
  exact wpAny_pure h
theorem plain_hash {k : List Key} {b : Addr} {Q : Bool → Shared → Prop} (hk : IsK P w s.heap k b) (h : ∀ b, Q b s) : wpAny Ybt A (hashByValue 8 (.ref b)) Q E s := by
 have ty := hk.typeIs
 obtain ⟨o, its, n, g, _, dat, it⟩ := hk
 have lv := leaves it
 unfold hashByValue
 refine wpAny_bind (wpAny_specialOf ty F.slot_tuple_hash.lookup ?_)
 show wpAny _ _ (seqItems? (.ref b) >>= _) _ _ s
 refine wpAny_bind (wpAny_seqItems g dat (wpAny_bind ?_))
 show wpAny _ _ (forIn its _ _) _ _ s
 rw [← Array.forIn_toList]
 refine wpAny_forIn_list _ (fun l r z => r.1 = none ∧ z = s ∧ ∀ v ∈ l, Leaf v) _ ?_ ?_ _ _ ⟨rfl, rfl, lv⟩
 ·rintro v l r z ⟨h1, rfl, all⟩
  obtain ⟨c, hc⟩ := (all v List.mem_cons_self).2
  rw [hc]
  refine wpAny_bind (wpAny_pure ?_)
  cases c with
  | true =>
   simp only [Bool.not_true, Bool.false_eq_true, if_false]
   exact wpAny_pure ⟨rfl, rfl, fun u hu => all u Ydc⟩
  | false =>
   simp only [Bool.not_false, if_true]
   exact wpAny_pure (wpAny_pure (h false))
 ·rintro ⟨r1, r2⟩ z ⟨h1, rfl, _⟩
  cases h1
  exact wpAny_pure (h true)
/-- looking among such tuples shows nothing of the table -/
theorem unseen {k : List Key} {b : Addr} {Q : Bool → Shared → Prop} (hk : IsK P w s.heap k b) {ys : List Value} (hy : ∀ y ∈ ys, ∃ k' c, y = Value.ref c ∧ IsK P w s.heap k' c) (h : Q false s) :
  wpAny Ybt A (searchCouldBeSeen (.ref b) ys) Q E s := by
 unfold searchCouldBeSeen
 refine wpAny_bind (wpAny_forIn_list _ (fun l r z => r.1 = none ∧ z = s ∧ ∀ y ∈ l, ∃ k' c, y = Value.ref c ∧ IsK P w s.heap k' c) _ ?_ ?_ _ _ ⟨rfl, rfl, hy⟩)
 ·rintro v l r z ⟨h1, rfl, all⟩
  obtain ⟨k', c, rfl, hc⟩ := all v List.mem_cons_self
  have all' := fun u hu => all u Ydc
  dsimp only
  by_cases q : (b == c || (carriedByValue (.ref b) && carriedByValue (.ref c))) = true
  ·exact wp_if_pos q (wpAny_pure ⟨rfl, rfl, all'⟩)
  ·refine wp_if_neg q (wpAny_bind (wpAny_eqIsQuiet_tuple hk ?_))
   simp only [Bool.not_true, Bool.false_eq_true, if_false]
   refine wpAny_bind (wpAny_eqIsQuiet_tuple hc ?_)
   simp only [Bool.not_true, Bool.false_eq_true, if_false]
   refine wpAny_bind (plain_class hk ?_)
   simp only [Bool.false_eq_true, if_false]
   refine wpAny_bind (plain_class hc ?_)
   simp only [Bool.false_eq_true, if_false]
   exact wpAny_pure ⟨rfl, rfl, all'⟩
 ·rintro ⟨r1, r2⟩ z ⟨h1, rfl, _⟩
  cases h1
  exact wpAny_pure h
/-- at a stands the set of the tuples L, with room to spare -/
structure SetM (P : Program) (w : World) (h : Heap) (a : Addr) (L : List Ya6) (es : Array Yfc) (ep : Nat) (t : SetTable) : Prop where
 ob : ∃ o, h.get? a = some o ∧ o.ExactSet ∧ o.data = .set es ep t
 rows : es.toList = L.map fun p => (hK P w p.2, Value.ref p.1)
 tab : TabOk t (L.map fun p => hK P w p.2)
 nd : (L.map (·.2)).Nodup
 tup : ∀ p ∈ L, IsK P w h p.2 p.1
 m7 : t.mask = 7
 few : L.length ≤ 4
variable {a : Addr} {L : List Ya6} {es : Array Yfc} {ep : Nat} {t : SetTable}
theorem SetM.size (R : SetM P w s.heap a L es ep t) : es.size = L.length := by
 rw [← Array.length_toList, R.rows, List.length_map]
theorem SetM.psize (R : SetM P w s.heap a L es ep t) : t.place.size = L.length := by rw [R.tab.sz, List.length_map]
theorem SetM.fits (R : SetM P w s.heap a L es ep t) : t.fits es.size = true := by
 have h1 := R.psize
 have h2 := R.size
 have h3 := R.few
 unfold SetTable.fits SetTable.fill
 rw [R.tab.dm, Bool.and_eq_true, beq_iff_eq, decide_eq_true_eq, R.m7]
 show t.place.size = es.size ∧ t.place.size + 0 ≤ 7
 omega
theorem SetM.at_ (R : SetM P w s.heap a L es ep t) {i : Nat} {p : Addr × List Key} (h : L[i]? = some p) : es[i]? = some (hK P w p.2, Value.ref p.1) := by
 rw [← Array.getElem?_toList, R.rows, List.getElem?_map, h]
 rfl
theorem nth_dummy {m : Nat} : ∀ (n : Nat) (p : SetTable.Probe), p.dummy = none → (nth m p n).dummy = none
 | 0, _, h => h
 | n + 1, p, h => by
  refine nth_dummy n (adv m p) ?_
  unfold adv
  split <;> exact h
end
section
variable {P : Program} {w : World} {A : Around} {E : Value → Shared → Prop} {s : Shared} {a : Addr} {L : List Ya6} {es : Array Yfc} {ep : Nat} {t : SetTable}
theorem isK_but {h h' : Heap} {k : List Key} {b : Addr} {o : Obj} (hb : IsK P w h k b) (ho : h.get? a = some o) (hd : o.data = .set es ep t) (hs : Heap.SameBut a h h') : IsK P w h' k b := by
 obtain ⟨o', its, n, g, c, d, it⟩ := hb
 have ne : b ≠ a := by
  rintro rfl
  rw [ho] at g
  cases g
  rw [hd] at d
  cases d
 exact ⟨o', its, n, (hs.2 b ne).trans g, c, d, it⟩
end
def memT (k : List Key) (l : List (List Key)) : Bool := l.any fun j => decide (j = k)
theorem memT_iff {k : List Key} {l : List (List Key)} : memT k l = true ↔ k ∈ l := by simp [memT]
def zc9 (ks : List (List Key)) : List (List Key) := ks.foldl Ya0 []
theorem onceT_snoc (ks : List (List Key)) (k : List Key) : zc9 (ks ++ [k]) = if memT k (zc9 ks) = true then zc9 ks else zc9 ks ++ [k] := by
 unfold zc9
 rw [List.foldl_append]
 rfl
theorem onceT_le : ∀ (ks acc : List (List Key)), (ks.foldl Ya0 acc).length ≤ acc.length + ks.length
 | [], acc => by simp
 | k :: r, acc => by
  have h := onceT_le r (if memT k acc = true then acc else acc ++ [k])
  have h2 : (if memT k acc = true then acc else acc ++ [k]).length ≤ acc.length + 1 := by split <;> simp
  simp only [List.foldl_cons, List.length_cons]
  omega
def tupsT : List T → Option (List (List Key))
 | [] => some []
 | .tup xs :: r => match keysT xs, tupsT r with
  | some k, some ks => some (k :: ks)
  | _, _ => none
 | _ => none
section
variable {X : Cx} {Wx : WX} {a : Expr} {F : M W} {p p2 q pos : Pos}
theorem tups_rf {K : PySem.W.Frag} {fz : Addr → Prop} {H : Hp} : ∀ {ts : List T} {vs : List V} {ks : List (List Key)}, tupsT ts = some ks → RfL K fz H ts vs → ∃ es : List Ya6, vs = (es.map (·.1)).map V.ref ∧ es.map (·.2) = ks ∧ ∀ e ∈ es, SqT K H e.1 (e.2.map kV)
 | [], vs, ks, h, r => by
  simp only [tupsT, Option.some.injEq] at h
  simp only [RfL] at r
  exact ⟨[], r, h, fun e he => by simp at he⟩
 | t :: ts, vs, ks, h, r => by
  unfold tupsT at h
  split at h
  ·rename_i e; cases e
  ·rename_i xs r' e
   cases e
   split at h
   ·rename_i k ks' h1 h2
    cases h
    simp only [RfL, Rf] at r
    obtain ⟨v, r', rfl, ⟨b, us, rfl, ft, l⟩, rr⟩ := r
    obtain ⟨es, e1, e2, e3⟩ := tups_rf h2 rr
    have eu := keys_rf h1 l
    subst eu
    refine ⟨(b, k) :: es, by rw [e1]; rfl, by rw [← e2]; rfl, fun e he => ?_⟩
    rcases List.mem_cons.mp he with rfl | he
    ·exact ft.sq
    ·exact e3 e he
   ·cases h
  ·cases h
end
end Mir
namespace Mir
open PySem PySem.Spec L2
open PyProof.Rows hiding St
end Mir
namespace Mir
open PySem PySem.Spec L2
open PyProof.Rows hiding St
def slL (a : W) (lo hi : Option Int) (hp : IH) : Res W := match litems hp a with
 | some ws => .ok Ycm (hp ++ [some (.lst (cutL ws lo hi))])
 | none => .bad
def mSlL (Fa : M W) (Fl Fh : MO) : M W := fun eta hp => (Fa eta hp).bind fun a h1 => (Fl eta h1).bind fun l h2 => (Fh eta h2).bind fun h h3 => slL a l h h3
end Mir
namespace Mir
open PySem PySem.Spec L2
open PyProof.Rows hiding St
end Mir
namespace Mir
open PySem PySem.Spec L2
open PyProof.Rows hiding St
end Mir
namespace Mir
open PySem PySem.Spec L2
open PyProof.Rows hiding St
/-- the lists that live -/
def LiveL (s : S4) (a : Addr) : Prop := ∃ (i : Nat) (ws : List W), getL s.hp i = some ws ∧ s.rho[i]? = some a
section
variable {K : PySem.W.Frag} {ω : World} {s s2 : S4}
theorem LiveL.live {a : Addr} (h : LiveL s a) : Live s a := by
 obtain ⟨i, ws, g, r⟩ := h
 exact ⟨i, _, ⟨zbs g, True.intro⟩, r⟩
theorem LiveL.H (R : Rel K ω s) {a : Addr} (h : LiveL s a) : ∃ vs, s.H a = some (.lst vs) := by
 obtain ⟨i, ws, g, r⟩ := h
 obtain ⟨vs, e, _⟩ := R.cell i _ a (zbs g) r
 exact ⟨vs, e⟩
theorem Live.some (R : Rel K ω s) {a : Addr} (h : Live s a) : s.H a ≠ none := by
 obtain ⟨i, c, g, r⟩ := h
 exact R.trk a (List.mem_of_getElem? r)
end
end Mir
namespace Mir
open PySem PySem.Spec L2
open PyProof.Rows hiding St
end Mir
namespace Mir
open PySem PySem.Spec L2
open PyProof.Rows hiding St
section
variable {P : Program} {w : World}
/-- the set of the texts ks at a; its table can be walked -/
def SetS (P : Program) (w : World) (h : Heap) (a : Addr) (ks : List Str) : Prop :=
 ks.Nodup ∧ ∃ D : PySem.Froz.SD, h.get? a = some (PySem.Froz.sObj "set" D) ∧ PySem.Froz.TxOk P w D ks ∧ Ris D.2.2.place.toList ∧ (w.params.followText "set-order" = true ∨ D.2.2.led = true)
theorem SetS.at {h h' : Heap} {a : Addr} {ks : List Str} (z : SetS P w h a ks) (k : ∀ o, h.get? a = some o → h'.get? a = some o) : SetS P w h' a ks := by
 obtain ⟨nd, D, g, r⟩ := z
 exact ⟨nd, D, k _ g, r⟩
variable {A : Around} {E : Value → Shared → Prop} {s : Shared}
end
end Mir
namespace Mir
open PySem PySem.Spec L2
open PyProof.Rows hiding St
end Mir
namespace Mir
open PySem PySem.Spec L2
open PyProof.Rows hiding St
end Mir
namespace Mir
open PySem PySem.Spec L2
open PyProof.Rows hiding St
abbrev bare (kvs : List Ydr) : List Yey := kvs.map fun p => (Str.empty, p.2)
section
variable {K : PySem.W.Frag} {ω : World}
theorem RwK.bare {s : S4} : ∀ {ks : List (Key × W)} {vs : List (Key × V)}, RwK K s ks vs → RwF K s (bare ks) (vs.map fun p => (Str.empty, p.2))
 | [], _, h => by rw [show _ = [] from h]; rfl
 | x :: ks, vs, h => by
  obtain ⟨v, r, rfl, a, b⟩ := h
  exact ⟨v, _, rfl, a, RwK.bare b⟩
end
end Mir
namespace Mir
open PySem PySem.Spec L2
open PyProof.Rows hiding St
end Mir
namespace Mir
open PySem PySem.Spec L2
open PyProof.Rows hiding St
def getT (hp : IH) (i : Nat) : Option (List (T × W)) := match hp[i]? with
 | some (some (.dit kvs)) => some kvs
 | _ => none
def valT (kvs : List (T × W)) (k : NestedKey) : Option W := (kvs.find? fun kv => decide (nkT kv.1 = some k)).map (·.2)
def putT (kvs : List (T × W)) (t : T) (k : NestedKey) (w : W) : List (T × W) :=
 if (kvs.any fun kv => decide (nkT kv.1 = some k)) = true then kvs.map (fun kv => if nkT kv.1 = some k then (kv.1, w) else kv) else kvs ++ [(t, w)]
theorem getT_eq {hp : IH} {i : Nat} {ws : List (T × W)} (h : getT hp i = some ws) : hp[i]? = some (some (.dit ws)) := by
 unfold getT at h
 split at h
 ·rename_i kvs e
  simp only [Option.some.injEq] at h
  rw [e, h]
 ·cases h
/-- what the entries hold at a key -/
def valN (xs : List Yz) (k : NestedKey) : Option V := (xs.find? fun x => decide (x.1 = k)).map (·.2.2)
def putN (xs : List Yz) (k : NestedKey) (a : Addr) (v : V) : List Yz :=
 if (xs.find? fun x => decide (x.1 = k)).isSome = true then xs.map (fun x => if x.1 = k then (x.1, x.2.1, v) else x) else xs ++ [(k, a, v)]
section
variable {K : PySem.W.Frag} {ω : World} {s : S4}
theorem RwD.length : ∀ {ws : List (T × W)} {vs : List (NestedKey × Addr × V)}, RwD K s ws vs → ws.length = vs.length
 | [], _, r => by rw [show _ = [] from r]; rfl
 | x :: ws, _, r => by
  obtain ⟨k, b, v, r', rfl, _, _, _, _, h⟩ := r
  simp [RwD.length h]
theorem RwD.val (k : NestedKey) : ∀ {ws : List (T × W)} {vs : List (NestedKey × Addr × V)} {w : W}, RwD K s ws vs → valT ws k = some w → ∃ v, valN vs k = some v ∧ Rw K s w v
 | [], _, _, _, h => by simp [valT] at h
 | x :: ws, _, w, r, h => by
  obtain ⟨k', b, v, r', rfl, h1, h2, h3, h4, h5⟩ := r
  by_cases q : k' = k
  ·subst q
   have : x.2 = w := by simpa [valT, List.find?_cons, h1] using h
   exact ⟨v, by simp [valN, List.find?_cons], this ▸ h4⟩
  ·have h' : valT ws k = some w := by simpa [valT, List.find?_cons, h1, q] using h
   obtain ⟨u, e1, e2⟩ := RwD.val k h5 h'
   exact ⟨u, by simpa [valN, List.find?_cons, q] using e1, e2⟩
theorem RwD.no (k : NestedKey) : ∀ {ws : List (T × W)} {vs : List (NestedKey × Addr × V)}, RwD K s ws vs → valT ws k = none → valN vs k = none
 | [], _, r, _ => by rw [show _ = [] from r]; rfl
 | x :: ws, _, r, h => by
  obtain ⟨k', b, v, r', rfl, h1, h2, h3, h4, h5⟩ := r
  by_cases q : k' = k
  ·subst q
   simp [valT, List.find?_cons, h1] at h
  ·have h' : valT ws k = none := by simpa [valT, List.find?_cons, h1, q] using h
   have := RwD.no k h5 h'
   simpa [valN, List.find?_cons, q] using this
theorem RwD.any (k : NestedKey) : ∀ {ws : List (T × W)} {vs : List (NestedKey × Addr × V)}, RwD K s ws vs → (ws.any fun kv => decide (nkT kv.1 = some k)) = (vs.find? fun x => decide (x.1 = k)).isSome
 | [], _, r => by rw [show _ = [] from r]; rfl
 | x :: ws, _, r => by
  obtain ⟨k', b, v, r', rfl, h1, h2, h3, h4, h5⟩ := r
  by_cases q : k' = k
  ·subst q
   simp [h1, List.find?_cons]
  ·simp [h1, List.find?_cons, q, RwD.any k h5]
theorem RwD.mapPut (k : NestedKey) {w : W} {v : V} (rw_ : Rw K s w v) : ∀ {ws : List (T × W)} {vs : List (NestedKey × Addr × V)}, RwD K s ws vs → RwD K s (ws.map fun kv => if nkT kv.1 = some k then (kv.1, w) else kv) (vs.map fun x => if x.1 = k then (x.1, x.2.1, v) else x)
 | [], _, r => by rw [show _ = [] from r]; rfl
 | x :: ws, _, r => by
  obtain ⟨k', b, u, r', rfl, h1, h2, h3, h4, h5⟩ := r
  have ih := RwD.mapPut k rw_ h5
  simp only [List.map_cons, h1, Option.some.injEq]
  by_cases q : k' = k
  ·rw [if_pos q, if_pos q]
   exact ⟨k', b, v, _, rfl, h1, h2, h3, rw_, ih⟩
  ·rw [if_neg q, if_neg q]
   exact ⟨k', b, u, _, rfl, h1, h2, h3, h4, ih⟩
theorem RwD.snoc {t : T} {k : NestedKey} {b : Addr} {w : W} {v : V} (h1 : nkT t = some k) (h2 : k.depth ≤ 8) (h3 : Rf K s.fz s.H t (.ref b)) (h4 : Rw K s w v) : ∀ {ws : List (T × W)} {vs : List (NestedKey × Addr × V)}, RwD K s ws vs → RwD K s (ws ++ [(t, w)]) (vs ++ [(k, b, v)])
 | [], _, r => by
  rw [show _ = [] from r]
  exact ⟨k, b, v, [], rfl, h1, h2, h3, h4, rfl⟩
 | x :: ws, _, r => by
  obtain ⟨k', b', u, r', rfl, g1, g2, g3, g4, g5⟩ := r
  exact ⟨k', b', u, _, rfl, g1, g2, g3, g4, RwD.snoc h1 h2 h3 h4 g5⟩
theorem RwD.put {t : T} {k : NestedKey} {b : Addr} {w : W} {v : V} (h1 : nkT t = some k) (h2 : k.depth ≤ 8) (h3 : Rf K s.fz s.H t (.ref b)) (h4 : Rw K s w v) {ws : List (T × W)} {vs : List Yz} (r : RwD K s ws vs) : RwD K s (putT ws t k w) (putN vs k b v) := by
 unfold putT putN
 rw [r.any k]
 split
 ·exact r.mapPut k h4
 ·exact r.snoc h1 h2 h3 h4
/-- where a live dict lies -/
theorem Rel.dit (R : Rel K ω s) {i : Nat} {v : V} {ws : List (T × W)} (g : getT s.hp i = some ws) (r : Rw K s (.r i) v) : ∃ a xs, v = .ref a ∧ s.rho[i]? = some a ∧ s.H a = some (DitO ω a xs) ∧ RwD K s ws xs ∧ ¬ s.fz a := by
 obtain ⟨a, e1, e2⟩ := r
 obtain ⟨xs, h1, h2⟩ := R.cell i _ a (getT_eq g) e1
 exact ⟨a, xs, e2, e1, h1, h2, R.fz a ⟨i, _, ⟨getT_eq g, True.intro⟩, e1⟩⟩
end
abbrev RelN : List Yz → List Yay → Prop := Paired fun (p : NestedKey × Addr × V) (q : NestedKey × Addr × Value) => p.1 = q.1 ∧ p.2.1 = q.2.1 ∧ RelV p.2.2 q.2.2
theorem RelN.len {xs : List Yz} {ys : List Yay} (r : RelN xs ys) : xs.length = ys.length := Paired.length r
theorem RelN.val (k : NestedKey) {xs : List Yz} {ys : List Yay} (r : RelN xs ys) : RelO (valN xs k) ((atKey ys k).map (·.2)) := by
 induction r with
 | nil => exact True.intro
 | @cons p q ps qs h t ih =>
  obtain ⟨h1, h2, h3⟩ := h
  by_cases e : q.1 = k
  ·have e' : p.1 = k := h1.trans e
   simp only [valN, atKey, List.find?_cons, e, e', decide_true, Option.map_some]
   exact h3
  ·have e' : ¬ p.1 = k := fun z => e (h1 ▸ z)
   simp only [valN, atKey, List.find?_cons, e, e', decide_false]
   exact ih
theorem RelN.mapPut (k : NestedKey) {v : V} {u : Value} (rv : RelV v u) {xs : List Yz} {ys : List Yay} (r : RelN xs ys) : RelN (xs.map fun x => if x.1 = k then (x.1, x.2.1, v) else x) (ys.map (putAt k u)) := by
 induction r with
 | nil => exact .nil
 | @cons p q ps qs h t ih =>
  obtain ⟨h1, h2, h3⟩ := h
  simp only [List.map_cons]
  refine .cons ?_ ih
  unfold putAt
  by_cases e : q.1 = k
  ·rw [if_pos e, if_pos (h1.trans e)]
   exact ⟨h1, h2, rv⟩
  ·rw [if_neg e, if_neg (fun z => e (h1 ▸ z))]
   exact ⟨h1, h2, h3⟩
theorem RelN.snoc {k : NestedKey} {a : Addr} {v : V} {u : Value} (rv : RelV v u) {xs : List Yz} {ys : List Yay} (r : RelN xs ys) : RelN (xs ++ [(k, a, v)]) (ys ++ [(k, a, u)]) := by
 induction r with
 | nil => exact .cons ⟨rfl, rfl, rv⟩ .nil
 | cons h t ih => exact .cons h ih
theorem RelN.some (k : NestedKey) {xs : List Yz} {ys : List Yay} (r : RelN xs ys) : (xs.find? fun x => decide (x.1 = k)).isSome = (atKey ys k).isSome := by
 induction r with
 | nil => rfl
 | @cons p q ps qs h t ih =>
  by_cases e : q.1 = k
  ·have e' : p.1 = k := h.1.trans e
   simp [atKey, List.find?_cons, e, e']
  ·have e' : ¬ p.1 = k := fun z => e (h.1 ▸ z)
   simp only [atKey, List.find?_cons, e, e', decide_false] at ih ⊢
   exact ih
theorem RelN.put {k : NestedKey} {a : Addr} {v : V} {u : Value} (rv : RelV v u) {xs : List Yz} {ys : List Yay} (r : RelN xs ys) : RelN (putN xs k a v) (storedH ys k a u) := by
 unfold putN storedH
 rw [r.some k]
 split
 ·exact r.mapPut k rv
 ·exact r.snoc rv
end Mir
namespace Mir
open PySem PySem.Spec L2
open PyProof.Rows hiding St
section
variable {K : PySem.W.Frag} {ω : World} {s : S4}
theorem RwD.isSome (k : NestedKey) {ws : List (T × W)} {vs : List Yz} (r : RwD K s ws vs) : (valN vs k).isSome = (valT ws k).isSome := by
 cases h : valT ws k with
 | none => rw [r.no k h]; rfl
 | some w => obtain ⟨v, e, _⟩ := r.val k h; rw [e]; rfl
end
end Mir
namespace Mir
open PySem PySem.Spec L2
open PyProof.Rows hiding St
end Mir
namespace Mir
open PySem PySem.Spec L2
open PyProof.Rows hiding St
/-- str(o): an alternative for each class -/
structure StrAlt (X : Cx) (c : Str) (m : OpN) : Prop where
 ex : ∃ (C f : Addr) (fd : FuncData) (ps : List Str) (k n : Nat), CN X.K c C ∧ Meth X.K C "__str__" f ∧ FnG X.prog X.w X.K X.mg X.base Yft k f fd ps (spM X.K X.w m n) ∧ Room (k + 2) X.A ∧ Binds X.K fd ps [] ∧ ∀ ws hp, ws.length ≠ n → m ws hp = .bad
def AltsOk (X : Cx) : List (Str × OpN) → Prop
 | [] => True
 | p :: r => StrAlt X p.1 p.2 ∧ AltsOk X r
theorem AltsOk.get {X : Cx} : ∀ {alts : List (Str × OpN)} {p : Str × OpN}, AltsOk X alts → p ∈ alts → StrAlt X p.1 p.2
 | [], _, _, h => nomatch h
 | q :: r, p, ok, h => by
  rcases List.mem_cons.mp h with rfl | h
  ·exact ok.1
  ·exact AltsOk.get ok.2 h
end Mir
namespace Mir
open PySem PySem.Spec L2
open PyProof.Rows hiding St
end Mir
namespace Mir
open PySem PySem.Spec L2
open PyProof.Rows hiding St
end Mir
namespace Mir
open PySem PySem.Spec L2
open PyProof.Rows hiding St
end Mir
namespace Mir
open PySem PySem.Spec L2
open PyProof.Rows hiding St
end Mir
namespace Mir
open PySem PySem.Spec L2
open PyProof.Rows hiding St
end Mir
namespace Mir
open PySem PySem.Spec L2
open PyProof.Rows hiding St
/-- o == p: an alternative for each class -/
structure EqAlt (X : Cx) (c : Str) (m : OpN) : Prop where
 ex : ∃ (C f : Addr) (fd : FuncData) (ps : List Str) (k n : Nat), CN X.K c C ∧ Meth X.K C "__eq__" f ∧ FnG X.prog X.w X.K X.mg X.base Yft k f fd ps (spM X.K X.w m n) ∧ Room (k + 2) X.A ∧ Binds X.K fd ps [] ∧ (∀ ws hp, ws.length ≠ n → m ws hp = .bad) ∧
  PySem.W.findIn X.K (.ref C) "__ne__" = some (some (.builtin "object.__ne__")) ∧ PySem.W.mroIn X.K C (.type "object") = some true
def EqAlts (X : Cx) : List (Str × OpN) → Prop
 | [] => True
 | p :: r => EqAlt X p.1 p.2 ∧ EqAlts X r
theorem EqAlts.get {X : Cx} : ∀ {alts : List (Str × OpN)} {p : Str × OpN}, EqAlts X alts → p ∈ alts → EqAlt X p.1 p.2
 | [], _, _, h => nomatch h
 | q :: r, p, ok, h => by
  rcases List.mem_cons.mp h with rfl | h
  ·exact ok.1
  ·exact EqAlts.get ok.2 h
end Mir
namespace Mir
open PySem PySem.Spec L2
open PyProof.Rows hiding St
end Mir
namespace Mir
open PySem PySem.Spec L2
open PyProof.Rows hiding St
end Mir
namespace Mir
open PySem PySem.Spec L2
open PyProof.Rows hiding St
/-- o == p and o in (..): an alternative for each class -/
structure InAlt (X : Cx) (c : Str) (m : OpN) : Prop where
 ex : ∃ (C f : Addr) (fd : FuncData) (ps : List Str) (k n : Nat), CN X.K c C ∧ Meth X.K C "__eq__" f ∧ FnG X.prog X.w X.K X.mg X.base Yft k f fd ps (spM X.K X.w m n) ∧ Room (k + 4) X.A ∧ Binds X.K fd ps [] ∧ (∀ ws hp, ws.length ≠ n → m ws hp = .bad) ∧
  PySem.W.subIn X.K (.ref C) (.type "str") = some false ∧ PySem.W.subIn X.K (.ref C) (.type "tuple") = some false ∧ PySem.W.subIn X.K (.ref C) (.type "NoneType") = some false
def InAlts (X : Cx) : List (Str × OpN) → Prop
 | [] => True
 | p :: r => InAlt X p.1 p.2 ∧ InAlts X r
theorem InAlts.get {X : Cx} : ∀ {alts : List (Str × OpN)} {p : Str × OpN}, InAlts X alts → p ∈ alts → InAlt X p.1 p.2
 | [], _, _, h => nomatch h
 | q :: r, p, ok, h => by
  rcases List.mem_cons.mp h with rfl | h
  ·exact ok.1
  ·exact InAlts.get ok.2 h
end Mir
namespace Mir
open PySem PySem.Spec L2
end Mir
namespace Mir
open PySem PySem.Spec L2
open PyProof.Rows hiding St
end Mir
namespace Mir
open PySem PySem.Spec L2
open PyProof.Rows hiding St
end Mir
namespace Mir
open PySem PySem.Spec L2
open PyProof.Rows hiding St
def getTl (hp : IH) (i : Nat) : Option (List (T × W)) := match hp[i]? with
 | some (some (.dil kvs)) => some kvs
 | _ => none
theorem getTl_eq {hp : IH} {i : Nat} {ws : List (T × W)} (h : getTl hp i = some ws) : hp[i]? = some (some (.dil ws)) := by
 unfold getTl at h
 split at h
 ·rename_i kvs e
  simp only [Option.some.injEq] at h
  rw [e, h]
 ·cases h
theorem Rel.dil {K : PySem.W.Frag} {ω : World} {s : S4} (R : Rel K ω s) {i : Nat} {v : V} {ws : List (T × W)} (g : getTl s.hp i = some ws) (r : Rw K s (.r i) v) : ∃ a ob xs, v = .ref a ∧ s.rho[i]? = some a ∧ s.H a = some (.frz ob (DitO ω a xs)) ∧ RwD K s ws xs ∧ ¬ Live s a := by
 obtain ⟨a, e1, e2⟩ := r
 obtain ⟨ob, xs, h1, h2⟩ := R.cell i _ a (getTl_eq g) e1
 refine ⟨a, ob, xs, e2, e1, h1, h2, ?_⟩
 rintro ⟨j, c, ⟨q1, q2⟩, q3⟩
 have : i = j := (List.getElem?_inj (List.getElem?_eq_some_iff.mp e1).1 R.nd).mp (e1.trans q3.symm)
 subst this
 rw [getTl_eq g] at q1
 cases q1
 exact q2
end Mir
namespace Mir
open PySem PySem.Spec L2
open PyProof.Rows hiding St
end Mir
namespace Mir
open PySem PySem.Spec L2
open PyProof.Rows hiding St
/-- the pairs laid so far -/
structure ZLaid (Rel : Nat → Value → Value → Prop) (lo : Nat) (h : Heap) (as : List Addr) : Prop where
 rise : as.Pairwise (· < ·)
 above : ∀ a ∈ as, lo ≤ a
 pairs : ∀ (j : Nat) (a : Addr), as[j]? = some a → ∃ x y, Rel j x y ∧ IsTupOf2 h a x y
theorem ZLaid.there {Rel : Nat → Value → Value → Prop} {lo : Nat} {h : Heap} {as : List Addr} (g : ZLaid Rel lo h as) {a : Addr} (ha : a ∈ as) : a < h.objs.size := by
 obtain ⟨j, hj⟩ := List.mem_iff_getElem?.mp ha
 obtain ⟨_, _, _, e⟩ := g.pairs j a hj
 exact Heap.lt_size e
end Mir
namespace Mir
open PySem PySem.Spec L2
open PyProof.Rows hiding St
/-- what a suite asks of the class of its exception -/
structure XcF (K : PySem.W.Frag) (C : Addr) : Prop where
 ga : PySem.W.findIn K (.ref C) "__getattribute__" = some (some (.builtin "BaseException.__getattribute__"))
 gg : PySem.W.findIn K (.ref C) "__getattr__" = some none
 exC : PySem.W.subIn K (.ref C) Yfz = some true
 hd : PySem.W.hasDictIn K C = true
 ha : PySem.W.findIn K (.ref C) "__class__" = some (some Y8)
 hn : PySem.W.specialIn K Y8 "__get__" = some Ydt
 ht : PySem.W.takesIn K Y8 = some true
 hm : PySem.W.mroIn K C (.type "object") = some true
theorem XcF.xf {K : PySem.W.Frag} {C : Addr} (x : XcF K C) : L2.XfC K C := ⟨x.ga, x.gg, x.exC, x.hd⟩
theorem XcF.cl {K : PySem.W.Frag} {C : Addr} (x : XcF K C) : (PySem.W.clsIn K C).isSome = true := by
 obtain ⟨cd, hc, _⟩ := PySem.W.any_some x.hd
 rw [hc]; rfl
/-- a reading in a suite: slot i holds the exception, of class c -/
def tXM {A B : Type} (K : PySem.W.Frag) (ω : World) (Fam : S4 → A → B → Prop) (a : Addr) (cls : Value) (d : Option Addr) (i : Nat) (c : Str) (F : Ex → M A) : L2.St → Hp → (B → Hp → Prop) → Prop := fun σ H Q =>
 σ[i]? = some Yep ∧ ∃ (ex : Ex) (s : S4) (eta : IS), s.H = H ∧ Rel K ω s ∧ Sl K s eta σ ∧ ex.cls = c ∧ ExR K s ex cls d ∧ Go K ω W0 Fam s (F ex eta s.hp) Q
theorem ExR.aft {K : PySem.W.Frag} {ω : World} {s s' : S4} {e : Ex} {cls : Value} {d : Option Addr} (h : ExR K s e cls d) (A : Aft s s') (R : Rel K ω s) (nl : ∀ x, d = some x → ¬ Live s x) : ExR K s' e cls d := by
 obtain ⟨C, e1, cn, h⟩ := h
 refine ⟨C, e1, cn, ?_⟩
 rcases h with h | ⟨dd, vs, e2, e3, r⟩
 ·exact .inl h
 ·exact .inr ⟨dd, vs, e2, A.keep dd _ e3 (nl dd e2), RwF.aft A R _ _ r⟩
theorem ExR.nl {K : PySem.W.Frag} {ω : World} {s : S4} {e : Ex} {cls : Value} {d : Option Addr} (h : ExR K s e cls d) (R : Rel K ω s) : ∀ x, d = some x → ¬ Live s x := fun x ex l => by
 obtain ⟨C, _, _, h⟩ := h
 rcases h with ⟨_, h⟩ | ⟨dd, vs, e2, e3, _⟩
 ·rw [h] at ex; cases ex
 ·obtain rfl : dd = x := by rw [e2] at ex; exact Option.some.inj ex
  obtain ⟨i, c, ⟨hc, _⟩, hr⟩ := l
  have := R.cell i c dd hc hr
  rw [e3] at this
  cases c with
  | lst ws => obtain ⟨vs, e, _⟩ := this; cases e
  | dic kvs => obtain ⟨vs, e, _⟩ := this; cases e
  | ins c fs => obtain ⟨C, dx, vs, e, _⟩ := this; cases e
  | dit kvs => obtain ⟨vs, e, _⟩ := this; unfold DitO at e; cases e
  | tpl ws => obtain ⟨ob, vs, e, _⟩ := this; cases e
  | dil kvs => obtain ⟨ob, vs, e, _⟩ := this; cases e
section
variable {X : Cx} {a : Addr} {oe : Obj} {cls : Value} {d : Option Addr} {pn : List Ydk} {i : Nat} {c : Str}
theorem tXM.bind1 {A B C D : Type} {K : PySem.W.Frag} {ω : World} {Fam : S4 → A → B → Prop} {Gam : S4 → C → D → Prop} {Fa : Ex → M A} {k : Ex → A → IS → IH → Res C} {σ : L2.St} {H : Hp} {Q : D → Hp → Prop} {R : B → Hp → Prop}
  (h : tXM K ω Gam a cls d i c (fun ex eta hp => (Fa ex eta hp).bind fun a h1 => k ex a eta h1) σ H Q)
  (n : ∀ (ex : Ex) (s : S4) (eta : IS) (x : A) (b : B), Rel K ω s → Sl K s eta σ → ex.cls = c → ExR K s ex cls d → Fam s x b → Go K ω W0 Gam s (k ex x eta s.hp) Q → R b s.H) : tXM K ω Fam a cls d i c Fa σ H R := by
 obtain ⟨e0, ex, s, eta, e1, R1, S1, ec, er, g⟩ := h
 refine ⟨e0, ex, s, eta, e1, R1, S1, ec, er, Go.bind g fun x b s' A' R' f _ g' => n ex s' eta x b R' (S1.aft A' R1) ec (er.aft A' R1 (er.nl R1)) f g'⟩
theorem tXM.of {A B : Type} {K : PySem.W.Frag} {ω : World} {Fam : S4 → A → B → Prop} {F : M A} {σ : L2.St} {H : Hp} {Q : B → Hp → Prop} (h : tXM K ω Fam a cls d i c (fun _ => F) σ H Q) : tM K ω W0 Fam F σ H Q := by
 obtain ⟨e0, ex, s, eta, e1, R1, S1, ec, er, g⟩ := h
 exact ⟨s, eta, e1, R1, S1, g⟩
def XE (X : Cx) (a : Addr) (oe : Obj) (cls : Value) (d : Option Addr) (pn : List Ydk) (i : Nat) (c : Str) (e : Expr) (F : Ex → M W) : Prop := PE Y0 e (tXM X.K X.w (Rw X.K) a cls d i c F)
def XT (X : Cx) (a : Addr) (oe : Obj) (cls : Value) (d : Option Addr) (pn : List Ydk) (i : Nat) (c : Str) (e : Expr) (F : Ex → M Bool) : Prop := PT Y0 e (tXM X.K X.w Yd5 a cls d i c F)
def XW (X : Cx) (a : Addr) (oe : Obj) (cls : Value) (d : Option Addr) (pn : List Ydk) (i : Nat) (c : Str) (e : Expr) (F : Ex → M Bool) : Prop := PW Y0 e (tXM X.K X.w Yd5 a cls d i c F)
def XSs (X : Cx) (a : Addr) (oe : Obj) (cls : Value) (d : Option Addr) (pn : List Ydk) (i : Nat) (c : Str) (st : List Stmt) (F : Ex → M Fl) : Prop := PSs Y0 st (fun D σ H => tXM X.K X.w (RFl X.K) a cls d i c F σ H (endQ D))
variable {e e2 e3 : Expr} {es : List Expr} {F G L : Ex → M W} {Fs : Ex → M (List W)} {U V' : Ex → M Bool} {pos p p2 : Pos} {n : Str}
theorem xe_of {F : M W} (h : IE Y0 W0 e F) : XE X a oe cls d pn i c e (fun _ => F) := PE.imp h fun σ H Q h => h.of
/-- e.f -/
def mXF (f : Str) : Ex → M W := fun ex _ hp => match ex.fs.lookup f with
 | some w => .ok w hp
 | none => .bad
theorem xe_fld {C : Addr} {f : Str} (cn : CN X.K c C) (x : XcF X.K C) (hno : PySem.W.findIn X.K (.ref C) f = some none) (hz : Zc cls d oe) (hf : ∃ vs, oe.data = .fields vs)
  (hN : X.N[i]? = some n := by rfl) (hv : Vis X.env.scope n := by first | exact Or.inl rfl | exact Or.inr (Or.inl rfl) | exact Or.inr (Or.inr rfl)) (hd : (n == ("__debug__" : Str)) = false := by decide) (hcd : (n == ("__classdict__" : Str)) = false := by decide)
  (hb : attributeBase (.Name n p) f X.env (eval (.Name n p) X.env) = eval (.Name n p) X.env := by rfl) : XE X a oe cls d pn i c (.Attribute (.Name n p) f pos) (mXF f) :=
 PE.imp (pe_xf (C := C) (d := d) x.xf hno hz hf Yb9 hb) fun σ H Q h => by
  obtain ⟨e0, ex, s, eta, e1, R1, S1, ec, er, g⟩ := h
  subst e1
  obtain ⟨C', eC, cn', er⟩ := er
  rw [ec] at cn'
  cases cn'.inj cn
  unfold mXF at g
  split at g
  ·rename_i w hw
   rcases er with ⟨z, _⟩ | ⟨dd, vs, ed, eH, rf⟩
   ·rw [z] at hw; simp at hw
   obtain ⟨v, h1, h2⟩ := (RwF.look f rf).1 w hw
   exact ⟨.ref a, e0, rfl, eC, dd, vs, v, ed, eH, h1, g v s rfl Yg R1 h2⟩
  ·exact g.elim
def rIsX (K : PySem.W.Frag) (a C : Addr) (d : Option Addr) : List V → Hp → VK → Prop := fun xs H Q => ∃ (c : V) (cv : Value) (b : Bool), xs = [.ref a, c] ∧ (∀ u, RelV c u → u = cv) ∧ PySem.W.kitOne K (.ref C) cv = some b ∧ (d = none ∨ ∃ dd fs, d = some dd ∧ H dd = some (.xd fs)) ∧ Q (.bl b) H
theorem call_isX {C : Addr} (x : XcF X.K C) (hz : Zc (.ref C) d oe) (hf : ∃ vs, oe.data = .fields vs) : CallR Y0 Yfy (rIsX X.K a C d) := by
 intro pins s σ H xs us Q I r h
 obtain ⟨c, cv, b, rfl, hcv, e, hd, q⟩ := h
 cases r with
 | cons rx rr =>
  cases rr with
  | cons rt rr =>
   cases rr
   cases rx
   have ec := hcv _ rt
   subst ec
   obtain ⟨hget, _⟩ := I.pin (a, oe) (List.mem_append.mpr (.inl List.mem_cons_self))
   obtain ⟨vs, hv⟩ := hf
   have J : ∃ od, PySem.W.InstAt s.heap a oe C od := by
    rcases hd with hd | ⟨dd, fs, ed, eH⟩
    ·subst hd
     refine ⟨none, ?_⟩
     obtain ⟨oc, od, oda, osl⟩ := oe
     obtain ⟨h1, h2⟩ := hz
     dsimp only at h1 h2 hv
     subst h1 h2 hv
     exact ⟨hget, rfl, rfl, trivial⟩
    ·subst ed
     have hx : ObjOk X.prog X.w H s.heap dd (.xd fs) := I.hok dd _ eH
     obtain ⟨mA, hns, hr⟩ := hx
     obtain ⟨od, ho, hl⟩ := lookIn_ns hns
     exact ⟨some od, hget, hz.1, by unfold PySem.W.notCls; rw [hv] <;> rfl, by rw [hz.2]; exact ho⟩
   obtain ⟨od, J⟩ := J
   exact PySem.W.kia_one (PySem.W.kitx_exc x.cl x.ga x.gg x.exC x.ha x.hn x.ht x.hm) I.kIn J e (fun z => nomatch z) fun tk => ⟨.bl b, H, I.kept (t' := tk) fun _ _ z => z, rfl, q⟩
/-- .. of an exception of class c: the class asked for is an own one or a built-in one -/
theorem xe_isi {C : Addr} {t : T} {ct : CT} {b : Bool} (cn : CN X.K c C) (x : XcF X.K C) (hz : Zc cls d oe) (hf : ∃ vs, oe.data = .fields vs) (hcl : clC t = some ct) (htab : ∀ cv, CVal X.K ct cv → PySem.W.kitOne X.K (.ref C) cv = some b)
  (h2 : IE Y0 W0 e2 (mC t)) (hm : X.mg "isinstance" = none) (hN : X.N[i]? = some n := by rfl) (hv : Vis X.env.scope n := by first | exact Or.inl rfl | exact Or.inr (Or.inl rfl) | exact Or.inr (Or.inr rfl)) (hd : (n == ("__debug__" : Str)) = false := by decide) (hcd : (n == ("__classdict__" : Str)) = false := by decide)
  (hg : Gl Y0 "isinstance" := by rfl)
  (he : starEach [.Name n p, e2] X.env = (false, eval (.Name n p) X.env) :: starEach [e2] X.env := by rfl) (he2 : starEach [e2] X.env = (false, eval e2 X.env) :: starEach [] X.env := by rfl) (hpl : (backTo pos (starEach [e2] X.env)).any (·.1) = false := by rfl) :
  XE X a oe cls d pn i c (.Call (.Name "isinstance" p2) [.Name n p, e2] [] pos) (fun _ => mC (.bl b)) := by
 refine ⟨fun pins s σ H Q I h => ?_⟩
 obtain ⟨e0, ex, s0, eta, e1, R1, S1, ec, er, g⟩ := h
 subst e1
 obtain ⟨C', eC, cn', er'⟩ := id er
 rw [ec] at cn'
 cases cn'.inj cn
 subst eC
 refine (pe_callB (X := X.suite a ((a, oe) :: pn)) (call_isX (d := d) x hz hf) hg hm Yeq (pa_cons Yb9 (pa_cons h2 pa_nil he2) he) Ybd Ybd he hpl).run pins s σ s0.H Q I ⟨_, e0, s0, eta, rfl, R1, S1, fun v s' q1 q2 q3 q4 => ?_⟩
 obtain ⟨cv, c1, c2⟩ := cl_at hcl (by simpa only [Rw] using q4)
 have hrel : ∀ u, RelV v u → u = cv := fun u hu => by
  cases c2 with
  | ty n => cases hu; rfl
  | own C => cases hu; rfl
 have nl := er.nl R1
 have er2 := er.aft q2 R1 nl
 refine ⟨_, cv, b, rfl, hrel, htab cv c1, ?_, ?_⟩
 ·obtain ⟨_, _, _, h⟩ := er2
  rcases h with ⟨_, h⟩ | ⟨dd, vs, h1, h2, _⟩
  ·exact .inl h
  ·exact .inr ⟨dd, vs, h1, h2⟩
 ·exact Go.aft g q2 (.bl b) s' q1 (Aft.refl s') q3 Ye
theorem xt_val (h : XE X a oe cls d pn i c e F) (he : ∀ whole, isTrue e X.env whole = (do let v ← whole; standAt e.pos; holding [v] (truthy v)) := by intro _; rfl) : XT X a oe cls d pn i c e (fun ex => zaf asB (F ex)) :=
 PT.imp (pt_val h he) fun σ H Q h => tXM.bind1 (R := fun (x : V) (H1 : Hp) => ∃ c, x = .bl c ∧ Q c H1) (k := fun _ (a : W) _ hp => asB a hp) h fun ex s eta a b R1 _ _ _ f1 g => go_asB R1 f1 g
theorem xt_cond {R : Bool → Hp → Prop} {C D : Type} {Gam : S4 → C → D → Prop} {k : Ex → Bool → IS → IH → Res C} {σ : L2.St} {H : Hp} {Q : D → Hp → Prop}
  (h : tXM X.K X.w Gam a cls d i c (fun ex eta hp => (U ex eta hp).bind fun b h1 => k ex b eta h1) σ H Q) (n : ∀ (ex : Ex) (s : S4) (eta : IS) (b : Bool), Rel X.K X.w s → Sl X.K s eta σ → ex.cls = c → ExR X.K s ex cls d → Go X.K X.w W0 Gam s (k ex b eta s.hp) Q → R b s.H) : tXM X.K X.w Yd5 a cls d i c U σ H R :=
 tXM.bind1 (R := R) h fun ex s eta a b R1 S1 ec er f1 g => by subst f1; exact n ex s eta a R1 S1 ec er g
theorem XW.t (h : XW X a oe cls d pn i c e U) : XT X a oe cls d pn i c e U := PW.pt h
theorem xw_and1 (ha : XT X a oe cls d pn i c e U) : XW X a oe cls d pn i c (.BoolOp .And [e] pos) U := pw_and1 ha
theorem xw_and {rest : List Expr} (ha : XT X a oe cls d pn i c e U) (hb : XW X a oe cls d pn i c (.BoolOp .And (e2 :: rest) pos) V') : XW X a oe cls d pn i c (.BoolOp .And (e :: e2 :: rest) pos) (fun ex => mAnd (U ex) (V' ex)) :=
 PW.imp (pw_and ha hb) fun σ H Q h => by
  have e0 := h.1
  exact xt_cond (R := fun c1 H1 => if c1 = true then tXM X.K X.w Yd5 a cls d i c V' σ H1 Q else Q false H1) (k := fun ex a eta h1 => if a then V' ex eta h1 else .ok false h1) h fun ex s eta b R1 S1 ec er g => by
   cases b with
   | true => exact ⟨e0, ex, s, eta, rfl, R1, S1, ec, er, g⟩
   | false => exact g false s rfl Yg R1 rfl
theorem xt_not (ha : XT X a oe cls d pn i c e U) : XT X a oe cls d pn i c (.UnaryOp .Not e pos) (fun ex => mNot (U ex)) :=
 PT.imp (pt_not ha) fun σ H Q h => xt_cond (R := fun c H1 => Q (!c) H1) (k := fun _ a eta h1 => .ok (!a) h1) h fun ex s eta b R1 S1 _ _ g => g (!b) s rfl Yg R1 rfl
theorem xe_if (hc : XT X a oe cls d pn i c e U) (ha : XE X a oe cls d pn i c e2 F) (hb : XE X a oe cls d pn i c e3 G) : XE X a oe cls d pn i c (.IfExp e e2 e3 pos) (fun ex => mIf (U ex) (F ex) (G ex)) :=
 PE.imp (pe_ifExp hc ha hb) fun σ H Q h => by
  have e0 := h.1
  exact xt_cond (R := fun c1 H1 => if c1 = true then tXM X.K X.w (Rw X.K) a cls d i c F σ H1 Q else tXM X.K X.w (Rw X.K) a cls d i c G σ H1 Q) (k := fun ex b eta h1 => if b then F ex eta h1 else G ex eta h1) h fun ex s eta b R1 S1 ec er g => by
   cases b with
   | true => exact ⟨e0, ex, s, eta, rfl, R1, S1, ec, er, g⟩
   | false => exact ⟨e0, ex, s, eta, rfl, R1, S1, ec, er, g⟩
variable {x : Str} {rest suite : List Stmt} {Gs : Ex → M Fl} {j : Nat}
theorem xss_nil : XSs X a oe cls d pn i c [] (fun _ => zbu) := PSs.imp (pss_nil (X := X.suite a ((a, oe) :: pn))) fun D σ H h => by
 obtain ⟨e0, ex, s, eta, e1, R1, S1, ec, er, g⟩ := h
 subst e1
 exact Go.nx R1 S1 g
theorem xss_set (j : Nat) {pos' : Pos} (hij : j ≠ i) (hN : X.N.Nodup) (he : XE X a oe cls d pn i c e F) (hr : XSs X a oe cls d pn i c rest Gs) (hi : X.N[j]? = some x := by rfl) (hx : Loc X.env.scope x := by first | exact Or.inl rfl | exact Or.inr rfl) (hs : swapsWith e (some (.Name x pos')) pos.line X.env = pure false := by rfl) (hf : (X.suite a ((a, oe) :: pn)).fn x = true ∨ X.env.scope.names.lookup x = some .local := by first | exact .inl rfl | exact .inr rfl | assumption) :
  XSs X a oe cls d pn i c (.Assign [.Name x pos'] e pos :: rest) (fun ex => mSeq (mSet j (F ex)) (Gs ex)) := PSs.imp (pss_cons (ps_set (X := X.suite a ((a, oe) :: pn)) hN hi hx he hs hf) hr) fun D σ H h => by
 have e0 := h.1
 have h' : tXM X.K X.w (RFl X.K) a cls d i c (fun ex eta hp => (F ex eta hp).bind fun w h1 => thenF (Gs ex) (Fl.nx (eta.set j (some w))) h1) σ H (endQ D) := by
  obtain ⟨e0, ex, s, eta, e1, R1, S1, ec, er, g⟩ := h
  refine ⟨e0, ex, s, eta, e1, R1, S1, ec, er, ?_⟩
  have : (mSeq (mSet j (F ex)) (Gs ex)) eta s.hp = (F ex eta s.hp).bind fun w h1 => thenF (Gs ex) (Fl.nx (eta.set j (some w))) h1 := by
   show ((F ex eta s.hp).bind _).bind _ = _
   rw [Res.bind_assoc]
   rfl
  have g : Go X.K X.w W0 (RFl X.K) s ((mSeq (mSet j (F ex)) (Gs ex)) eta s.hp) (endQ D) := g
  rw [this] at g
  exact g
 exact tXM.bind1 (R := fun (y : V) (H1 : Hp) => tXM X.K X.w (RFl X.K) a cls d i c Gs (σ.set j (some y)) H1 (endQ D)) (k := fun ex (w : W) eta hp => thenF (Gs ex) (Fl.nx (eta.set j (some w))) hp) h' fun ex s eta w v R1 S1 ec er f1 g =>
  ⟨by rw [List.getElem?_set_ne hij]; exact e0, ex, s, eta.set j (some w), rfl, R1, S1.set j f1, ec, er, g⟩
end
/-- what the clauses wish of an exception of the body -/
def wManyA (K : PySem.W.Frag) (i : Nat) (Wout : WX) (D : Ends) : List Yat → WX
 | [] => Wout
 | (c, ts) :: r => fun cls d σ H => ∃ b, PySem.W.exmOne K cls c = some b ∧ (b = true → ∀ a, H a = none → ts a cls d { nx := fun σ' H' => D.nx (σ'.set i none) H', rt := D.rt, bk := fun σ' H' => D.bk (σ'.set i none) H', ct := fun σ' H' => D.ct (σ'.set i none) H' } (σ.set i Yep) H) ∧ (b = false → wManyA K i Wout D r cls d σ H)
inductive HdsA (X : Cx) (n : Str) : List ExceptHandler → List Yat → Prop
 | nil : HdsA X n [] []
 | cons {x : Str} {c : Value} {ts : Addr → Value → Option Addr → TS} {b₀ : Stmt} {suite : List Stmt} {np pos' : Pos} {hds : List ExceptHandler} {l : List (Value × (Addr → Value → Option Addr → TS))} (hc : Names X x c)
   (hsu : ∀ (a : Addr) (oe : Obj) (cls : Value) (d : Option Addr) (pn : List (Addr × Obj)), Zc cls d oe → (∃ vs, oe.data = .fields vs) → PSs Y0 (b₀ :: suite) (ts a cls d)) (r : HdsA X n hds l) :
   HdsA X n Ye0 ((c, ts) :: l)
section
variable {X : Cx} {body : List Stmt} {h₀ : ExceptHandler} {hds : List ExceptHandler} {l : List Yat} {pos : Pos} {tb : WX → TS} {Wout : WX} {i : Nat} {n : Str}
theorem ps_try_manyA (hs : X.stack = X.env :: X.outer) (hf : X.env.frame = some X.env.locals) (hN : X.N.Nodup) (hi : X.N[i]? = some n) (hln : X.env.kindOf n = some .local) (tk : L2.Takes X Wout)
  (hb : ∀ (W : WX) (pn : List (Addr × Obj)) (xe : Value → Shared → Prop), L2.Takes (X.tr pn xe) W → PassesOwn Yaf X.A X.env xe → PSs (X.tr pn xe) body (tb W))
  (hh : HdsA X n (h₀ :: hds) l) : PS X (.Try body (h₀ :: hds) [] [] pos) (fun D σ H => tb (wManyA X.K i Wout D l) D σ H) := by
 refine ⟨fun pins s σ H D I h => ?_⟩
 have ok := I.ok
 have hfr : X.A.frames = some (X.env :: X.outer) := by rw [ok.frames, hs]
 have hloc : Loc X.env.scope n := .inl hln
 refine wpAny_Try_except ?_
 refine wpAny_mono ((hb (wManyA X.K i Wout D l) (X.pn ++ pins) (fun e s₁ => wpAny Yaf X.A (noteFrame e X.env) (fun _ s₂ => wpAny Yaf X.A (setFlight e none) (fun _ s₃ =>
  wpAny Yaf X.A (handleBy e X.env (h₀ :: hds)) (SP X pins D) X.xe s₃) X.xe s₂) X.xe s₁) (fun u s' xx => ?_) PassesOwn.looking).run [] s σ H D (I.toTry _) h) (fun f s1 hsp => ?_) (fun e s1 he => he)
 ·obtain ⟨a, B, sI, pins', σ', H', cls, d, rfl, J', nb, up, sky, na, os, ag, w⟩ := xx
  have J : Inv X pins σ' H' sI := J'.ofTry ok
  have sky' : Sky B (X.env :: X.outer) a (Zc cls d) X.env.locals s'.heap := by rw [← hs]; exact sky
  show wpAny Yaf X.A (noteFrame (.ref a) X.env) _ _ _
  refine Sky.land Zc.steady hfr hf sky' fun h3 fl3 up3 => ?_
  have J3 : Inv X pins σ' H' { s' with heap := h3 } := J.landed nb fl3.1 (up.trans up3) os ag
  obtain ⟨oe3, vs3, he3, hz3, hd3⟩ := fl3.there
  have notFr : ∀ {h : Heap} {o : Obj} {vs : Array Value}, h.FunFrames B (X.env :: X.outer) → h.get? a = some o → o.data = .fields vs → a ∉ frs (X.env :: X.outer) := fun {h o vs} ff e dd hm => by
   obtain ⟨_, o', e', hnf⟩ := ff.mem hm
   rw [e] at e'; cases e'
   exact hnf _ dd
  have nfr := notFr fl3.2.2.1 he3 hd3
  have nL : a ≠ X.env.locals := fun z => nfr (List.mem_filterMap.mpr ⟨X.env, List.mem_cons_self, by rw [hf, z]⟩)
  have nF : a ∉ X.fs := fun hm => by
   obtain ⟨e, he, q⟩ := List.mem_filterMap.mp hm
   exact nfr (List.mem_filterMap.mpr ⟨e, List.mem_cons_of_mem _ he, q⟩)
  have S3 := J3.suite he3 hd3 na nL nF
  have go : ∀ {hds' : List ExceptHandler} {l' : List (Value × (Addr → Value → Option Addr → TS))}, HdsA X n hds' l' → wManyA X.K i Wout D l' cls d σ' H' →
    wpAny Yaf X.A (handleBy (.ref a) X.env hds') (SP X pins D) X.xe { s' with heap := h3 } := by
   intro hds' l' hk
   induction hk with
   | nil =>
    intro w
    refine wpAny_handleBy_nil ?_
    obtain ⟨k1, k2, k3, oe, vs, T, oT, ts', he, hz, hd, h1, hr⟩ := id fl3
    unfold PySem.passOn
    refine wpAny_bind (wpAny_field he hd h1 ?_)
    rw [if_neg (show ¬ ((Value.ref T == Value.none) = true) from by simp)]
    have fin : wpAny Yaf X.A (setFlight (.ref a) X.env.frame) (fun _ s4 => wpAny Yaf X.A (throw (.ref a) : Sem Flow) (SP X pins D) X.xe s4) X.xe { s' with heap := h3 } := by
     rw [hf]
     refine HandSPX.setFlight_upZ fl3 fun h4 hh4 up4 => wpAny_throw (tk _ _ ?_)
     exact ⟨a, B, sI, pins, σ', H', cls, d, rfl, J, nb, (up.trans up3).trans up4, .inr (.inr (by rw [hs]; exact hh4)), na, os, ag, w⟩
    first
     | exact wpAny_bind (wpAny_pure (wpAny_bind fin))
     | exact wpAny_bind fin
   | @cons x c ts b₀ suite np pos' hds2 l2 hc hsu r ih =>
    intro w
    obtain ⟨b, hb1, hyes, hno⟩ := w
    refine wpAny_handleBy_cons (codeAny_handlers_test ?_) (by intro q; cases q)
    have LT : PySem.W.Looks Yaf h3 (typeOf (.ref a)) cls := fun A Q E s k q => wpAny_typeOf_ref (k _ _ he3) (by rw [hz3.1]; exact q)
    have LM := PySem.W.exm_one (M := model X.prog X.w) (J3.kIn) LT hb1
    have test : ∀ {Q : Value → Shared → Prop} {E : Value → Shared → Prop}, Q c { s' with heap := h3 } → wpAny Yaf (X.A.mark Yep) (eval (.Name x np) X.env) Q E { s' with heap := h3 } := fun {Q E} q => by
     obtain ⟨hg, hdbg, hm | ⟨hm, hv, hnn⟩⟩ := hc
     ·exact ld_glob (X := X.suite a ((a, oe3) :: (X.pn ++ pins))) S3 hg hm q hdbg
     ·exact ld_blt (X := X.suite a ((a, oe3) :: (X.pn ++ pins))) S3 hg hm hv q hnn hdbg
    refine test (LM.here ?_)
    cases b with
    | true =>
     refine codeAny_handlers_suite_as ?_
     refine HandSPX.lands_againZ fl3 fun h4 fl4 up4 => ?_
     have J4 : Inv X pins σ' H' { s' with heap := h4 } := J.landed nb fl4.1 ((up.trans up3).trans up4) os ag
     obtain ⟨oe4, vs4, he4, hz4, hd4⟩ := fl4.there
     have S4 := J4.suite he4 hd4 na nL nF
     refine store_ok (X := X.suite a ((a, oe4) :: (X.pn ++ pins))) (v := .ref a) S4 hN hi hloc rfl (fun s5 S5 => ?_) (.inr hln)
     refine wpAny_mono ((hsu a oe4 cls d (X.pn ++ pins) hz4 ⟨_, hd4⟩).run [] s5 _ H' _ S5 (hyes rfl a na)) (fun f s6 hsp => ?_) (fun _ _ z => False.elim z)
     have end_ : ∀ {σ6 : L2.St} {H6 : Hp} {Q : Shared → Prop}, Inv (X.suite a ((a, oe4) :: (X.pn ++ pins))) [] σ6 H6 s6 → (∀ s7, Inv X pins (σ6.set i none) H6 s7 → Q s7) →
       wpAny Yaf X.A (do bindName X.env n .none; unbindBehindTheSuite X.env n pos') (fun _ s7 => Q s7) X.xe s6 := fun {σ6 H6 Q} S6 hq => gone_ok (S6.unsuite ok) hN hi hln hq
     cases f with
     | next =>
      obtain ⟨σ6, H6, S6, q6⟩ := hsp
      exact end_ S6 fun s7 J7 => ⟨_, _, J7, q6⟩
     | brk =>
      obtain ⟨σ6, H6, S6, q6⟩ := hsp
      exact end_ S6 fun s7 J7 => ⟨_, _, J7, q6⟩
     | cont =>
      obtain ⟨σ6, H6, S6, q6⟩ := hsp
      exact end_ S6 fun s7 J7 => ⟨_, _, J7, q6⟩
     | ret u =>
      obtain ⟨v6, σ6, H6, S6, r6, q6⟩ := hsp
      exact end_ S6 fun s7 J7 => ⟨_, _, _, J7, r6, q6⟩
    | false =>
     show wpAny _ X.A (handleBy (.ref a) X.env hds2) _ _ _
     exact ih (hno rfl)
  exact go hh w
 ·cases f with
  | next =>
   obtain ⟨σ', H', J', q⟩ := hsp
   exact wpAny_execs_nil ⟨σ', H', J'.ofTry ok, q⟩
  | brk =>
   obtain ⟨σ', H', J', q⟩ := hsp
   exact ⟨σ', H', J'.ofTry ok, q⟩
  | cont =>
   obtain ⟨σ', H', J', q⟩ := hsp
   exact ⟨σ', H', J'.ofTry ok, q⟩
  | ret u =>
   obtain ⟨v, σ', H', J', r, q⟩ := hsp
   exact ⟨v, σ', H', J'.ofTry ok, r, q⟩
end
def unI (i : Nat) : Fl → Fl
 | .nx eta => .nx Yfi
 | .rt w => .rt w
 | .bk eta => .bk Yfi
 | .ct eta => .ct Yfi
/-- clauses: the class whose errors one takes (which other classes it lets by), its suite -/
abbrev Cl := Str × (Str → Option Bool) × (Ex → M Fl)
def clsL (i : Nat) (e : Ex) (eta : IS) (h : IH) : List Cl → Res Fl
 | [] => .er e eta h
 | (c, hit, S) :: r => match hit e.cls with
  | some true => if e.cls = c ∧ i < eta.length then (match S e Yfi h with | .ok fl h' => .ok (unI i fl) h' | _ => .bad) else .bad
  | some false => clsL i e eta h r
  | none => .bad
def mTryAs (i : Nat) (B : M Fl) (l : List Cl) : M Fl := fun eta hp => match B eta hp with
 | .er e eta' h => clsL i e eta' h l
 | r => r
inductive ClsA (X : Cx) (n : Str) (i : Nat) : List ExceptHandler → List Cl → List Yat → Prop
 | nil : ClsA X n i [] [] []
 | cons {x : Str} {cv : Value} {c : Str} {hit : Str → Option Bool} {S : Ex → M Fl} {b₀ : Stmt} {suite : List Stmt} {np pos' : Pos} {hds : List ExceptHandler} {l : List Cl} {tl : List (Value × (Addr → Value → Option Addr → TS))} (hc : Names X x cv) (ht : HitOk X.K cv hit)
   (hsu : ∀ (a : Addr) (oe : Obj) (cls : Value) (d : Option Addr) (pn : List (Addr × Obj)), Zc cls d oe → (∃ vs, oe.data = .fields vs) → XSs X a oe cls d pn i c (b₀ :: suite) S) (r : ClsA X n i hds l tl) :
   ClsA X n i Ye0 ((c, hit, S) :: l) ((cv, fun a cls d => fun D σ H => tXM X.K X.w (RFl X.K) a cls d i c S σ H (endQ D)) :: tl)
theorem ClsA.hds {X : Cx} {n : Str} {i : Nat} : ∀ {hds : List ExceptHandler} {l : List Cl} {tl : List (Value × (Addr → Value → Option Addr → TS))}, ClsA X n i hds l tl → HdsA X n hds tl
 | _, _, _, .nil => .nil
 | _, _, _, .cons hc _ hsu r => .cons hc hsu r.hds
section
variable {X : Cx} {Wx : WX} {n : Str} {i : Nat} {body : List Stmt} {h₀ : ExceptHandler} {hds : List ExceptHandler} {pos : Pos} {B : M Fl} {l : List Cl} {tl : List Yat}
theorem cls_go {D : Ends} {s s' : S4} {e : Ex} {eta : IS} {σ : L2.St} {h : IH} {cls : Value} {d : Option Addr} (h1 : s'.hp = h) (h2 : Aft s s') (h3 : Rel X.K X.w s') (h4 : Sl X.K s' eta σ) (h5 : ExR X.K s' e cls d) :
  ∀ {hds : List ExceptHandler} {l : List Cl} {tl : List (Value × (Addr → Value → Option Addr → TS))}, ClsA X n i hds l tl → Go X.K X.w Wx (RFl X.K) s (clsL i e eta h l) (endQ D) → wManyA X.K i Wx D tl cls d σ s'.H := by
 intro hds l tl k
 induction k with
 | nil => exact fun g => g s' σ cls d h1 h2 h3 h4 h5
 | @cons x cv c hit S b₀ suite np pos' hds l tl hc ht hsu r ih =>
  intro g
  obtain ⟨C, ec, cn, _⟩ := id h5
  unfold clsL at g
  split at g
  ·rename_i hh
   split at g
   ·rename_i hlt
    refine ⟨true, by rw [ec]; exact ht _ _ _ hh cn, fun _ a na => ⟨by rw [List.getElem?_set_self (by rw [← h4.1]; exact hlt.2)], e, s', eta.set i none, rfl, h3, h4.unset i _, hlt.1, h5, ?_⟩, fun z => by cases z⟩
    rw [h1]
    cases hS : S e (eta.set i none) h with
    | er _ _ _ => rw [hS] at g; exact g.elim
    | bad => rw [hS] at g; exact g.elim
    | ok fl h' =>
     rw [hS] at g
     intro fv s2 q1 q2 q3 q4
     cases fl with
     | nx eta2 =>
      cases fv with
      | nx o => exact g (.nx (o.set i none)) s2 q1 (h2.trans q2) q3 (Sl.unset q4 i none)
      | rt _ => exact q4.elim
      | bk _ => exact q4.elim
      | ct _ => exact q4.elim
     | rt w =>
      cases fv with
      | rt v => exact g (.rt v) s2 q1 (h2.trans q2) q3 q4
      | nx _ => exact q4.elim
      | bk _ => exact q4.elim
      | ct _ => exact q4.elim
     | bk eta2 =>
      cases fv with
      | bk o => exact g (.bk (o.set i none)) s2 q1 (h2.trans q2) q3 (Sl.unset q4 i none)
      | rt _ => exact q4.elim
      | nx _ => exact q4.elim
      | ct _ => exact q4.elim
     | ct eta2 =>
      cases fv with
      | ct o => exact g (.ct (o.set i none)) s2 q1 (h2.trans q2) q3 (Sl.unset q4 i none)
      | rt _ => exact q4.elim
      | bk _ => exact q4.elim
      | nx _ => exact q4.elim
   ·exact g.elim
  ·rename_i hh
   exact ⟨false, by rw [ec]; exact ht _ _ _ hh cn, fun z => (by cases z), fun _ => ih g⟩
  ·exact g.elim
theorem st_tryAs (hs : X.stack = X.env :: X.outer) (hf : X.env.frame = some X.env.locals) (hN : X.N.Nodup) (hi : X.N[i]? = some n) (hln : X.env.kindOf n = some .local) (tk : L2.Takes X Wx)
  (hb : ∀ (W : WX) (pn : List (Addr × Obj)) (xe : Value → Shared → Prop), L2.Takes (X.tr pn xe) W → PassesOwn Yaf X.A X.env xe → ISs (X.tr pn xe) W body B)
  (hh : ClsA X n i (h₀ :: hds) l tl) : ISt X Wx (.Try body (h₀ :: hds) [] [] pos) (mTryAs i B l) :=
 PS.imp (ps_try_manyA (tb := fun W => tS X.K X.w W B) hs hf hN hi hln tk hb hh.hds) fun D σ H h => by
  obtain ⟨s, eta, e1, R1, S1, g⟩ := h
  refine ⟨s, eta, e1, R1, S1, ?_⟩
  unfold mTryAs at g
  cases hB : B eta s.hp with
  | ok fl hp => rw [hB] at g; exact g
  | bad => rw [hB] at g; exact g
  | er e eta' h =>
   rw [hB] at g
   intro s' σ' cls d h1 h2 h3 h4 h5
   exact cls_go h1 h2 h3 h4 h5 hh g
end
section
variable {K : PySem.W.Frag} {C D : Addr} {b : Bool} {c t o : Str} {n : String}
theorem cv_cls (nX : CN K t D) (kt : PySem.W.kitOne K (.ref C) (.ref D) = some b) : ∀ cv, CVal K (.inr t) cv → PySem.W.kitOne K (.ref C) cv = some b := fun cv ⟨C', e, n⟩ => by
 subst e
 cases n.inj nX
 exact kt
theorem kt_ofb {t : Value} (hd : PySem.W.hasDictIn K C = true) (ty : PySem.W.typeIn K (.ref C) = some (.type "type")) (s : PySem.W.subIn K t (.ref C) = some b) (ne : (t == .ref C) = false) : PySem.W.kitOne K t (.ref C) = some b := by
 obtain ⟨cd, hc, _⟩ := PySem.W.any_some hd
 unfold PySem.W.kitOne
 rw [ne, if_neg Ybd]
 show (if _ then _ else _) = _
 rw [if_pos (by rw [hc, ty]; rfl)]
 exact s
theorem ne_ofb (h : C ≠ D) : ((Value.ref C) == .ref D) = false := Bool.eq_false_iff.mpr fun q => h (Value.ref.inj (beq_iff_eq.mp q))
end
end Mir
namespace Mir
open PySem PySem.Spec L2
open PyProof.Rows hiding St
section
variable {P : Program} {w : World} {A : Around} {E : Value → Shared → Prop} {s : Shared}
/-- at a stands the set of the tuples L, with room to spare -/
structure SetGr (P : Program) (w : World) (h : Heap) (a : Addr) (L : List Ya6) (es : Array Yfc) (ep : Nat) (t : SetTable) : Prop where
 ob : ∃ o, h.get? a = some o ∧ o.ExactSet ∧ o.data = .set es ep t
 rows : es.toList = L.map fun p => (hK P w p.2, Value.ref p.1)
 tab : TabOk t (L.map fun p => hK P w p.2)
 nd : (L.map (·.2)).Nodup
 tup : ∀ p ∈ L, IsK P w h p.2 p.1
 room : L.length * 5 < t.mask * 3
 few : L.length < 64
variable {a : Addr} {L : List Ya6} {es : Array Yfc} {ep : Nat} {t : SetTable}
theorem SetGr.size (R : SetGr P w s.heap a L es ep t) : es.size = L.length := by
 rw [← Array.length_toList, R.rows, List.length_map]
theorem SetGr.psize (R : SetGr P w s.heap a L es ep t) : t.place.size = L.length := by rw [R.tab.sz, List.length_map]
theorem SetGr.fits (R : SetGr P w s.heap a L es ep t) : t.fits es.size = true := by
 have h1 := R.psize
 have h2 := R.size
 have h3 := R.room
 unfold SetTable.fits SetTable.fill
 rw [R.tab.dm, Bool.and_eq_true, beq_iff_eq, decide_eq_true_eq]
 show t.place.size = es.size ∧ t.place.size + 0 ≤ t.mask
 omega
theorem SetGr.at_ (R : SetGr P w s.heap a L es ep t) {i : Nat} {p : Addr × List Key} (h : L[i]? = some p) : es[i]? = some (hK P w p.2, Value.ref p.1) := by
 rw [← Array.getElem?_toList, R.rows, List.getElem?_map, h]
 rfl
/-- the looking for a tuple, from the c-th place of its way on -/
theorem lookGr (R : SetGr P w s.heap a L es ep t) {x : Addr} {k : List Key} (hx : IsK P w s.heap k x) (hu : A.units < cLine) {n : Nat} (hn : n < 10 * SetTable.turns t.mask)
  (free : way t.mask Yam n ∉ t.place.toList) (full : ∀ c, c < n → way t.mask Yam c ∈ t.place.toList) {Q : SetFound → Shared → Prop}
  (yes : k ∈ L.map (·.2) → Q (.there none) s) (no : k ∉ L.map (·.2) → Q (.free Yf0 false) s) :
  ∀ (f c : Nat) (stand : Option SetTable.Probe), stand.getD (t.probeStart Yam) = nth t.mask (runAt t.mask (SetTable.bits Yam % (t.mask + 1)) (SetTable.bits Yam)) c → c ≤ n → n - c < f →
   (∀ (i : Nat) p, L[i]? = some p → p.2 = k → ∃ c', c ≤ c' ∧ c' < n ∧ t.place.toList[i]? = some (way t.mask Yam c')) →
   wpAny Ybt A (setSearchFrom a (.ref x) Yam true f stand) Q E s := by
 intro f
 induction f with
 | zero => intro c stand _ _ h; omega
 | succ f ih =>
  intro c stand st hc hf there
  obtain ⟨o, ho, _, hd⟩ := R.ob
  let W0 : SetTable.Probe := runAt t.mask (SetTable.bits Yam % (t.mask + 1)) (SetTable.bits Yam)
  have step : ∀ q, nth t.mask (nth t.mask W0 c) q = nth t.mask W0 (c + q) := fun q => (nth_add t.mask c _ q).symm
  have jw : ∀ q, (nth t.mask (nth t.mask W0 c) q).j = way t.mask Yam (c + q) := fun q => congrArg SetTable.Probe.j (step q)
  have entry : ∀ (i : Nat) p, L[i]? = some p → (es[i]?.map (·.1)).getD 0 = hK P w p.2 := fun i p hp => by rw [R.at_ hp]; rfl
  have gone : ¬ t.gaveWay = true := by
   unfold SetTable.gaveWay
   rw [mask_odd R.tab.mok]
   decide
  rw [setSearchFrom_succ]
  refine wpAny_bind (wpAny_setState_of ho hd R.fits ?_)
  dsimp only
  refine wp_if_neg gone ?_
  rcases go_spec t R.tab.ris R.tab.dm (fun i => (es[i]?.map (·.1)).getD 0) (hK P w k) (10 * SetTable.turns t.mask) (n - c) (nth t.mask W0 c) (nth_dummy c _ rfl) (by omega)
   (fun q hq => by rw [jw]; exact full (c + q) Yc) (by rw [jw, show c + (n - c) = n by omega]; exact free) with ⟨q, i, hq, hi, _, before, pr⟩ | ⟨before, pr⟩
  ·have pr2 : t.probe (fun i => (es[i]?.map (·.1)).getD 0) Yam (stand.getD (t.probeStart Yam)) = some (.candidate (way t.mask Yam (c + q)) i (nth t.mask W0 (c + (q + 1)))) := by
    rw [st, ← jw, ← step]
    exact pr
   rw [pr2]
   dsimp only
   rw [jw] at hi
   have li : i < L.length := by
    have := (List.getElem?_eq_some_iff.mp hi).1
    rw [Array.length_toList, R.psize] at this
    exact this
   obtain ⟨p, hp⟩ : ∃ p, L[i]? = some p := ⟨L[i], List.getElem?_eq_getElem li⟩
   have mp : p ∈ L := List.mem_of_getElem? hp
   have rest : wpAny Ybt A (searchRest a (.ref x) Yam true f es t (way t.mask Yam (c + q)) i (nth t.mask W0 (c + (q + 1)))) Q E s := by
    unfold searchRest
    rw [R.at_ hp]
    dsimp only
    refine wpAny_bind (wpAny_holding (wpAny_eqBool_tuple hu (R.tup p mp) hx ?_))
    refine wpAny_bind (wpAny_setState_of ho hd R.fits ?_)
    dsimp only
    by_cases same : p.2 = k
    ·refine wp_if_pos (by simp [same]) ?_
     exact wpAny_pure (yes (List.mem_map.mpr ⟨p, mp, same⟩))
    ·have live : t.slot (way t.mask Yam (c + q)) = .live i := slot_live R.tab.ris hi
     refine wp_if_neg (by simp [same]) ?_
     rw [sameMem]
     dsimp only
     simp only [if_true, live, R.at_ hp]
     refine wpAny_bind (wpAny_isSame_ref_self (wpAny_bind (wpAny_pure ?_)))
     simp only [if_true]
     refine wp_if_neg (by simp [same]) ?_
     refine ih (c + (q + 1)) _ rfl Yc Yc fun i0 p0 h0 k0 => ?_
     obtain ⟨c', b1, b2, b3⟩ := there i0 p0 h0 k0
     refine ⟨c', ?_, b2, b3⟩
     rcases Nat.lt_trichotomy c' (c + q) with z | z | z
     ·exact absurd ((entry i0 p0 h0).trans (congrArg (hK P w) k0)) (before (c' - c) i0 Yc (by rw [jw, show c + (c' - c) = c' by omega]; exact b3))
     ·exfalso
      rw [z] at b3
      have e := slot_live R.tab.ris b3
      rw [live] at e
      injection e with e
      rw [← e, hp] at h0
      exact same ((congrArg Prod.snd (Option.some.inj h0)).trans k0)
     ·omega
   by_cases led : t.led = true
   ·exact wp_if_neg (by simp [led]) rest
   ·refine wp_if_pos (by simp [led]) (wpAny_bind (unseen hx (fun y hy => ?_) ?_))
    ·obtain ⟨e, he, rfl⟩ := List.mem_map.mp hy
     have he1 : e ∈ es ∧ e.1 = hK P w k := by simpa using he
     have he2 : e ∈ es.toList := by simpa using he1.1
     rw [R.rows] at he2
     obtain ⟨p2, hp2, rfl⟩ := List.mem_map.mp he2
     exact ⟨p2.2, p2.1, rfl, R.tup p2 hp2⟩
    ·exact wp_if_neg Ybd rest
  ·have pr2 : t.probe (fun i => (es[i]?.map (·.1)).getD 0) Yam (stand.getD (t.probeStart Yam)) = some (.empty Yf0 none) := by
    have e : way t.mask Yam n = (nth t.mask (nth t.mask W0 c) (n - c)).j := by rw [jw, show c + (n - c) = n by omega]
    rw [st, e]
    exact pr
   rw [pr2]
   dsimp only
   refine wpAny_pure (no fun hm => ?_)
   obtain ⟨p0, m0, k0⟩ := List.mem_map.mp hm
   obtain ⟨i0, h0⟩ := List.mem_iff_getElem?.mp m0
   obtain ⟨c', b1, b2, b3⟩ := there i0 p0 h0 k0
   exact before (c' - c) i0 Yc (by rw [jw, show c + (c' - c) = c' by omega]; exact b3) ((entry i0 p0 h0).trans (congrArg (hK P w) k0))
theorem lookGr_at (R : SetGr P w s.heap a L es ep t) {x : Addr} {k : List Key} (hx : IsK P w s.heap k x) (hu : A.units < cLine) {Q : SetFound → Shared → Prop} (yes : k ∈ L.map (·.2) → Q (.there none) s)
  (no : ∀ n, k ∉ L.map (·.2) → way t.mask Yam n ∉ t.place.toList → (∀ c, c < n → way t.mask Yam c ∈ t.place.toList) → Q (.free Yf0 false) s) :
  wpAny Ybt A (setSearch a (.ref x) Yam true) Q E s := by
 have few := R.room
 obtain ⟨n, hn, free, full⟩ := R.tab.first (by rw [List.length_map]; omega) Yam
 have big : n < 100000 := by
  have : 10 * SetTable.turns t.mask ≤ 5000 := by
   unfold SetTable.turns
   rcases R.tab.mok with e | e | e <;> rw [e] <;> decide
  omega
 unfold setSearch
 refine lookGr R hx hu hn free full yes (fun h => no n h free full) 100000 0 none rfl (Nat.zero_le _) Yc fun i p hp e => ?_
 have hi : (L.map fun p => hK P w p.2)[i]? = some Yam := by rw [List.getElem?_map, hp, ← e]; rfl
 have lt : i < t.place.toList.length := by
  rw [Array.length_toList, R.psize]
  exact (List.getElem?_eq_some_iff.mp hp).1
 obtain ⟨c, hc, e⟩ := R.tab.before free hi (List.getElem?_eq_getElem lt)
 exact ⟨c, Nat.zero_le _, hc, by rw [List.getElem?_eq_getElem lt, e]⟩
end
section
variable {P : Program} {w : World} {A : Around} {E : Value → Shared → Prop} {s : Shared} {a : Addr} {L : List Ya6} {es : Array Yfc} {ep : Nat} {t : SetTable}
abbrev rowB (P : Program) (w : World) (p : Addr × List Key) : Int × Value := (hK P w p.2, Value.ref p.1)
theorem pick_all {α : Type} (L : List α) : (List.range L.length).filterMap (fun i => L[i]?) = L := by
 have key : ∀ n, n ≤ L.length → (List.range n).filterMap (fun i => L[i]?) = L.take n := fun n => by
  induction n with
  | zero => intro _; simp
  | succ n ih =>
   intro h
   rw [List.range_succ, List.filterMap_append, ih (Nat.le_of_succ_le h), List.take_succ, List.getElem?_eq_getElem h]
   simp [List.getElem?_eq_getElem h]
 rw [key _ Yem, List.take_length]
theorem order_B (L : List Ya6) (es : Array Yfc) (order : Array Nat) (hr : es.toList = L.map (rowB P w)) (hp : order.toList.Perm (List.range L.length)) :
  ∃ L2 : List Ya6, (order.filterMap (es[·]?)).toList = L2.map (rowB P w) ∧ L2.Perm L ∧ (L2.map fun p => hK P w p.2) = order.toList.map fun i => (es.map (·.1)).getD i 0 := by
 refine ⟨order.toList.filterMap fun i => L[i]?, ?_, ?_, ?_⟩
 ·rw [Array.toList_filterMap, List.map_filterMap]
  have e : (fun i => es[i]?) = fun i => (L[i]?).map (rowB P w) := funext fun i => by rw [← Array.getElem?_toList, hr, List.getElem?_map]
  rw [e]
 ·have := hp.filterMap fun i => L[i]?
  rwa [pick_all] at this
 ·have hm : ∀ i ∈ order.toList, i < L.length := fun i hi => List.mem_range.mp (hp.mem_iff.mp hi)
  generalize order.toList = l at hm
  induction l with
  | nil => rfl
  | cons i l ih =>
   have hi := hm i List.mem_cons_self
   have e5 : (es.map (·.1))[i]? = some (hK P w (L[i]).2) := by
    rw [Array.getElem?_map, ← Array.getElem?_toList, hr, List.getElem?_map, List.getElem?_eq_getElem hi]
    rfl
   rw [List.filterMap_cons_some (List.getElem?_eq_getElem hi), List.map_cons, List.map_cons, ih fun j hj => hm j (List.mem_cons_of_mem _ hj)]
   congr 1
   simp [Array.getD_eq_getD_getElem?, e5]
/-- the table laid anew, larger -/
theorem relayB {o : Obj} (ho : s.heap.get? a = some o) (hex : o.ExactSet) (hd : o.data = .set es ep t) (hrows : es.toList = L.map (rowB P w)) (hsz : t.place.size = es.size) (hdm : t.dummies = #[]) (hfl : es.size ≤ t.mask)
  (nd : (L.map (·.2)).Nodup) (tup : ∀ p ∈ L, IsK P w s.heap p.2 p.1) (few : L.length < 64) {wanted M : Nat}
  (hw : SetTable.sizeAbove wanted - 1 = M) (hM : MaskOk M) (hw2 : SetTable.sizeAbove wanted ≤ 128) (hn : L.length * 5 < M * 3) {Q : Unit → Shared → Prop}
  (hQ : ∀ h' L' es' ep' t', Heap.SameBut a s.heap h' → SetGr P w h' a L' es' ep' t' → L'.Perm L → Q () { s with heap := h' }) : wpAny Ybt A (setRelay a wanted) Q E s := by
 have hsl : es.size = L.length := by rw [← Array.length_toList, hrows, List.length_map]
 have hfits : t.fits es.size = true := by
  unfold SetTable.fits SetTable.fill
  rw [hdm, Bool.and_eq_true, beq_iff_eq, decide_eq_true_eq]
  show t.place.size = es.size ∧ t.place.size + 0 ≤ t.mask
  omega
 obtain ⟨t', order, e, hp, T, em, _, _, _⟩ := relaid_ok t (hs := es.map (·.1)) (wanted := wanted) hw hM (by rw [Array.size_map, hsl]; omega)
 rw [Array.size_map, hsl] at hp
 obtain ⟨L2, r1, r2, r3⟩ := order_B L es order hrows hp
 rw [← r3] at T
 have hs2 : (order.filterMap (es[·]?)).size = es.size := by rw [← Array.length_toList, r1, List.length_map, r2.length_eq, hsl]
 rw [setRelay_eq]
 refine wpAny_bind (wpAny_setState_of ho hd hfits ?_)
 dsimp only
 refine wp_if_neg (by rw [sizeLine_eq]; omega) ?_
 try refine wpAny_bind (wpAny_pure ?_)
 rw [e]
 dsimp only
 refine wpAny_bind ?_
 refine wp_if_neg (by rw [hs2]; simp) ?_
 try refine wpAny_bind (wpAny_pure ?_)
 refine wpAny_pure ?_
 dsimp only
 refine wpAny_storeSet_of ho hd ?_ (by rw [hs2, hsl, sizeLine_eq]; omega)
 have sb : Heap.SameBut a s.heap (s.heap.update a (Obj.putSet (order.filterMap (es[·]?)) t')) := Heap.SameBut.update ..
 refine hQ _ L2 (order.filterMap (es[·]?)) (ep + 1) t' sb ⟨⟨_, store_at ho hd, ⟨hex.1, hex.2.1, hex.2.2⟩, rfl⟩, r1, T, ?_, fun p hpm => isK_but (tup p (r2.mem_iff.mp hpm)) ho hd sb, by rw [r2.length_eq, em]; exact hn, by rw [r2.length_eq]; exact few⟩ r2
 exact (r2.map (·.2)).nodup_iff.mpr nd
/-- one more put in -/
theorem addGr_in (R : SetGr P w s.heap a L es ep t) {x : Addr} {k : List Key} (hx : IsK P w s.heap k x) (hu : A.units < cLine) (few : L.length + 1 < 64) {Q : Bool → Shared → Prop}
  (hQ : ∀ b h' L' es' ep' t', Heap.SameBut a s.heap h' → SetGr P w h' a L' es' ep' t' → (k ∈ L.map (·.2) → L' = L) → (k ∉ L.map (·.2) → L'.Perm ((x, k) :: L)) → Q b { s with heap := h' }) :
  wpAny Ybt A (setAddHashed a (.ref x) Yam) Q E s := by
 obtain ⟨o, ho, hex, hd⟩ := R.ob
 unfold setAddHashed
 refine wpAny_holding ?_
 rw [show (100000 : Nat) = 99999 + 1 from rfl, setAddHashedIn_succ]
 refine wpAny_bind (wpAny_setState_of ho hd R.fits ?_)
 dsimp only
 refine wp_if_neg (by simp [byScan, Value.scannable]) ?_
 refine wpAny_bind (lookGr_at R hx hu (fun hm => ?_) fun n hm free full => ?_)
 ·dsimp only
  exact wpAny_pure (hQ false s.heap L es ep t (Heap.SameBut.refl a s.heap) R (fun _ => rfl) fun z => absurd hm z)
 ·dsimp only
  refine wpAny_bind (wpAny_setState_of ho hd R.fits ?_)
  dsimp only
  obtain ⟨q1, _, q3, q4, _, _, _, _, q9⟩ := R.tab.put free full
  generalize hpt : t.put Yf0 = pt at q1 q3 q4 q9 ⊢
  obtain ⟨t1, p⟩ := pt
  dsimp only at q1 q3 q4 q9 ⊢
  subst q1
  generalize hj : SetTable.below t.place Yf0 = j at q3 ⊢
  let L1 := L.take j ++ (x, k) :: L.drop j
  have pm : L1.Perm ((x, k) :: L) := by
   have h : L1.Perm ((x, k) :: (L.take j ++ L.drop j)) := List.perm_middle
   rwa [List.take_append_drop] at h
  have l1 : L1.length = L.length + 1 := pm.length_eq
  have rows1 : (SetTable.insertAt es j (hK P w k, Value.ref x)).toList = L1.map fun p => (hK P w p.2, Value.ref p.1) := by
   rw [SetTable.toList_insertAt, R.rows]
   simp only [L1, List.map_append, List.map_cons, List.map_take, List.map_drop]
  have z1 : (SetTable.insertAt es j (hK P w k, Value.ref x)).size = L.length + 1 := by rw [← Array.length_toList, rows1, List.length_map, l1]
  have tab1 : TabOk t1 (L1.map fun p => hK P w p.2) := by
   have e : L1.map (fun p => hK P w p.2) = (L.map fun p => hK P w p.2).take j ++ hK P w k :: (L.map fun p => hK P w p.2).drop j := by
    simp only [L1, List.map_append, List.map_cons, List.map_take, List.map_drop]
   rw [e]
   exact q3
  have nd1 : (L1.map (·.2)).Nodup := by
   refine (pm.map (·.2)).nodup_iff.mpr ?_
   rw [List.map_cons]
   exact List.nodup_cons.mpr ⟨hm, R.nd⟩
  have go : ∀ t2 : SetTable, t2.place = t1.place → t2.dummies = t1.dummies → t2.mask = t1.mask →
    wpAny Ybt A (do
     storeSet a Yt t2
     if !false && t2.tooFull then setRelay a (SetTable.grown (es.size + 1))
     return true) Q E s := fun t2 e1 e2 e3 => by
   refine wpAny_bind (wpAny_storeSet_of ho hd ?_ (by rw [z1, sizeLine_eq]; omega))
   have sb : Heap.SameBut a s.heap (s.heap.update a Yej) := Heap.SameBut.update ..
   have tup1 : ∀ p ∈ L1, IsK P w (s.heap.update a Yej) p.2 p.1 := fun p hp => by
    rcases List.mem_cons.mp (pm.mem_iff.mp hp) with rfl | hp
    ·exact isK_but hx ho hd sb
    ·exact isK_but (R.tup p hp) ho hd sb
   have fe : t2.fill = L.length + 1 := by
    have : t2.fill = t1.fill := by unfold SetTable.fill; rw [e1, e2]
    rw [this, q9, List.length_map]
   have tab2 : TabOk t2 (L1.map fun p => hK P w p.2) := ⟨by rw [e1]; exact tab1.ris, by rw [e2]; exact tab1.dm, by rw [e1]; exact tab1.sz, by rw [e3]; exact tab1.mok, by rw [e1, e3]; exact tab1.bd, by rw [e1, e3]; exact tab1.reach⟩
   have room := R.room
   by_cases hf : t2.tooFull = true
   ·have hfull : (L.length + 1) * 5 ≥ t.mask * 3 := by
     have h := hf
     unfold SetTable.tooFull at h
     rw [decide_eq_true_eq, fe, e3, q4] at h
     exact h
    have cases2 : (t.mask = 7 ∧ L.length = 4) ∨ (t.mask = 31 ∧ L.length = 18) := by
     rcases R.tab.mok with e | e | e
     ·left; rw [e] at hfull room; exact ⟨e, by omega⟩
     ·right; rw [e] at hfull room; exact ⟨e, by omega⟩
     ·exfalso; rw [e] at hfull; omega
    have sz : es.size = L.length := R.size
    have grow : ∀ M, SetTable.sizeAbove (SetTable.grown (L.length + 1)) - 1 = M → MaskOk M → SetTable.sizeAbove (SetTable.grown (L.length + 1)) ≤ 128 → (L.length + 1) * 5 < M * 3 →
      wpAny Ybt A (setRelay a (SetTable.grown (L.length + 1))) (fun _ s' => wpAny Ybt A (pure true) Q E s') E { s with heap := s.heap.update a Yej } := fun M h1 h2 h3 h4 => by
     refine relayB (L := L1) (s := { s with heap := s.heap.update a Yej }) (store_at ho hd) ⟨hex.1, hex.2.1, hex.2.2⟩ rfl rows1 (by rw [tab2.sz, List.length_map, l1, z1]) tab2.dm (by rw [z1, e3, q4]; rcases cases2 with ⟨e, e2⟩ | ⟨e, e2⟩ <;> omega) nd1 tup1 (by omega) h1 h2 h3 (by rw [l1]; exact h4) ?_
     intro h2 L2 es2 ep2 t2' sb2 R2 pm2
     exact wpAny_pure (hQ true h2 L2 es2 ep2 t2' (sb.trans sb2) R2 (fun z => absurd z hm) fun _ => pm2.trans pm)
    have fin : wpAny Ybt A (setRelay a (SetTable.grown (es.size + 1))) (fun _ s' => wpAny Ybt A (pure true) Q E s') E { s with heap := s.heap.update a Yej } := by
     rw [sz]
     rcases cases2 with ⟨_, e2⟩ | ⟨_, e2⟩
     ·exact grow 31 (by rw [e2, size_20]) (.inr (.inl rfl)) (by rw [e2, size_20]; decide) Yc
     ·exact grow 127 (by rw [e2, size_76]) (.inr (.inr rfl)) (by rw [e2, size_76]; decide) Yc
    first
     | exact wpAny_bind (wp_if_pos (by simp [hf]) fin)
     | exact wp_if_pos (by simp [hf]) (wpAny_bind fin)
   ·have room1 : L1.length * 5 < t2.mask * 3 := by
     have h := hf
     unfold SetTable.tooFull at h
     rw [decide_eq_true_eq, fe] at h
     rw [l1]
     omega
    have done : ∀ b, Q b { s with heap := s.heap.update a Yej } := fun b =>
     hQ b _ L1 _ (ep + 1) t2 sb ⟨⟨_, store_at ho hd, ⟨hex.1, hex.2.1, hex.2.2⟩, rfl⟩, rows1, tab2, nd1, tup1, room1, by rw [l1]; omega⟩ (fun z => absurd z hm) fun _ => pm
    first
     | exact wpAny_bind (wp_if_neg (by simp [hf]) (wpAny_pure (wpAny_pure (done true))))
     | exact wp_if_neg (by simp [hf]) (wpAny_pure (done true))
  by_cases pl : t1.plain = true
  ·have br : ∀ b : Bool, wpAny Ybt A (do
     storeSet a Yt (if b = true then t1 else { t1 with plain := false })
     if !false && (if b = true then t1 else { t1 with plain := false }).tooFull then setRelay a (SetTable.grown (es.size + 1))
     return true) Q E s := fun b => by
    cases b with
    | true => exact go t1 rfl rfl rfl
    | false => exact go { t1 with plain := false } rfl rfl rfl
   first
    | (refine wpAny_bind ?_; refine wp_if_pos pl ?_; refine plain_hash hx ?_; exact br)
    | (refine wp_if_pos pl (wpAny_bind (plain_hash hx ?_)); exact br)
  ·first
    | (refine wpAny_bind ?_; refine wp_if_neg pl ?_; refine wpAny_pure ?_; exact go t1 rfl rfl rfl)
    | (refine wp_if_neg pl ?_; refine wpAny_bind (wpAny_pure ?_); exact go t1 rfl rfl rfl)
    | (refine wp_if_neg pl ?_; exact go t1 rfl rfl rfl)
end
section
variable {X : Cx}
/-- the set behind the first i of the tuples ents -/
structure PhGr (P : Program) (w : World) (S n0 : Addr) (ents : List Ya6) (i : Nat) (h : Heap) : Prop where
 tup : ∀ e ∈ ents, IsK P w h e.2 e.1 ∧ e.1 < n0
 st : ∃ L es ep t, SetGr P w h S L es ep t ∧ (∀ p ∈ L, p ∈ ents) ∧ (∀ k, k ∈ L.map (·.2) ↔ k ∈ zc9 ((ents.map (·.2)).take i)) ∧ L.length = (zc9 ((ents.map (·.2)).take i)).length
def tLenSetGr (K : PySem.W.Frag) (ta : TE) : TE := fun σ H Q => ta σ H fun x H1 => ∃ (l : Addr) (es : List Ya6), x = .ref l ∧ SqL K H1 l ((es.map (·.1)).map V.ref) ∧ (∀ e ∈ es, SqT K H1 e.1 (e.2.map kV)) ∧ es.length ≤ 63 ∧ Q (.int (((zc9 (es.map (·.2))).length : Nat) : Int)) H1
theorem pe_lenSetGr {a : Expr} {ta : TE} {p p2 q pos : Pos} (hc : X.calm = true) (hu : X.A.units + 64 < cLine) (hg : Gl X "len") (hm : X.mg "len" = none) (hg2 : Gl X "set") (hm2 : X.mg "set" = none) (ha : PE X a ta)
  (na : starEach [a] X.env = (false, eval a X.env) :: starEach [] X.env := by rfl) : PE X Yaw (tLenSetGr X.K ta) := ⟨fun pins s σ H Q I h => by
 refine Call_ (ld_blt I hg hm boot_len (callWith_builtin1 (args_cons (Call_ (ld_blt I hg2 hm2 boot_set (callWith_type1 (args_cons (thn (ha.run pins s σ H _ I h) ?_) na) na rfl))) rfl) rfl rfl))
 rintro v s1 ⟨x, H1, I1, r1, l, es, rfl, hq, ht, hz, q1⟩
 cases r1
 obtain ⟨its, rv, pl, _⟩ := I1.list hq
 have ei := refs_at rv
 subst ei
 have tp : ∀ e ∈ es, IsK X.prog X.w s1.heap e.2 e.1 ∧ e.1 < s1.heap.objs.size := fun e he => by
  obtain ⟨us, ru, tu, _⟩ := I1.tuple (ht e he)
  obtain ⟨o, g, c, n, d⟩ := tu
  exact ⟨⟨o, us.toArray, n, g, c, d, by simpa using items_are ru⟩, Heap.lt_size g⟩
 have hn : ((es.map (·.1)).map Value.ref).toArray.size = es.length := by simp
 refine args_nil (call_setL (items := ((es.map (·.1)).map Value.ref).toArray) (I1.ok.hd hc) pl.isList (PhGr X.prog X.w s1.heap.objs.size s1.heap.objs.size es) ?_ ?_ ?_ ?_)
 ·intro led h g k
  refine ⟨fun e he => ?_, [], #[], 0, _, ⟨⟨_, g, ⟨rfl, rfl, rfl⟩, rfl⟩, rfl, ⟨List.Pairwise.nil, rfl, rfl, .inl rfl, fun x hx => (by cases hx), fun i h j hi => (by simp at hi)⟩, List.nodup_nil, fun p hp => (by cases hp), by show 0 * 5 < 7 * 3; decide, by show 0 < 64; decide⟩, fun p hp => (by cases hp), fun k => by simp [zc9], by simp [zc9]⟩
  obtain ⟨⟨o, us, n, g1, c, d, it⟩, lt⟩ := tp e he
  exact ⟨⟨o, us, n, k _ _ g1, c, d, it⟩, lt⟩
 ·rintro i h h' ⟨tup, L, e1, ep, t, R, sub, mem, len⟩ k
  have keep : ∀ e ∈ es, IsK X.prog X.w h' e.2 e.1 := fun e he => by
   obtain ⟨⟨o, us, n, g1, c, d, it⟩, lt⟩ := tup e he
   exact ⟨o, us, n, k _ _ (Nat.ne_of_lt (Nat.lt_succ_of_lt lt)) g1, c, d, it⟩
  obtain ⟨o, ho, r⟩ := R.ob
  exact ⟨fun e he => ⟨keep e he, (tup e he).2⟩, L, e1, ep, t, ⟨⟨o, k _ _ (Nat.ne_of_lt Ye7) ho, r⟩, R.rows, R.tab, R.nd, fun p hp => keep p (sub p hp), R.room, R.few⟩, sub, mem, len⟩
 ·intro A' i v s2 Q2 E2 hA hAu hv ph k
  have hi : i < es.length := by
   have := (Array.getElem?_eq_some_iff.mp hv).1
   rwa [hn] at this
  obtain ⟨tup, L, e1, ep, t, R, sub, mem, len⟩ := ph
  have ev : v = .ref es[i].1 := by
   have e3 : ((es.map (·.1)).map Value.ref)[i]? = some v := by simpa using hv
   rw [List.getElem?_map, List.getElem?_map, List.getElem?_eq_getElem hi] at e3
   exact (Option.some.inj e3).symm
  subst ev
  have me : es[i] ∈ es := List.getElem_mem hi
  have tk : (es.map (·.2)).take (i + 1) = (es.map (·.2)).take i ++ [es[i].2] := by
   rw [List.take_succ, List.getElem?_map, List.getElem?_eq_getElem hi]
   rfl
  have fw : L.length + 1 < 64 := by
   have h1 := onceT_le ((es.map (·.2)).take i) []
   have h2 : ((es.map (·.2)).take i).length ≤ i := by rw [List.length_take]; omega
   rw [len]
   simp only [List.length_nil] at h1
   unfold zc9
   omega
  have hu' : A'.units < cLine := by omega
  unfold setAdd
  refine wpAny_holding (wpAny_bind (wpAny_pyHash_tuple (knd := mixKind X.prog X.w) hu' (tup _ me).1 ?_))
  refine addGr_in (s := { s2 with toks := s2.toks + (es[i].2.length + 1) }) (L := L) R (tup _ me).1 hu' fw fun b h' L' es' ep' t' sb R' same more => ?_
  have keep : ∀ e ∈ es, IsK X.prog X.w h' e.2 e.1 := fun e he => by
   obtain ⟨o, ho, _, hd⟩ := R.ob
   exact isK_but (tup e he).1 ho hd sb
  refine k b h' _ sb (Nat.le_add_right _ _) ⟨fun e he => ⟨keep e he, (tup e he).2⟩, L', es', ep', t', R', ?_⟩
  by_cases hm : es[i].2 ∈ L.map (·.2)
  ·have eL := same hm
   subst eL
   have hm2 := (mem _).mp hm
   rw [tk, onceT_snoc, if_pos (memT_iff.mpr hm2)]
   exact ⟨sub, mem, len⟩
  ·have pm := more hm
   have hm2 : ¬ es[i].2 ∈ zc9 ((es.map (·.2)).take i) := fun z => hm ((mem _).mpr z)
   rw [tk, onceT_snoc, if_neg fun z => hm2 (memT_iff.mp z)]
   refine ⟨fun p hp => ?_, fun kk => ?_, by rw [pm.length_eq, List.length_cons, len, List.length_append]; rfl⟩
   ·rcases List.mem_cons.mp (pm.mem_iff.mp hp) with rfl | hp
    ·exact me
    ·exact sub p hp
   ·rw [(pm.map (·.2)).mem_iff, List.map_cons, List.mem_cons, List.mem_append, List.mem_singleton, mem]
    exact Or.comm
 ·intro h' tk ph k
  have I2 : Inv X pins σ H1 { s1 with heap := h', toks := tk } := I1.kept k
  obtain ⟨_, L, e1, ep, t, R, _, _, len⟩ := ph
  obtain ⟨o, ho, hex, hd⟩ := R.ob
  have sz := SetGr.size (s := { s1 with heap := h', toks := tk }) R
  have fw := R.few
  rw [hn] at len
  rw [List.take_of_length_le Yav] at len
  exact args_nil (call_len_set ho hex hd (SetGr.fits (s := { s1 with heap := h', toks := tk }) R) Yc ⟨.int (((zc9 (es.map (·.2))).length : Nat) : Int), H1, I2.tok _, ⟨_, by rw [sz, len]⟩, q1⟩)⟩
end
/-- len(set(tuples)) -/
def mLenSetGr (F : M W) : M W := fun eta hp => (F eta hp).bind fun w h => match w with
 | .t (.lst ts) => match tupsT ts with
  | some ks => if ks.length ≤ 63 then .ok (.t (.int (((zc9 ks).length : Nat) : Int))) h else .bad
  | none => .bad
 | _ => .bad
section
variable {X : Cx} {Wx : WX} {a : Expr} {F : M W} {p p2 q pos : Pos}
theorem ie_lenSetGr (hc : X.calm = true) (hu : X.A.units + 64 < cLine) (hm : X.mg "len" = none) (hm2 : X.mg "set" = none) (ha : IE X Wx a F) (hg : Gl X "len" := by rfl) (hg2 : Gl X "set" := by rfl)
  (na : starEach [a] X.env = (false, eval a X.env) :: starEach [] X.env := by rfl) : IE X Wx Yaw (mLenSetGr F) :=
 PE.imp (pe_lenSetGr hc hu hg hm hg2 hm2 ha na) fun σ H Q h =>
  tM.bind1 (R := fun (x : V) (H1 : Hp) => ∃ (l : Addr) (es : List Ya6), x = .ref l ∧ SqL X.K H1 l ((es.map fun e : Addr × List Key => e.1).map V.ref) ∧ (∀ e ∈ es, SqT X.K H1 e.1 (e.2.map kV)) ∧ es.length ≤ 63 ∧ Q (.int (((zc9 (es.map fun e : Addr × List Key => e.2)).length : Nat) : Int)) H1)
   (k := fun (w : W) _ h => match w with | .t (.lst ts) => (match tupsT ts with | some ks => (if ks.length ≤ 63 then .ok (.t (.int (((zc9 ks).length : Nat) : Int))) h else .bad : Res W) | none => .bad) | _ => .bad) h fun s eta w v R1 S1 f1 g => by
   split at g
   ·rename_i ts
    split at g
    ·rename_i ks hk
     split at g
     ·rename_i hz
      simp only [Rw, Rf] at f1
      obtain ⟨b, vs, rfl, fl, l⟩ := f1
      obtain ⟨es, e1, e2, e3⟩ := tups_rf hk l
      subst e1
      refine ⟨b, es, rfl, .inl (.inl fl.2), e3, ?_, ?_⟩
      ·rw [← e2, List.length_map] at hz
       exact hz
      ·rw [e2]
       exact g _ s rfl Yg R1 Ye
     ·exact g.elim
    ·exact g.elim
   ·exact g.elim
end
end Mir
namespace Mir
open PySem PySem.Spec L2
open PyProof.Rows hiding St
/-- a step made n times over nothing -/
def recN (S : OpN → OpN) : Nat → OpN
 | 0 => fun _ _ => .bad
 | n + 1 => S (recN S n)
theorem recN_len {S : OpN → OpN} {m : Nat} (h : ∀ G ws hp, ws.length ≠ m → S G ws hp = .bad) : ∀ (k : Nat) ws hp, ws.length ≠ m → recN S k ws hp = .bad
 | 0, _, _, _ => rfl
 | k + 1, ws, hp, e => h (recN S k) ws hp e
section
variable {P : Program} {w : World} {K : PySem.W.Frag} {mg : Str → Option Value} {base : Heap} {f : Addr} {fd : FuncData} {ps : List Str}
theorem fnG_bot {k m : Nat} {CX : CXT} (hp : m = ps.length) : FnG P w K mg base CX k f fd ps (spM K w (fun _ _ => .bad) m) :=
 ⟨fun vs H Q E h => hp ▸ spM_len h, fun A outer s H args us vs Q E hr hg e0 hb r h => by
  obtain ⟨_, _, _, _, _, _, g⟩ := h
  exact g.elim⟩
theorem fnG_rec {S : OpN → OpN} {L m : Nat} {CX : CXT} (hS : ∀ G ws hp, ws.length ≠ m → S G ws hp = .bad)
  (step : ∀ (G : OpN) (r : Nat), (∀ ws hp, ws.length ≠ m → G ws hp = .bad) → FnG P w K mg base CX (L + r) f fd ps (spM K w G m) → FnG P w K mg base CX (L + r + 1) f fd ps (spM K w (S G) m)) (hp : m = ps.length) :
  ∀ n, FnG P w K mg base CX (L + n) f fd ps (spM K w (recN S n) m)
 | 0 => fnG_bot hp
 | n + 1 => step (recN S n) n (recN_len hS n) (fnG_rec hS step hp n)
end
section
variable {X : Cx} {a : Addr} {oe : Obj} {cls : Value} {d : Option Addr} {pn : List Ydk} {i : Nat} {c : Str} {n : Str} {p p2 pos : Pos} {e2 : Expr}
def rIsXT (K : PySem.W.Frag) (a C : Addr) (d : Option Addr) : List V → Hp → VK → Prop := fun xs H Q => ∃ (tp : Addr) (us : List Value) (b : Bool), xs = [.ref a, .ref tp] ∧ ((∃ o cs, H tp = some (.frz o (.tup cs)) ∧ Paired ClsV cs us) ∨ ∃ dd m sl, K.lookup tp = some ⟨.type "tuple", dd, .seq us.toArray m, sl⟩) ∧ PySem.W.kitAny K (.ref C) us = some b ∧ (d = none ∨ ∃ dd fs, d = some dd ∧ H dd = some (.xd fs)) ∧ Q (.bl b) H
theorem call_isXT {C : Addr} (x : XcF X.K C) (hz : Zc (.ref C) d oe) (hf : ∃ vs, oe.data = .fields vs) : CallR Y0 Yfy (rIsXT X.K a C d) := by
 intro pins s σ H xs us Q I r h
 obtain ⟨tp, ws, b, rfl, ht, e, hd, q⟩ := h
 obtain ⟨u1, u2, rfl, r1, r2⟩ := vals2 r
 cases (show u1 = Value.ref a from r1)
 cases (show u2 = Value.ref tp from r2)
 obtain ⟨hget, _⟩ := I.pin (a, oe) (List.mem_append.mpr (.inl List.mem_cons_self))
 obtain ⟨vs, hv⟩ := hf
 have J : ∃ od, PySem.W.InstAt s.heap a oe C od := by
  rcases hd with hd | ⟨dd, fs, ed, eH⟩
  ·subst hd
   refine ⟨none, ?_⟩
   obtain ⟨oc, od, oda, osl⟩ := oe
   obtain ⟨h1, h2⟩ := hz
   dsimp only at h1 h2 hv
   subst h1 h2 hv
   exact ⟨hget, rfl, rfl, trivial⟩
  ·subst ed
   have hx : ObjOk X.prog X.w H s.heap dd (.xd fs) := I.hok dd _ eH
   obtain ⟨mA, hns, hr⟩ := hx
   obtain ⟨od, ho, hl⟩ := lookIn_ns hns
   exact ⟨some od, hget, hz.1, by unfold PySem.W.notCls; rw [hv] <;> rfl, by rw [hz.2]; exact ho⟩
 obtain ⟨od, J⟩ := J
 have T : ∃ dd m sl, s.heap.get? tp = some ⟨.type "tuple", dd, .seq ws.toArray m, sl⟩ := by
  rcases ht with ⟨o, cs, hT, k⟩ | ⟨dd, m, sl, lk⟩
  ·obtain ⟨_, _, its, rv, o1, h1, h2, m, h3⟩ := (show ObjOk X.prog X.w H s.heap tp (.frz o (.tup cs)) from I.hok tp _ hT)
   have e3 := ClsV.all k rv
   subst e3
   obtain ⟨oc, od, dt, sl⟩ := o1
   simp only at h2 h3
   subst h2 h3
   exact ⟨_, _, _, h1⟩
  ·exact ⟨dd, m, sl, I.kIn _ _ lk⟩
 obtain ⟨dd, m, sl, T⟩ := T
 exact PySem.W.kia_tup (PySem.W.kitx_exc x.cl x.ga x.gg x.exC x.ha x.hn x.ht x.hm) I.kIn J T e (fun z => nomatch z) fun tk => ⟨.bl b, H, I.kept (t' := tk) fun _ _ z => z, rfl, q⟩
/-- isinstance(e, (C, ..)): the classes are known, so is the answer -/
def mXIt (ds : List CT) (b : Bool) (F : M W) : M W := fun eta hp => (F eta hp).bind fun w h => match w with
 | .t (.tup cs) => if clCs cs = some ds then .ok Ydl h else .bad
 | _ => .bad
theorem kx_nil {K : PySem.W.Frag} {C : Addr} : ∀ us, Paired (CVal K) [] us → PySem.W.kitAny K (.ref C) us = some false := fun us h => by cases h; rfl
theorem kx_f {K : PySem.W.Frag} {C : Addr} {ct : CT} {ds : List CT} {b : Bool} (h1 : ∀ cv, CVal K ct cv → PySem.W.kitOne K (.ref C) cv = some false) (h2 : ∀ us, Paired (CVal K) ds us → PySem.W.kitAny K (.ref C) us = some b) : ∀ us, Paired (CVal K) (ct :: ds) us → PySem.W.kitAny K (.ref C) us = some b := fun us h => by
 cases h with
 | cons q p =>
  unfold PySem.W.kitAny
  rw [h1 _ q]
  exact h2 _ p
theorem xe_isiT {C : Addr} {ds : List CT} {b : Bool} {F : M W} (cn : CN X.K c C) (x : XcF X.K C) (hz : Zc cls d oe) (hf : ∃ vs, oe.data = .fields vs) (htab : ∀ us, Paired (CVal X.K) ds us → PySem.W.kitAny X.K (.ref C) us = some b)
  (h2 : IE Y0 W0 e2 F) (hm : X.mg "isinstance" = none) (hN : X.N[i]? = some n := by rfl) (hv : Vis X.env.scope n := by first | exact Or.inl rfl | exact Or.inr (Or.inl rfl) | exact Or.inr (Or.inr rfl)) (hd : (n == ("__debug__" : Str)) = false := by decide) (hcd : (n == ("__classdict__" : Str)) = false := by decide)
  (hg : Gl Y0 "isinstance" := by rfl)
  (he : starEach [.Name n p, e2] X.env = (false, eval (.Name n p) X.env) :: starEach [e2] X.env := by rfl) (he2 : starEach [e2] X.env = (false, eval e2 X.env) :: starEach [] X.env := by rfl) (hpl : (backTo pos (starEach [e2] X.env)).any (·.1) = false := by rfl) :
  XE X a oe cls d pn i c (.Call (.Name "isinstance" p2) [.Name n p, e2] [] pos) (fun _ => mXIt ds b F) := by
 refine ⟨fun pins s σ H Q I h => ?_⟩
 obtain ⟨e0, ex, s0, eta, e1, R1, S1, ec, er, g⟩ := h
 subst e1
 obtain ⟨C', eC, cn', er'⟩ := id er
 rw [ec] at cn'
 cases cn'.inj cn
 subst eC
 refine (pe_callB (X := X.suite a ((a, oe) :: pn)) (call_isXT (d := d) x hz hf) hg hm Yeq (pa_cons Yb9 (pa_cons h2 pa_nil he2) he) Ybd Ybd he hpl).run pins s σ s0.H Q I ⟨_, e0, s0, eta, rfl, R1, S1, Go.bind g fun w v s' q2 q3 q4 _ g' => ?_⟩
 have nl := er.nl R1
 have er2 := er.aft q2 R1 nl
 split at g'
 ·rename_i cs
  split at g'
  ·rename_i hc
   have q5 := g' (.bl b) s' rfl (Aft.refl s') q3 Ye
   simp only [Rw, Rf] at q4
   obtain ⟨tp, vs, rfl, f, l⟩ := q4
   obtain ⟨us, p1, p2⟩ := cls_at hc l
   refine ⟨tp, us, b, rfl, ?_, htab us p2, ?_, ?_⟩
   ·rcases f with ⟨_, o, hH, _⟩ | ⟨o, its, m, k1, k2, _, k3, _, k4⟩
    ·exact .inl ⟨o, vs, hH, p1⟩
    ·have e3 := ClsV.all p1 k4
     obtain ⟨oc, od, dt, sl⟩ := o
     simp only at k2 k3
     subst k2 k3
     exact .inr ⟨od, m, sl, by rw [k1, ← e3]⟩
   ·obtain ⟨_, _, _, h⟩ := er2
    rcases h with ⟨_, h⟩ | ⟨dd, vs, h1, h2, _⟩
    ·exact .inl h
    ·exact .inr ⟨dd, vs, h1, h2⟩
   ·exact q5
  ·exact g'.elim
 ·exact g'.elim
end
end Mir
namespace Mir
open PySem PySem.Spec L2
open PyProof.Rows hiding St
/-- the run ends well, with a value and a heap of which Q holds -/
structure Wp {A : Type} (r : Res A) (Q : A → IH → Prop) : Prop where
 out : match r with
  | .ok a h => Q a h
  | _ => False
section
variable {A B : Type} {r : Res A} {k : A → IH → Res B} {P Q : A → IH → Prop} {R : B → IH → Prop} {a : A} {h hp : IH}
theorem Wp.ok (q : Q a h) : Wp (.ok a h) Q := ⟨q⟩
theorem Wp.ex (q : Wp r Q) : ∃ a h, r = .ok a h ∧ Q a h := by
 obtain ⟨q⟩ := q
 cases r <;> first | exact ⟨_, _, rfl, q⟩ | exact q.elim
theorem Wp.bind (q : Wp r fun a h => Wp (k a h) R) : Wp (r.bind k) R := by
 obtain ⟨a, h, rfl, q2⟩ := q.ex
 exact q2
theorem Wp.noEr (q : Wp r Q) : Wp (noEr r) Q := by
 obtain ⟨a, h, rfl, q2⟩ := q.ex
 exact Wp.ok q2
theorem Wp.mono (q : Wp r P) (i : ∀ a h, P a h → Q a h) : Wp r Q := by
 obtain ⟨a, h, rfl, q2⟩ := q.ex
 exact Wp.ok (i _ _ q2)
theorem Wp.of (e : r = .ok a h) (q : Q a h) : Wp r Q := by rw [e]; exact Wp.ok q
theorem Wp.rw {r' : Res A} (e : r = r') (q : Wp r' Q) : Wp r Q := by rw [e]; exact q
theorem Wp.itt {c : Prop} [Decidable c] {x y : Res A} (hc : c) (t : Wp x Q) : Wp (if c then x else y) Q := by rw [if_pos hc]; exact t
theorem Wp.itf {c : Prop} [Decidable c] {x y : Res A} (hc : ¬ c) (t : Wp y Q) : Wp (if c then x else y) Q := by rw [if_neg hc]; exact t
end
section
variable {eta : IS} {hp : IH} {Q : W → IH → Prop} {QL : List W → IH → Prop} {QB : Bool → IH → Prop} {QF : Fl → IH → Prop}
theorem zbw {i : Nat} {w : W} (e : eta[i]? = some (some w)) (q : Q w hp) : Wp (mVar i eta hp) Q := Wp.of (varP e) q
theorem vc_c {x : T} (q : Q (.t x) hp) : Wp (mC x eta hp) Q := Wp.ok q
theorem vc_bin {f : Op2} {Fa Fb : M W} (q : Wp (Fa eta hp) fun a h1 => Wp (Fb eta h1) fun b h2 => Wp (f a b h2) Q) : Wp (mBin f Fa Fb eta hp) Q := Wp.bind (q.mono fun _ _ q => Wp.bind q)
theorem vc_un {f : Op1} {Fa : M W} (q : Wp (Fa eta hp) fun a h1 => Wp (f a h1) Q) : Wp (mUn f Fa eta hp) Q := Wp.bind q
theorem zbz (q : QL [] hp) : Wp (mNil eta hp) QL := Wp.ok q
theorem zat {Fa : M W} {Fr : M (List W)} (q : Wp (Fa eta hp) fun a h1 => Wp (Fr eta h1) fun r h2 => QL (a :: r) h2) : Wp (zab Fa Fr eta hp) QL := Wp.bind (q.mono fun _ _ q => Wp.bind Yc0)
theorem zck {f : OpN} {Fs : M (List W)} (q : Wp (Fs eta hp) fun ws h1 => Wp (f ws h1) Q) : Wp (mApp f Fs eta hp) Q := Wp.bind q
theorem vc_test {f : W → IH → Res Bool} {F : M W} (q : Wp Ydj fun a h1 => Wp (f a h1) QB) : Wp (zaf f F eta hp) QB := Wp.bind q
theorem vc_asB {b : Bool} (q : QB b hp) : Wp (asB Ydl hp) QB := Wp.ok q
theorem vc_and {U V : M Bool} (q : Wp (U eta hp) fun a h1 => Wp (if a then V eta h1 else .ok false h1) QB) : Wp (mAnd U V eta hp) QB := Wp.bind q
theorem vc_or {U V : M Bool} (q : Wp (U eta hp) fun a h1 => Wp (if a then .ok true h1 else V eta h1) QB) : Wp (mOr U V eta hp) QB := Wp.bind q
theorem vc_not {U : M Bool} (q : Wp (U eta hp) fun a h1 => QB (!a) h1) : Wp (mNot U eta hp) QB := Wp.bind Yc0
theorem vc_if {A : Type} {QA : A → IH → Prop} {U : M Bool} {F G : M A} (q : Wp (U eta hp) fun b h1 => Wp (if b then F eta h1 else G eta h1) QA) : Wp (mIf U F G eta hp) QA := Wp.bind q
theorem zbf (q : QF Yc1 hp) : Wp (zbu eta hp) QF := Wp.ok q
theorem zao {S R : M Fl} (q : Wp (S eta hp) fun fl h1 => Wp (thenF R fl h1) QF) : Wp (mSeq S R eta hp) QF := Wp.bind q
theorem za6 {R : M Fl} {e : IS} (q : Wp (R e hp) QF) : Wp (thenF R (.nx e) hp) QF := q
theorem vc_rt {R : M Fl} {w : W} (q : QF (.rt w) hp) : Wp (thenF R (.rt w) hp) QF := Wp.ok q
theorem za8 {F : M W} (q : Wp Ydj fun a h1 => QF (.rt a) h1) : Wp (mRet F eta hp) QF := Wp.bind Yc0
theorem vc_drop {F : M W} (q : Wp Ydj fun _ h1 => QF Yc1 h1) : Wp (mDrop F eta hp) QF := Wp.bind Yc0
theorem zbe {i : Nat} {F : M W} (q : Wp Ydj fun a h1 => QF (.nx Ydo) h1) : Wp (mSet i F eta hp) QF := Wp.bind Yc0
theorem vc_asg {F : M W} {G : W → IS → Option IS} (q : Wp Ydj fun a h1 => ∃ e, G a eta = some e ∧ QF (.nx e) h1) : Wp (mAsg F G eta hp) QF := Wp.bind (q.mono fun a h1 ⟨e, he, q⟩ => by show Wp (match G a eta with | some e => .ok (.nx e) h1 | none => .bad) QF; rw [he]; exact Wp.ok q)
theorem vc_par2 {i j : Nat} {Fs : M (List W)} (q : Wp (Fs eta hp) fun ws h1 => ∃ a b, ws = [a, b] ∧ QF (.nx ((eta.set i (some a)).set j (some b))) h1) : Wp (mPar [i, j] Fs eta hp) QF := Wp.bind (q.mono fun ws h1 ⟨a, b, he, q⟩ => by subst he; exact Wp.ok q)
theorem vc_parG {n : Nat} {Fs : M (List W)} {Gs : List W → IS → Option IS} (q : Wp (Fs eta hp) fun ws h1 => (ws.length = n ∧ n ≤ 16777216) ∧ ∃ e, Gs ws eta = some e ∧ QF (.nx e) h1) : Wp (mParG n Fs Gs eta hp) QF := Wp.bind (q.mono fun ws h1 ⟨hl, e, he, q⟩ => by
 show Wp (if ws.length = n ∧ n ≤ 16777216 then (match Gs ws eta with | some e => .ok (.nx e) h1 | none => .bad) else .bad) QF
 rw [if_pos hl, he]
 exact Wp.ok q)
theorem vc_for {Fi : M (List W)} {G : W → IS → Option IS} {S : M Fl} (q : Wp (Fi eta hp) fun ws h1 => Wp (forL G S ws eta h1) QF) : Wp (mFor Fi G S eta hp) QF := Wp.bind q
theorem vc_sq {F : M W} (q : Wp Ydj fun a h1 => Wp (sqI a h1) QL) : Wp (mSq F eta hp) QL := Wp.bind q
theorem vc_src {f : List W → IH → Res (List W)} {Fs : M (List W)} (q : Wp (Fs eta hp) fun ws h1 => Wp (f ws h1) QL) : Wp (mSrc f Fs eta hp) QL := Wp.bind q
theorem vc_call {f : OpN} {Fs : M (List W)} (q : Wp (Fs eta hp) fun ws h1 => Wp (f ws h1) Q) : Wp (zan f [] Fs eta hp) Q := Wp.bind (q.mono fun ws h1 q => by
 show Wp (noEr (f (ws ++ [].map W.t) h1)) Q
 rw [List.map_nil, List.append_nil]
 exact Wp.noEr q)
theorem vc_callD {f : OpN} {ds : List T} {Fs : M (List W)} (q : Wp (Fs eta hp) fun ws h1 => Wp (f (ws ++ ds.map W.t) h1) Q) : Wp (zan f ds Fs eta hp) Q := Wp.bind (q.mono fun ws h1 q => Wp.noEr q)
theorem vc_meth {ty : W → IH → Bool} {f : OpM} {Fo : M W} {Fs : M (List W)} (q : Wp (Fo eta hp) fun w h1 => ty w h1 = true ∧ Wp (Fs eta h1) fun ws h2 => Wp (f w ws h2) Q) : Wp (mMeth ty f Fo Fs eta hp) Q := Wp.bind (q.mono fun w h1 ⟨t, q⟩ => by
 show Wp (if ty w h1 = true then (Fs eta h1).bind fun ws h2 => f w ws h2 else .bad) Q
 rw [if_pos t]
 exact Wp.bind q)
theorem vc_sl {Fa : M W} {Fl Fh : MO} (q : Wp (Fa eta hp) fun a h1 => Wp (Fl eta h1) fun l h2 => Wp (Fh eta h2) fun h h3 => Wp (slW a l h h3) Q) : Wp (mSl Fa Fl Fh eta hp) Q := Wp.bind Yf7
theorem vc_slL {Fa : M W} {Fl Fh : MO} (q : Wp (Fa eta hp) fun a h1 => Wp (Fl eta h1) fun l h2 => Wp (Fh eta h2) fun h h3 => Wp (slL a l h h3) Q) : Wp (mSlL Fa Fl Fh eta hp) Q := Wp.bind Yf7
theorem vc_noPart {QO : Option Int → IH → Prop} (q : QO none hp) : Wp (zbc eta hp) QO := Wp.ok q
theorem vc_part {QO : Option Int → IH → Prop} {F : M W} (q : Wp Ydj fun a h1 => ∃ i, a = .t (.int i) ∧ QO (some i) h1) : Wp (zca F eta hp) QO := Wp.bind (q.mono fun a h1 ⟨i, e, q⟩ => by subst e; exact Wp.ok q)
theorem vc_fz {i : Nat} {S : M Fl} {w : W} (e : eta[i]? = some (some w)) (q : Wp (zcf w hp) fun w' h1 => Wp (S (eta.set i (some w')) h1) QF) : Wp (mFz i S eta hp) QF := by
 rw [p_fz, e]
 exact Wp.bind q
theorem vc_comp {fin : OpN} {Fi : M (List W)} {G : W → IS → Option IS} {U : M Bool} {E : M W} {vs : List Nat} (q : Wp (Fi eta hp) fun ws h1 => ws.length ≤ 16777216 ∧ Wp (zb8 G U E (wipeI eta vs) ws h1) fun r h2 => Wp (fin r h2) Q) : Wp (zbq fin Fi G U E vs eta hp) Q := Wp.bind (q.mono fun ws h1 ⟨hl, q⟩ => by
 show Wp (if ws.length ≤ 16777216 then (zb8 G U E (wipeI eta vs) ws h1).bind fun r h2 => fin r h2 else .bad) Q
 rw [if_pos hl]
 exact Wp.bind q)
theorem vc_chain {f g : Op2} {Fa Fb Fc : M W} (q : Wp (Fa eta hp) fun a h1 => Wp (Fb eta h1) fun b h2 => Wp (f a b h2) fun z h3 => ∃ t, z = .t (.bl t) ∧ if t then Wp (Fc eta h3) fun c h4 => Wp (g b c h4) Q else Q (.t Ya3) h3) : Wp (mChain f g Fa Fb Fc eta hp) Q :=
 Wp.bind (q.mono fun _ _ q => Wp.bind (q.mono fun _ _ q => Wp.bind (q.mono fun z h3 ⟨t, e, q⟩ => by subst e; cases t <;> first | exact Wp.ok q | exact Wp.bind q)))
theorem vc_fld {cs : List Str} {f : Str} {F : M W} (q : Wp Ydj fun a h1 => Wp (fldW cs f a h1) Q) : Wp (mFld cs f F eta hp) Q := Wp.bind q
theorem vc_yes (q : QB true hp) : Wp (mYes eta hp) QB := Wp.ok q
theorem vc_lstE {ws : List W} {ts : List T} (e : allT ws = some ts) (hl : ts.length ≤ 16777216) (q : Q Y3 hp) : Wp (zaj ws hp) Q := by
 unfold zaj
 simp only [e, hl, if_true]
 exact Wp.ok q
theorem vc_tupE {ws : List W} {ts : List T} (e : allT ws = some ts) (hl : ts.length ≤ 16777216) (q : Q Y7 hp) : Wp (zce ws hp) Q := by
 unfold zce
 simp only [e, hl, if_true]
 exact Wp.ok q
theorem allT_ts : ∀ ts : List T, allT Yl = some ts
 | [] => rfl
 | t :: ts => by simp only [List.map_cons, allT, allT_ts ts]; rfl
theorem zct {ts : List T} (hl : ts.length ≤ 16777216) (q : Q Y3 hp) : Wp (zaj Yl hp) Q := vc_lstE (allT_ts ts) hl q
theorem vc_sqL {ts : List T} (q : QL Yl hp) : Wp (sqI Y3 hp) QL := Wp.ok q
theorem vc_sqT {ts : List T} (q : QL Yl hp) : Wp (sqI Y7 hp) QL := Wp.ok q
theorem vc_slWl {ts : List T} {lo hi : Option Int} (q : Q (.t (.lst Yen)) hp) : Wp (slW Y3 lo hi hp) Q := Wp.ok q
theorem vc_slWt {ts : List T} {lo hi : Option Int} (q : Q (.t (.tup Yen)) hp) : Wp (slW Y7 lo hi hp) Q := Wp.ok q
theorem vc_slLl {ts : List T} {lo hi : Option Int} (q : Q Ycm (hp ++ [some (.lst (cutL Yl lo hi))])) : Wp (slL Y3 lo hi hp) Q := Wp.ok q
/-- + of lists, live or not -/
theorem vc_addL {a b : W} {xs ys : List T} (ha : (hitems hp a) = some Yfn) (hb : (hitems hp b) = some (ys.map W.t)) (hl : xs.length + ys.length ≤ 16777216) (q : Q Ygc hp) : Wp (wAdd a b hp) Q := by
 have key : wAdd a b hp = (match (hitems hp a).bind allT, (hitems hp b).bind allT with
  | some xs, some ys => if xs.length + ys.length ≤ 16777216 then .ok Ygc hp else .bad
  | _, _ => .bad) := by
  cases a with
  | t x => cases x <;> first | rfl | (simp [hitems] at ha)
  | r i => rfl
 rw [key, ha, hb, Option.bind_some, Option.bind_some, allT_ts, allT_ts]
 simp only [hl, if_true]
 exact Wp.ok q
theorem vc_sm {f : OpM} {Fo Fe : M W} (q : Wp (Fo eta hp) fun w h1 => ∃ a, w = .t (.str a) ∧ Wp (Fe eta h1) fun u h2 => Wp (f Yez [u] h2) Q) : Wp (mSM f Fo Fe eta hp) Q := Wp.bind (q.mono fun w h1 ⟨a, e, q⟩ => by subst e; exact Wp.bind q)
theorem vc_frz {F : M W} (q : Wp Ydj fun a h1 => Wp (zcf a h1) Q) : Wp (mFrz F eta hp) Q := Wp.bind q
theorem vc_frzD {F : M W} (q : Wp Ydj fun a h1 => Wp (freezeD a h1) Q) : Wp (mFrzD F eta hp) Q := Wp.bind q
/-- a comprehension that changes no heap: each is kept or not, and told -/
theorem vc_mapG {A : Type} {G : W → IS → Option IS} {U : M Bool} {E : M W} {src : A → W} {p : A → Bool} {g : A → T} : ∀ (as : List A), (∀ a ∈ as, ∃ e1, G (src a) eta = some e1 ∧ U e1 hp = .ok (p a) hp ∧ (p a = true → E e1 hp = .ok (.t (g a)) hp)) → zb8 G U E eta (as.map src) hp = .ok (((as.filter p).map g).map W.t) hp
 | [], _ => rfl
 | a :: as, h => by
  obtain ⟨e1, g1, u1, x1⟩ := h a Yx
  have ih := vc_mapG as fun b hb => h b Yer
  simp only [List.map_cons, zb8, turnL, g1, noEr_bind, Res.bind_assoc, u1, zb1, zag, List.filter_cons]
  cases e : p a with
  | false => simp only [Bool.false_eq_true, if_false, zb1, zag, ih]
  | true => simp only [if_true, x1 e, zb1, zag, ih, List.map_cons]
theorem filter_tt {A : Type} : ∀ l : List A, l.filter (fun _ => true) = l := fun l => List.filter_eq_self.mpr fun _ _ => rfl
theorem vc_mapA {A : Type} {G : W → IS → Option IS} {E : M W} {src : A → W} {g : A → T} (as : List A) (h : ∀ a ∈ as, ∃ e1, G (src a) eta = some e1 ∧ E e1 hp = .ok (.t (g a)) hp) (q : QL ((as.map g).map W.t) hp) : Wp (zb8 G mYes E eta (as.map src) hp) QL := by
 have := vc_mapG (U := mYes) (p := fun _ => true) as fun a ha => let ⟨e1, a1, a2⟩ := h a ha; ⟨e1, a1, rfl, fun _ => a2⟩
 rw [filter_tt] at this
 exact Wp.of this q
theorem vc_fnM {n nn : Nat} {B : M Fl} {ws : List W} {eta : IS} (hl : ws.length = n) (he : ws.map some ++ List.replicate (nn - n) none = eta) (q : Wp (B eta hp) fun fl h1 => ∃ w, fl = .rt w ∧ Q w h1) : Wp (fnM n nn B ws hp) Q := by
 obtain ⟨fl, h1, e, w, rfl, q⟩ := q.ex
 exact Wp.of (fnM_ok hl he e) q
theorem vc_fnP {n nn : Nat} {B : M Fl} {ts : List T} {eta : IS} (hl : ts.length = n) (he : (ts.map W.t).map some ++ List.replicate (nn - n) none = eta) (q : Wp (B eta []) fun fl _ => ∃ t, fl = .rt (.t t) ∧ Q (.t t) hp) : Wp (fnP n nn B Yl hp) Q := by
 obtain ⟨fl, h1, e, t, rfl, q⟩ := q.ex
 exact Wp.of (fnP_ok hl he e) q
/-- a loop: I holds ahead of each turn, of what is still to come -/
theorem vc_loop {G : W → IS → Option IS} {S : M Fl} (I : List W → IS → IH → Prop) (turn : ∀ w ws eta hp, I (w :: ws) eta hp → ∃ e1, G w eta = some e1 ∧ Wp (S e1 hp) fun fl h => ∃ e, fl = .nx e ∧ I ws e h) : ∀ (ws : List W) (eta : IS) (hp : IH), I ws eta hp → (∀ e h, I [] e h → QF (.nx e) h) → Wp (forL G S ws eta hp) QF
 | [], eta, hp, i, q => Wp.ok (q _ _ i)
 | w :: ws, eta, hp, i, q => by
  obtain ⟨e1, g, t⟩ := turn w ws eta hp i
  obtain ⟨fl, h, e, e2, rfl, i2⟩ := t.ex
  have r := vc_loop I turn ws e2 h i2 q
  simp only [forL, g]
  rw [e, zag]
  exact r
/-- a comprehension: acc is what has been gathered -/
theorem vc_compL {G : W → IS → Option IS} {U : M Bool} {E : M W} (I : List W → List W → IH → Prop) (turn : ∀ w ws acc hp, I (w :: ws) acc hp → ∃ e1, G w eta = some e1 ∧ Wp (U e1 hp) fun b h1 => if b then Wp (E e1 h1) fun x h2 => I ws (acc ++ [x]) h2 else I ws acc h1) : ∀ (ws acc : List W) (hp : IH) (QL : List W → IH → Prop), I ws acc hp → (∀ r h, I [] (acc ++ r) h → QL r h) → Wp (zb8 G U E eta ws hp) QL
 | [], acc, hp, QL, i, q => Wp.ok (q [] _ (by rw [List.append_nil]; exact i))
 | w :: ws, acc, hp, QL, i, q => by
  obtain ⟨e1, g, t⟩ := turn w ws acc hp i
  obtain ⟨b, h1, eb, t⟩ := t.ex
  simp only [zb8, turnL, g, noEr_bind, Res.bind_assoc, eb, zb1, zag]
  cases b with
  | false =>
   have := vc_compL I turn ws acc h1 QL (by simpa using t) q
   simp only [Bool.false_eq_true, if_false, zb1, zag]
   exact Wp.bind (this.mono fun _ _ q => Wp.ok q)
  | true =>
   simp only [if_true] at t ⊢
   obtain ⟨x, h2, ex, i2⟩ := t.ex
   have := vc_compL I turn ws (acc ++ [x]) h2 (fun r h => QL (x :: r) h) i2 fun r h i => q (x :: r) h (by rw [List.append_assoc] at i; exact i)
   simp only [ex, zb1, zag]
   exact Wp.bind (this.mono fun _ _ q => Wp.ok q)
end
end Mir
namespace Mir
open PySem PySem.Spec L2
open PyProof.Rows hiding St
/-- the run ends well (then Q) or with an error (then E) -/
structure Wq {A : Type} (r : Res A) (Q : A → IH → Prop) (E : Ex → IS → IH → Prop) : Prop where
 out : match r with
  | .ok a h => Q a h
  | .er e eta h => E e eta h
  | .bad => False
section
variable {A B : Type} {r : Res A} {k : A → IH → Res B} {P Q : A → IH → Prop} {R : B → IH → Prop} {a : A} {h hp : IH} {E E' : Ex → IS → IH → Prop} {e : Ex} {eta : IS}
theorem Wq.ok (q : Q a h) : Wq (.ok a h) Q E := ⟨q⟩
theorem Wq.er (q : E e eta h) : Wq (.er e eta h : Res A) Q E := ⟨q⟩
theorem Wq.of (q : Wp r Q) : Wq r Q E := by
 obtain ⟨a, h, rfl, q'⟩ := q.ex
 exact Wq.ok q'
theorem Wq.eqOk (e : r = .ok a h) (q : Q a h) : Wq r Q E := by rw [e]; exact Wq.ok q
theorem Wq.eqEr (x : r = .er e eta h) (q : E e eta h) : Wq r Q E := by rw [x]; exact Wq.er q
theorem Wq.cases (q : Wq r Q E) : (∃ a h, r = .ok a h ∧ Q a h) ∨ ∃ e eta h, r = .er e eta h ∧ E e eta h := by
 obtain ⟨q⟩ := q
 cases r with
 | ok a h => exact .inl ⟨a, h, rfl, q⟩
 | er e eta h => exact .inr ⟨e, eta, h, rfl, q⟩
 | bad => exact q.elim
theorem Wq.mono (q : Wq r P E) (i : ∀ a h, P a h → Q a h) (j : ∀ e eta h, E e eta h → E' e eta h) : Wq r Q E' := by
 rcases q.cases with ⟨a, h, rfl, q'⟩ | ⟨e, eta, h, rfl, q'⟩
 ·exact Wq.ok (i _ _ q')
 ·exact Wq.er (j _ _ _ q')
theorem Wq.bind (q : Wq r (fun a h => Wq (k a h) R E) E) : Wq (r.bind k) R E := by
 rcases q.cases with ⟨a, h, rfl, q'⟩ | ⟨e, eta, h, rfl, q'⟩
 ·exact q'
 ·exact Wq.er q'
/-- nothing is raised -/
theorem Wq.wp (q : Wq r Q fun _ _ _ => False) : Wp r Q := by
 rcases q.cases with ⟨a, h, rfl, q'⟩ | ⟨e, eta, h, rfl, q'⟩
 ·exact Wp.ok q'
 ·exact q'.elim
theorem Wq.re (q : Wq r Q fun e _ h => E e eta h) : Wq (reEr eta r) Q E := by
 rcases q.cases with ⟨a, h, rfl, q'⟩ | ⟨e, eta, h, rfl, q'⟩
 ·exact Wq.ok q'
 ·exact Wq.er q'
end
section
variable {eta : IS} {hp : IH} {Q : W → IH → Prop} {QL : List W → IH → Prop} {QB : Bool → IH → Prop} {QF : Fl → IH → Prop} {E : Ex → IS → IH → Prop}
theorem wq_seq {S R : M Fl} (q : Wq (S eta hp) (fun fl h1 => Wq (thenF R fl h1) QF E) E) : Wq (mSeq S R eta hp) QF E := Wq.bind q
theorem wq_nx {R : M Fl} {e : IS} (q : Wq (R e hp) QF E) : Wq (thenF R (.nx e) hp) QF E := q
theorem wq_set {i : Nat} {F : M W} (q : Wq Ydj (fun a h1 => QF (.nx Ydo) h1) E) : Wq (mSet i F eta hp) QF E := Wq.bind (q.mono (fun _ _ q => Wq.ok q) fun _ _ _ q => q)
theorem wq_drop {F : M W} (q : Wq Ydj (fun _ h1 => QF Yc1 h1) E) : Wq (mDrop F eta hp) QF E := Wq.bind (q.mono (fun _ _ q => Wq.ok q) fun _ _ _ q => q)
theorem wq_if {A : Type} {QA : A → IH → Prop} {U : M Bool} {F G : M A} {b : Bool} {h1 : IH} (u : U eta hp = .ok b h1) (t : b = true → Wq (F eta h1) QA E) (f : b = false → Wq (G eta h1) QA E) : Wq (mIf U F G eta hp) QA E := by
 show Wq ((U eta hp).bind _) QA E
 rw [u]
 cases b with
 | true => exact t rfl
 | false => exact f rfl
theorem wq_raise {c f : Str} {Fs : M (List W)} {w : W} {h1 : IH} (u : Fs eta hp = .ok [w] h1) (q : E ⟨c, [(f, w)]⟩ eta h1) : Wq (mRaise (mExc c f Fs) eta hp) QF E := by
 show Wq (((Fs eta hp).bind _).bind _) QF E
 rw [u]
 exact Wq.er q
theorem wq_fnX {n nn : Nat} {B : M Fl} {ws : List W} {eta : IS} (hl : ws.length = n) (he : ws.map some ++ List.replicate (nn - n) none = eta) (q : Wq (B eta hp) (fun fl h => (∃ w, fl = .rt w ∧ Q w h) ∨ ∃ e, fl = .nx e ∧ Q Yar h) fun e _ h => E e [] h) : Wq (fnX n nn B ws hp) Q E := by
 unfold fnX
 rw [if_pos hl, he]
 rcases q.cases with ⟨fl, h, e, q⟩ | ⟨e, eta', h, x, q⟩
 ·rw [e]
  rcases q with ⟨w, rfl, q⟩ | ⟨e2, rfl, q⟩
  ·exact Wq.ok q
  ·exact Wq.ok q
 ·rw [x]
  exact Wq.er q
theorem wq_makeX {c : Str} {f : OpN} {ds : List T} {Fs : M (List W)} {ws : List W} {h1 : IH} (u : Fs eta hp = .ok ws h1) (q : Wq (f Yfb (h1 ++ [some (.ins c [])])) (fun w h => w = .t .non ∧ Q (.r h1.length) h) fun e _ h => E e eta h) : Wq (mMakeX c f ds Fs eta hp) Q E := by
 unfold mMakeX
 rw [u]
 show Wq ((reEr eta _).bind _) Q E
 refine Wq.bind (Wq.re (q.mono (fun w h ⟨e, q⟩ => ?_) fun _ _ _ q => q))
 subst e
 exact Wq.ok q
theorem wq_frzI {F : M W} (q : Wq Ydj (fun a h1 => Wp (freezeI a h1) Q) E) : Wq (mFrzI F eta hp) Q E := Wq.bind (q.mono (fun _ _ q => Wq.of q) fun _ _ _ q => q)
theorem wq_cls {i : Nat} {c : Str} {hit : Str → Option Bool} {S : Ex → M Fl} {l : List Cl} {e : Ex} (hh : hit e.cls = some true) (hc : e.cls = c) (hi : i < eta.length) (q : Wp (S e Yfi hp) fun fl h' => QF (unI i fl) h') : Wq (clsL i e eta hp ((c, hit, S) :: l)) QF E := by
 unfold clsL
 obtain ⟨fl, h', x, q⟩ := q.ex
 simp only [hh, if_pos (And.intro hc hi), x]
 exact Wq.ok q
theorem wq_tryAs {i : Nat} {B : M Fl} {l : List Cl} (q : Wq (B eta hp) QF fun e eta' h => Wq (clsL i e eta' h l) QF E) : Wq (mTryAs i B l eta hp) QF E := by
 unfold mTryAs
 rcases q.cases with ⟨fl, h, e, q⟩ | ⟨e, eta', h, x, q⟩
 ·rw [e]; exact Wq.ok q
 ·rw [x]; exact q
end
end Mir
namespace D
open PySem PySem.Spec L2 Mir
open PyProof.Rows hiding St
theorem exm_self {K : PySem.W.Frag} {S : Addr} (h1 : PySem.W.subIn K (.ref S) Yfz = some true) (h2 : PySem.W.isClsIn K S = true) (h3 : PySem.W.typeIn K (.ref S) = some (.type "type")) (h4 : PySem.W.subIn K (.ref S) (.ref S) = some true) : PySem.W.exmOne K (.ref S) (.ref S) = some true := by
 have h2' : (PySem.W.clsIn K S).isSome = true := h2
 unfold PySem.W.exmOne
 simp [PySem.W.kitCls, h1, h2', h3, h4]
abbrev DFn (K : PySem.W.Frag) (x q : Str) (s : Stmt) (a : Addr) (d : FuncData) : Prop := FunD K x q (defArgs s) (defBody s) (defScope s) [] [] a d
def MDf (K : PySem.W.Frag) (x : Str) (s : Stmt) (a : Addr) (d : FuncData) : Prop := PySem.W.nsIn K mainGlobals x = some Yep ∧ DFn K x x s a d
def HDf (K : PySem.W.Frag) (C : Addr) (x q : Str) (s : Stmt) (a : Addr) (d : FuncData) : Prop := PySem.W.findIn K (.ref C) x = some Yep ∧ PySem.W.isFn K (.ref a) = true ∧ DFn K x q s a d
section
variable {K : PySem.W.Frag} {x q : Str} {s : Stmt} {C a : Addr} {d : FuncData}
theorem DFn.of {oc kV dc pm cd ct : Value} {od an : Option Addr} {sl : Array Yc8} (h1 : K.lookup a = some ⟨oc, od, .func Yad, sl⟩) (h2 : PySem.W.codeIn K cd q = true) (h3 : PySem.W.keepIn K (.ref a) = true) :
  DFn K x q s a Yad := ⟨⟨oc, od, .none, kV, dc, pm, an, cd, ct, sl, rfl, h1, h2, .inl ⟨rfl, rfl⟩, .inl rfl⟩, h3⟩
theorem _root_.PyProof.Rows.FunD.kp {A : Arguments} {B : List Stmt} {S : Scope} {l : List V} {k : List Yea} (h : FunD K x q A B S l k a d) : PySem.W.keepIn K (.ref a) = true := h.2
theorem MDf.of {oc kV dc pm cd ct : Value} {od an : Option Addr} {sl : Array Yc8} (h0 : PySem.W.nsIn K mainGlobals x = some Yep) (h1 : K.lookup a = some ⟨oc, od, .func Yee, sl⟩) (h2 : PySem.W.codeIn K cd x = true) (h3 : PySem.W.keepIn K (.ref a) = true) :
  MDf K x s a Yee := ⟨h0, DFn.of h1 h2 h3⟩
theorem HDf.of {oc kV dc pm cd ct : Value} {od an : Option Addr} {sl : Array Yc8} (h0 : PySem.W.findIn K (.ref C) x = some Yep) (h4 : PySem.W.isFn K (.ref a) = true) (h1 : K.lookup a = some ⟨oc, od, .func Yad, sl⟩) (h2 : PySem.W.codeIn K cd q = true) (h3 : PySem.W.keepIn K (.ref a) = true) :
  HDf K C x q s a Yad := ⟨h0, h4, DFn.of h1 h2 h3⟩
end
theorem law_sp {K : PySem.W.Frag} {w : World} {F : OpN} {H : Hp} {a : Addr} {ns : List Int} (hF : ∃ hp', F [.t Y9] [] = .ok (.t Ycq) hp')
  (h : (∃ o, H a = some Yfl) ∨ (∃ (o : Obj) (its : Array Value) (m : Nat), K.lookup a = some o ∧ o.cls = .type "list" ∧ o.dict = none ∧ o.data = .seq its m ∧ its.size ≤ sizeLine ∧ Vals Ycn its.toList)) :
  spM K w F 1 [.ref a] H (fun v _ => v = .bl true) fun _ _ _ => False := by
 obtain ⟨hp', e⟩ := hF
 let s : S4 := ⟨[], fun b => b = a ∧ ∃ o, H a = some Yfl, [], H⟩
 have nl : ∀ b, ¬ Live s b := fun b l => by
  obtain ⟨i, c, e1, _⟩ := l
  simp [s] at e1
 have R : Rel K w s := ⟨rfl, List.nodup_nil, fun b m => absurd m (by simp [s]), fun b f => by obtain ⟨e1, o, e2⟩ := f; subst e1; show H b ≠ none; rw [e2]; simp, fun b l => absurd l (nl b), fun i c b e1 => by simp [s] at e1⟩
 refine ⟨s, [.t Y9], rfl, R, ?_, rfl, ?_⟩
 ·refine ⟨.ref a, [], rfl, ?_, rfl⟩
  simp only [Rw, Rf]
  refine ⟨a, ns.map V.int, rfl, ?_, ints_rf ns⟩
  rcases h with ⟨o, h⟩ | h
  ·exact .inl ⟨⟨rfl, o, h⟩, o, h⟩
  ·exact .inr h
 ·show Go K w W0 (Rw K) s (noEr (F [.t Y9] [])) _
  rw [e]
  intro b s' _ _ _ r
  simpa only [Rw, Rf] using r
theorem no_cx {P : Program} {w : World} {o : List Env} {H : Hp} {s : Shared} {e : Value} {s' : Shared} (h : L2.CX P w o H s Ydp e s') : False := by
 obtain ⟨_, _, _, _, _, _, _, _, _, _, _, _, f⟩ := h
 exact f
def topS (i : Nat) : Stmt := PySem.Challenge.pw_untorn_k06_readers_refused.main.body.getD i (.Pass ⟨0, 0, 0, 0⟩)
abbrev s_w_deal : Stmt := topS 29
abbrev yht : Stmt := topS 30
abbrev yg1 : Stmt := topS 32
abbrev ygi : Stmt := topS 33
abbrev yhu : Stmt := topS 31
abbrev yfh : Stmt := topS 12
abbrev yec : Stmt := topS 11
abbrev yg2 : Stmt := topS 21
abbrev ybp : Stmt := topS 22
abbrev yd8 : Stmt := topS 13
abbrev yg3 : Stmt := topS 23
abbrev yd9 : Stmt := topS 24
abbrev ydl : Stmt := topS 25
abbrev yc : Stmt := inClass (topS 27) 0
abbrev yg4 : Stmt := topS 35
abbrev ydr : Stmt := topS 36
abbrev ydm : Stmt := topS 37
abbrev yga : Stmt := topS 34
abbrev yjy : Stmt := topS 38
abbrev AllMk (F : OpN) : Prop := ∀ {l : PySem.W.OpenLaw} {w : World} {K : PySem.W.Frag} {h : Heap} {mg : Str → Option Value} {fa : Addr} (KX : K.In h) (G : h.Ns mainGlobals mg) (hfa : mg "law" = some (.ref fa))
  {yi : Addr} (yaf : PySem.W.nsIn K mainGlobals "Reader" = some (some (.ref yi)))
  (yfi : PySem.W.plainGet K yi Str.empty = true)
  (yfj : PySem.W.hasDictIn K yi = true)
  (yfk : PySem.W.plainOver K yi = true)
  (yfl : PySem.W.findIn K (.ref yi) "__setattr__" = some (some (.builtin "object.__setattr__")))
  (yfm : PySem.W.makesIn K yi = true)
  (yfn : PySem.W.keepIn K (.ref yi) = true)
  (ycb : PySem.W.findIn K (.ref yi) "tests" = some none)
  (ycc : PySem.W.findIn K (.ref yi) "deeds" = some none)
  (ybq : PySem.W.findIn K (.ref yi) "checks" = some none)
  (ycd : PySem.W.findIn K (.ref yi) "steps" = some none)
  (ycn : PySem.W.findIn K (.ref yi) "name" = some none)
  (ih : PySem.W.specialIn K Y8 "__get__" = some Ydt)
  (it : PySem.W.takesIn K Y8 = some true)
  (ia_Reader : PySem.W.findIn K (.ref yi) "__class__" = some (some Y8))
  (im_Reader : PySem.W.mroIn K yi (.type "object") = some true)
  {ya : Addr} (yax : PySem.W.nsIn K mainGlobals "InvalidReader" = some (some Yb5))
  {yem yen : Str} {yeo : Addr} {yep yc3 : List Value} {yeq : List Str} {yer : List Value} {yet : Bool} {yu : Option Bool} {yeu : Option Addr} {yev yew yex yey yez : Option Value} (ybr : K.lookup ya = some (excClassObj yem yen ya yeo yep yc3 true yeq yer yet yu yeu yev yew yex yey yez "ValueError.__new__"))
  (ybs : PySem.HandSPX.refsVE yc3 = true)
  (yba : PySem.W.findIn K Yb5 "__setattr__" = some (some (.builtin "object.__setattr__")))
  (yag : PySem.W.subIn K Yb5 Yfz = some true)
  (yay : PySem.W.typeIn K Yb5 = some (.type "type"))
  (ybt : PySem.W.keepIn K Yb5 = true)
  {yn : Addr} (yaz : PySem.W.findIn K Yb5 "__init__" = some (some (.ref yn)))
  (ya0 : PySem.W.typeIn K (.ref yn) = some Yfw)
  {ye0 ybu ybv ybw ybx : Value} {ye1 yby : Option Addr} {yah ya1 : Addr} {ye2 : Array Yc8} (ybz : K.lookup yn = some ⟨ye0, ye1, .func Yn, ye2⟩)
  (yb0 : PySem.W.codeIn K (.ref yah) "InvalidReader.__init__" = true)
  {ye3 : Value} {ye4 : Option Addr} {yc4 : Array Value} {ye5 : Array Yc8} {yc5 : Str} {ye6 : Tok} (yb1 : K.lookup yah = some ⟨ye3, ye4, .fields yc4, ye5⟩)
  (yb2 : yc4[2]? = some (.str yc5 ye6))
  (yb3 : ((l.prog.main.file : Str) == yc5) = true)
  {ye7 : Value} {ye8 : Option Addr} {ye9 : Array Yc8} (yb4 : K.lookup ya1 = some ⟨ye7, ye8, .cell (some Yb5), ye9⟩)
  (yb5 : PySem.W.ks_superIn K ya ya "__init__" = some Yeo)
  (yb6 : PySem.W.subIn K Yb5 (.type "ValueError") = some true)
  (yb7 : PySem.W.mroIn K ya Yb5 = some true)
  (yar : PySem.W.findIn K Yb5 "word" = some none)
  (ybb : PySem.W.isClsIn K ya = true)
  (ybc : PySem.W.subIn K Yb5 Yb5 = some true)
  (ybd : PySem.W.findIn K Yb5 "__getattribute__" = some (some (.builtin "BaseException.__getattribute__")))
  (ybe : PySem.W.findIn K Yb5 "__getattr__" = some none)
  (ybf : PySem.W.hasDictIn K ya = true)
  (ybg : PySem.W.findIn K Yb5 "__class__" = some (some Y8))
  (ybh : PySem.W.mroIn K ya (.type "object") = some true)
  {yp : Addr} (yx : PySem.W.nsIn K mainGlobals "InvalidDesign" = some (some (.ref yp)))
  (ybi : PySem.W.hasDictIn K yp = true)
  (yb8 : PySem.W.typeIn K (.ref yp) = some (.type "type"))
  {y1 : Addr} (yaa : PySem.W.nsIn K mainGlobals "InvalidKind" = some (some (.ref y1)))
  (yce : PySem.W.hasDictIn K y1 = true)
  (yco : PySem.W.typeIn K (.ref y1) = some (.type "type"))
  {y2 : Addr} (yab : PySem.W.nsIn K mainGlobals "RecordError" = some (some (.ref y2)))
  (ycf : PySem.W.hasDictIn K y2 = true)
  (ycp : PySem.W.typeIn K (.ref y2) = some (.type "type"))
  (yq : PySem.W.subIn K Yb5 (.ref yp) = some false)
  (yr : ya ≠ yp)
  (y3 : PySem.W.subIn K Yb5 (.ref y1) = some false)
  (y4 : ya ≠ y1)
  (y5 : PySem.W.subIn K Yb5 (.ref y2) = some true)
  (y6 : ya ≠ y2)
  (xsup : PySem.W.nsIn K mainGlobals "super" = some none)
  (xany : PySem.W.nsIn K PySem.cStatics "thirdparty.any" = some none)
  (xtop : (l.prog.main.scope.names.lookup ("super" : Str)).isSome = false)
  {v_MOST_LETTERS : Tok} (w_MOST_LETTERS : PySem.W.nsIn K mainGlobals "MOST_LETTERS" = some (some (.int (4) v_MOST_LETTERS)))
  {v_MOST_DIGITS : Tok} (w_MOST_DIGITS : PySem.W.nsIn K mainGlobals "MOST_DIGITS" = some (some (.int (9) v_MOST_DIGITS)))
  {v_LETTERS : Tok} (w_LETTERS : PySem.W.nsIn K mainGlobals "LETTERS" = some (some (.str "abcdefghijklmnopqrstuvwxyz" v_LETTERS)))
  {v_DIGITS : Tok} (w_DIGITS : PySem.W.nsIn K mainGlobals "DIGITS" = some (some (.str "0123456789" v_DIGITS)))
  {yds : Addr} {o_BARRED : Obj} {us_BARRED : List Value} {ygj : Nat} (w_BARRED : PySem.W.nsIn K mainGlobals "BARRED" = some (some (.ref yds)))
  (lk_BARRED : K.lookup yds = some o_BARRED)
  (yc8 : o_BARRED.cls = .type "tuple")
  (yc9 : o_BARRED.dict = none)
  (oa_BARRED : o_BARRED.data = .seq us_BARRED.toArray ygj)
  (or_BARRED : Vals Yef us_BARRED)
  (oz_BARRED : us_BARRED.length ≤ 1000)
  {yas : Addr} {o_READER_WORDS : Obj} {us_READER_WORDS : List Value} {ycq : Nat} (w_READER_WORDS : PySem.W.nsIn K mainGlobals "READER_WORDS" = some (some (.ref yas)))
  (lk_READER_WORDS : K.lookup yas = some o_READER_WORDS)
  (yam : o_READER_WORDS.cls = .type "tuple")
  (yan : o_READER_WORDS.dict = none)
  (oa_READER_WORDS : o_READER_WORDS.data = .seq us_READER_WORDS.toArray ycq)
  (or_READER_WORDS : Vals ((["read", "look"] : List Str).map V.str) us_READER_WORDS)
  (oz_READER_WORDS : us_READER_WORDS.length ≤ 1000)
  (yi9 : PySem.W.nsIn K mainGlobals "int" = some none)
  (yja : PySem.W.nsIn K mainGlobals "abs" = some none)
  (yjb : PySem.W.nsIn K mainGlobals "len" = some none)
  (yh2 : PySem.W.nsIn K mainGlobals "list" = some none)
  (yjc : PySem.W.nsIn K mainGlobals "all" = some none)
  (ydn : PySem.W.nsIn K mainGlobals "isinstance" = some none)
  (yjd : PySem.W.nsIn K mainGlobals "str" = some none)
  (yhf : PySem.W.nsIn K mainGlobals "tuple" = some none)
  (yje : PySem.W.nsIn K mainGlobals "set" = some none)
  (yhg : PySem.W.nsIn K mainGlobals "range" = some none)
  (yjf : PySem.W.nsIn K mainGlobals "max" = some none)
  (yjg : PySem.W.nsIn K mainGlobals "min" = some none)
  {ad_w_deal : Addr} {yir : FuncData} (ydt : MDf K "_law_deal" s_w_deal ad_w_deal yir)
  {ad_w_draw : Addr} {yis : FuncData} (ydu : MDf K "_law_draw" yht ad_w_draw yis)
  {ad_w_mixed : Addr} {yh3 : FuncData} (yda : MDf K "_law_mixed" yg1 ad_w_mixed yh3)
  {ad_w_titles : Addr} {yhk : FuncData} (ycr : MDf K "_law_titles" ygi ad_w_titles yhk)
  {ad_w_pick : Addr} {yit : FuncData} (ydv : MDf K "_law_pick" yhu ad_w_pick yit)
  {ad_is_name : Addr} {yh4 : FuncData} (ydb : MDf K "is_name" yfh ad_is_name yh4)
  {ad_is_sequence : Addr} {ygb : FuncData} (ya5 : MDf K "is_sequence" yec ad_is_sequence ygb)
  {ad_deed_in : Addr} {yh5 : FuncData} (ydc : MDf K "deed_in" yg2 ad_deed_in yh5)
  {ad_deeds_in : Addr} {yhl : FuncData} (ycs : MDf K "deeds_in" ybp ad_deeds_in yhl)
  {ad_number_in : Addr} {yg5 : FuncData} (yca : MDf K "number_in" yd8 ad_number_in yg5)
  {ad_spot_in : Addr} {yh6 : FuncData} (ydd : MDf K "spot_in" yg3 ad_spot_in yh6)
  {ad_test_in : Addr} {yh7 : FuncData} (yde : MDf K "test_in" yd9 ad_test_in yh7)
  {ad_tests_in : Addr} {yhm : FuncData} (yct : MDf K "tests_in" ydl ad_tests_in yhm)
  {ad_Reader_init : Addr} {ydw ybj ybk ybl yat ybm : Value} {ydx ybn : Option Addr} {sl_Reader_init : Array Yc8}
  {yap : Addr} {to_Reader_init : Obj} {tn_Reader_init : Nat}
  (at_Reader_init : PySem.W.findIn K (.ref yi) "__init__" = some (some (.ref ad_Reader_init)))
  (fn_Reader_init : PySem.W.isFn K (.ref ad_Reader_init) = true)
  (yc0 : K.lookup ad_Reader_init = some ⟨ydw, ydx, .func Yac, sl_Reader_init⟩)
  (yc1 : PySem.W.codeIn K yat "Reader.__init__" = true)
  (yc2 : PySem.W.keepIn K (.ref ad_Reader_init) = true)
  {e_Reader_init : Addr} {eo_Reader_init : Obj} {en_Reader_init : Nat}
  (t_Reader_init : K.lookup yap = some to_Reader_init)
  (u_Reader_init : to_Reader_init.data = .seq ([.ref e_Reader_init] : List Value).toArray tn_Reader_init)
  (el_Reader_init : K.lookup e_Reader_init = some eo_Reader_init)
  (ec_Reader_init : eo_Reader_init.cls = .type "tuple")
  (ed_Reader_init : eo_Reader_init.dict = none)
  (ea_Reader_init : eo_Reader_init.data = .seq #[] en_Reader_init)
  {ad_w_heard : Addr} {yh8 : FuncData} (ydf : MDf K "_law_heard" yg4 ad_w_heard yh8)
  {ad_w_bent_steps : Addr} {yfo : FuncData} (yau : MDf K "_law_bent_steps" ydr ad_w_bent_steps yfo)
  {ad_w_bent_checks : Addr} {yfa : FuncData} (yao : MDf K "_law_bent_checks" ydm ad_w_bent_checks yfa)
  {ad_w_any : Addr} {yji : FuncData} (yel : MDf K "_law_any" yga ad_w_any yji)
  {ad_law : Addr} {yj5 : FuncData} (yh9 : MDf K "law" yjy ad_law yj5), ∃ fd : FuncData, (∀ (s : Shared) (v : Value), BindsTo s fd ⟨[v], []⟩ [("_law_script", v)]) ∧ ∀ base : Heap, K.In base → base.Ns mainGlobals mg → FnG l.prog w K mg base (L2.CX l.prog w) 17 fa fd ["_law_script"] (spM K w F 1)
end D
section
namespace D
open PySem PySem.W PySem.Calls PyProof.Rows
abbrev rowH : OpenRow := OpenLaw.row PySem.Challenge.rw_untorn_k06_readers_refused
abbrev viewH : Program := view rowH.prog [38]
def looseH : List PySem.Str := (["RecordError", "InvalidKind", "InvalidReader", "InvalidDesign", "InvalidText", "BARRED", "LETTERS", "DIGITS", "MOST_LETTERS", "is_sequence", "is_name", "number_in", "READER_WORDS", "MOST_DIGITS", "READER", "NAMED", "IF", "BESIDE", "deed_in", "deeds_in", "spot_in", "test_in", "tests_in", "named_in", "Reader", "_law_deal", "_law_draw", "_law_pick", "_law_mixed", "_law_titles"] : List PySem.Str) ++ (["_law_any", "_law_heard", "_law_bent_steps", "_law_bent_checks"] : List PySem.Str)
theorem obsH_eq {as : List Addr} (s : SharedT) : as.map (HandSHeadRun.getT s) = as.map s.abs.heap.get? := congrArg (fun g => as.map g) (funext (HandSHeadRun.getT_eq s))
end D
local macro_rules | `(tactic| o_headL (kHook $K $a $e)) => `(tactic| refine HandSHeadRun.head_any (r := D.rowH) (q := D.viewH) (H := PySem.W.kHook $K $a $e) (ob := fun s => List.map (HandSHeadRun.getT s) $a) (M := 12000) (loose := D.looseH) (d := HandSHeadRun.topDef D.rowH.prog 38) (kwd := []) (fun s => D.obsH_eq s) (by kernel_rfl) (fun s => by kernel_rfl) (fun w os => by kernel_rfl) (by kernel_rfl) (by kernel_rfl) (by kernel_rfl) (by rfl) (by first | assumption | decide +kernel) (by decide +kernel) ⟨rfl, rfl, rfl, rfl, rfl, by decide +kernel⟩ ?hw ?hc)
local macro_rules | `(tactic| simp_arith!) => `(tactic| first | (as_aux_lemma => k_is) | k_is)
open PySem PySem.W PyProof.Rows
set_option maxHeartbeats 0 in
theorem D.early {F : Mir.OpN} (hM : D.AllMk F) (hL : ∀ {ns : List Int}, ns.length ≤ 63 → ∃ hp', F [.t (.scr (ns.map Mir.T.int))] [] = .ok (.t Ycq) hp') : PySem.Challenge.rw_untorn_k06_readers_refused.Holds := by
 w_on; o_law; k_headL; (case hw => w_witness2)
 k_fill
 refine Mir.walkG (l := PySem.Challenge.rw_untorn_k06_readers_refused) (n := 63) (k := 17) (x := "_law_script") (CX := fun w => L2.CX PySem.Challenge.rw_untorn_k06_readers_refused.prog w) (sp := fun w => Mir.spM _ w F 1) rfl Ybd rfl ⟨rfl, by decide, by decide⟩ (fun w h Y => PySem.W.kIn_of Y) ?F (fun _ _ _ _ hl hS => D.law_sp (hL hl) hS) (fun _ _ _ _ _ h => D.no_cx h)
 case F =>
  intro w mg fa h KX G hmg
  refine' hM KX G hmg ?yaf ?yfi ?yfj ?yfk ?yfl ?yfm ?yfn ?ycb ?ycc ?ybq ?ycd ?ycn ?ih ?it ?ia_Reader ?im_Reader ?yax ?ybr ?ybs ?yba ?yag ?yay ?ybt ?yaz ?ya0 ?ybz ?yb0 ?yb1 ?yb2 ?yb3 ?yb4 ?yb5 ?yb6 ?yb7 ?yar ?ybb ?ybc ?ybd ?ybe ?ybf ?ybg ?ybh ?yx ?ybi ?yb8 ?yaa ?yce ?yco ?yab ?ycf ?ycp ?yq ?yr ?y3 ?y4 ?y5 ?y6 ?xsup ?xany ?xtop ?w_MOST_LETTERS ?w_MOST_DIGITS ?w_LETTERS ?w_DIGITS ?w_BARRED ?lk_BARRED ?yc8 ?yc9 ?oa_BARRED ?or_BARRED ?oz_BARRED ?w_READER_WORDS ?lk_READER_WORDS ?yam ?yan ?oa_READER_WORDS ?or_READER_WORDS ?oz_READER_WORDS ?yi9 ?yja ?yjb ?yh2 ?yjc ?ydn ?yjd ?yhf ?yje ?yhg ?yjf ?yjg ?ydt ?ydu ?yda ?ycr ?ydv ?ydb ?ya5 ?ydc ?ycs ?yca ?ydd ?yde ?yct ?at_Reader_init ?fn_Reader_init ?yc0 ?yc1 ?yc2 ?t_Reader_init ?u_Reader_init ?el_Reader_init ?ec_Reader_init ?ed_Reader_init ?ea_Reader_init ?ydf ?yau ?yao ?yel ?yh9
  (case yaf | yfi | yfj | yfk | yfl | yfm | yfn | ycb | ycc | ybq | ycd | ycn | ih | it | ia_Reader | im_Reader | yax | ybr => simp_arith!)
  (case ybs => first | rfl | decide)
  (case yba | yag | yay | ybt | yaz | ya0 | ybz | yb0 | yb1 => simp_arith!)
  (case yb2 => exact rfl)
  (case yb3 => first | rfl | decide +kernel)
  (case yb4 => simp_arith!)
  (case yb5 => ks_is)
  (case yb6 | yb7 | yar | ybb => simp_arith!)
  (case ybc => first | rfl | k_is)
  (case ybd | ybe | ybf | ybg | ybh | yx | ybi | yb8 | yaa | yce | yco | yab | ycf | ycp => simp_arith!)
  (case yq => first | rfl | k_is)
  (case yr => decide)
  (case y3 => first | rfl | k_is)
  (case y4 => decide)
  (case y5 => first | rfl | k_is)
  (case y6 => decide)
  (case xsup | xany => simp_arith!)
  (case xtop => first | rfl | decide +kernel)
  (case w_MOST_LETTERS | w_MOST_DIGITS | w_LETTERS | w_DIGITS | w_BARRED | lk_BARRED => simp_arith!)
  (case yc8 => exact rfl)
  (case yc9 => exact rfl)
  (case oa_BARRED => exact rfl)
  (case or_BARRED => repeat (first | exact .nil | refine .cons ⟨_, rfl⟩ ?_))
  (case oz_BARRED => decide)
  (case w_READER_WORDS | lk_READER_WORDS => simp_arith!)
  (case yam => exact rfl)
  (case yan => exact rfl)
  (case oa_READER_WORDS => exact rfl)
  (case or_READER_WORDS => repeat (first | exact .nil | refine .cons ⟨_, rfl⟩ ?_))
  (case oz_READER_WORDS => decide)
  (case yi9 | yja | yjb | yh2 | yjc | ydn | yjd | yhf | yje | yhg | yjf | yjg | at_Reader_init | fn_Reader_init | yc0 | yc1 | yc2 | t_Reader_init => simp_arith!)
  (case u_Reader_init => exact rfl)
  (case el_Reader_init => simp_arith!)
  (case ec_Reader_init => exact rfl)
  (case ed_Reader_init => exact rfl)
  (case ea_Reader_init => exact rfl)
  (case ydt | ydu | yda | ycr | ydv | ydb | ya5 | ydc | ycs | yca | ydd | yde | yct | ydf | yau | yao | yel | yh9 => (refine' D.MDf.of ?a ?b ?c ?d; (case a => simp_arith!); (case b => simp_arith!); (case c => simp_arith!); (case d => simp_arith!)))
end
namespace D
open PySem PySem.Spec L2 Mir
open PyProof.Rows hiding St
local macro_rules | `(tactic| simp_arith [$as,*]) => `(tactic| simp -implicitDefEqProofs only [Nat.reduceAdd, Nat.reduceMul, Nat.reduceSub, Nat.reduceLeDiff, Nat.reduceLT, Nat.reduceEqDiff, Nat.reduceBEq, Int.reduceAdd, Int.reduceSub, Int.reduceMul, Int.reduceNeg, Int.reduceLT, Int.reduceLE, Int.reduceEq, Int.reduceToNat, Int.reduceBEq, Int.reduceNegSucc, reduceIte, reduceCtorEq, if_true, if_false, Bool.false_eq_true, eq_self, and_self, and_true, true_and, and_false, false_and, decide_true, decide_false, decide_eq_true_eq, List.map_nil, List.map_cons, List.append_nil, List.nil_append, List.cons_append, List.getElem?_cons_zero, List.getElem?_cons_succ, List.set_cons_zero, List.set_cons_succ, List.length_cons, List.length_nil, List.replicate_succ, List.replicate_zero, Option.map_some, Option.bind_some, Bool.not_true, Bool.not_false, Bool.and_true, Bool.true_and, Bool.and_false, Bool.false_and, beq_self_eq_true, List.zip_cons_cons, List.zip_nil_right, List.foldl_cons, List.foldl_nil, Option.isSome_some, Option.isSome_none, ite_true, ite_false, List.length_map, zag, bind_bad, bind_er, zb1, noEr_bad, then_nx, then_rt, then_bk, then_ct, p_var, p_c, p_bin, p_un, p_nil, p_cons, p_star, p_app, p_frz, zcq, p_and, p_or, p_not, p_if, p_andV, p_orV, p_notV, p_chain, p_skip, p_seq, p_ret, p_retN, p_drop, p_brk, p_cnt, p_asg, p_set, p_par, p_parG, p_aug, p_for, p_while, p_comp, p_sq, p_src, p_yes, p_call, p_meth0, p_meth, p_sl, p_noPart, p_part, p_disp, p_dput, p_fz, p_gN, p_gsN, p_gsC, p_gTp, p_gTt, p_gAp, p_gAt, p_gAl, zb9, seqT_t, seqT_l, seqT_s, items_t, items_l, items_s, items_r, litems_l, litems_s, litems_r, hitems_l, hitems_r, asT_t, asT_r, getL_new, zbv, allI_map, allS_map, allB_map, asB_bl, truW_bl, iNeg_i, opI_ii, opC_ii, cYes_t, wLt_ii, wLt_ss, wAdd_ii, isN_n, isN_i, isN_b, isN_t, isB_bb, oInt_i, oAbs_i, oMax2_i, oMin2_i, oLen_l, oLen_t, oLen_r, oTup_t, oTup_l, oListF_l, oListF_t, oListL_l, oListL_t, sqI_l, sqI_t, sqI_s, enum1_1, zip2_2, isL_r, isL_l, isTp_t, freeze_t, freeze_r, fit_n, fit_b, fit_i, fit_s, fit_t, fit_l, fitL_n, fitL_c, eqT_nn, eqT_ii, eqT_bb, eqT_ss, eqT_tt, eqT_ll, eqTL_nn, eqTL_cn, eqTL_nc, eqTL_cc, allT_n, allT_c, lstOf_e, tupOf_e, newL_e, oAppend_r, oPop_r, asK_i, asK_s, dGet_s, ev_for0, ev_for1, ev_atl0, ev_atl1, ev_atl2, ev_atl3, ev_ixl0, ev_ixt0, ev_ixl1, ev_ixt1, ev_ixl2, ev_ixt2, ev_ixl3, ev_ixt3, ev_atl4, ev_ixl4, ev_ixt4, ev_gt, ev_ge, ev_le, ev_sub, ev_eqi, ev_eqs, ev_eqb, ev_wipe0, ev_wipe1, ev_comp1, $as,*])
local macro_rules | `(tactic| simp_all_arith) => `(tactic| repeat (first | (with_reducible refine zao ?_) | (with_reducible refine za6 ?_) | (with_reducible refine zbe ?_) | (with_reducible refine vc_if ?_) | (with_reducible refine vc_test ?_) | (with_reducible refine vc_bin ?_) | (with_reducible refine vc_un ?_) | (with_reducible refine zat ?_) | (with_reducible refine zbz ?_) | (with_reducible refine zck ?_) | (with_reducible refine vc_call ?_) | (with_reducible refine vc_callD ?_) | (with_reducible refine vc_and ?_) | (with_reducible refine vc_or ?_) | (with_reducible refine vc_not ?_) | (with_reducible refine zbf ?_) | (with_reducible refine za8 ?_) | (with_reducible refine vc_drop ?_) | (with_reducible refine vc_sl ?_) | (with_reducible refine vc_slL ?_) | (with_reducible refine vc_noPart ?_) | (with_reducible refine vc_part ?_) | (with_reducible refine vc_for ?_) | (with_reducible refine vc_sq ?_) | (with_reducible refine vc_src ?_) | (with_reducible refine vc_asg ?_) | (with_reducible refine vc_fld ?_) | (with_reducible refine vc_c ?_) | ((with_reducible apply zbw); · rfl) | (with_reducible refine vc_asB ?_) | ((with_reducible apply vc_fz); · rfl) | (with_reducible refine vc_meth ?_) | (with_reducible refine vc_comp ?_) | (with_reducible refine vc_rt ?_) | (with_reducible refine vc_yes ?_) | ((with_reducible apply vc_lstE); (· rfl); (· exact Nat.le_of_ble_eq_true rfl)) | ((with_reducible apply vc_tupE); (· rfl); (· exact Nat.le_of_ble_eq_true rfl)) | (with_reducible refine vc_sqL ?_) | (with_reducible refine vc_sqT ?_) | (with_reducible refine vc_slWl ?_) | (with_reducible refine vc_slWt ?_) | (with_reducible refine vc_slLl ?_) | (with_reducible refine vc_sm ?_) | (with_reducible refine vc_frz ?_) | (with_reducible refine vc_frzD ?_) | (with_reducible refine vc_chain ?_) | (with_reducible refine vc_par2 ?_) | (with_reducible refine vc_parG ?_) | (with_reducible refine Wp.rw wAdd_ii ?_) | (with_reducible refine Wp.rw ev_eqi ?_) | (with_reducible refine Wp.rw ev_eqs ?_) | (with_reducible refine Wp.rw oLen_l ?_) | (with_reducible refine Wp.rw oLen_t ?_) | (with_reducible refine Wp.rw iGt_ii ?_) | (with_reducible refine Wp.rw wLt_ii ?_) | (with_reducible refine Wp.rw ev_sub ?_) | (with_reducible refine Wp.rw ev_le ?_) | (with_reducible refine Wp.rw ev_ge ?_) | (with_reducible refine Wp.rw freeze_t ?_) | (with_reducible refine Wp.ok ?_)))
/-- what isinstance answers -/
def zc1 : CT → CT → Option Bool := fun t c => match t, c with
 | .inl a, .inl b => kitB a b
 | .inr a, .inr b => if a = b ∧ (a = "Reader") then some true else none
 | _, _ => none
def zch : M Bool := zaf asB (mBin iGe (mVar 4) (mBin iPow (mC (.int 10)) (mC (.int 18))))
def zc8 : M W := mVar 4
def zci : M Fl := mSet 3 (mBin iMod (mApp oInt (zab (mBin wAdd (mBin wAdd (mBin wMul (mVar 3) (mC (.int 48271))) (mBin iMod (mApp oInt Yes) (mC (.int 2147483629)))) (mC (.int 41))) (mNil))) (mC (.int 2147483647)))
def zc5 : M W := mApp oAbs (zab (mApp oInt Yes) (mNil))
def B_w_deal : M Fl := mSeq (mSet 2 Ydv) (mSeq (mSet 3 (mBin wAdd (mC (.int 49979687)) (mBin wMul (mC (.int 59)) (mVar 1)))) (mSeq (mFor Yfd (gN 4) zci) (mRet (mApp newL (zab (mUn oRevL (zbq zaj Yfd (gN 4) zch zc8 [4])) Yax)))))
def F_w_deal : OpN := fnM 2 5 B_w_deal
def zb2 : M Fl := mDrop (mMeth0 isL oPop Ybj)
def B_w_draw : M Fl := mSeq (mWhile 4096 (mAnd Yd6 (zaf asB (mBin Ybu (mBin ixW Ybj (mUn iNeg Yj)) Yd))) zb2) (mSeq (mIf Yd6 (mSeq (mSet 2 (mMeth0 isL oPop Ybj)) (mSeq (mDrop Yfp) (mRet (mBin iMod (mApp oInt Ym) (mVar 1))))) (zbu)) (mSeq (mIput (mVar 0) Yj (mBin iMod Yc4 (mC (.int 2147483647)))) (mRet (mBin iMod (mApp oInt (zab (mBin iDiv (mBin ixW (mVar 0) Yj) (mC (.int 16))) (mNil))) (mVar 1)))))
def za3 : OpN := fnM 2 3 B_w_draw
def zb5 : M Fl := mDrop (mMeth isL oAppend (mVar 3) (zab (mMeth isL oPopAt (mVar 2) (zab (zan za3 [] (zab (mVar 0) (zab (mApp oLen Ym) (mNil)))) (mNil))) (mNil)))
def B_w_mixed : M Fl := mSeq (mPar [2, 3] (zab (mApp oListL Yr) (zab (mApp newL (mNil)) (mNil)))) (mSeq (mWhile 4096 (zaf asB (mBin Yah (mVar 2) (mApp zaj (mNil)))) zb5) (mFz 3 (mRet (mVar 3))))
def zbx : OpN := fnM 2 4 B_w_mixed
def B_w_titles : M Fl := mRet (mSl (zan zbx [] (zab (mVar 0) (zab (mApp zaj (zab (mC (.str "move")) (zab (mC (.str "add")) (zab (mC (.str "w")) (zab (mC (.str "both")) (zab (mC (.str "r")) (zab (mC (.str "iff")) (zab (mC (.str "zzzz")) (mNil))))))))) (mNil)))) zbc (zca (mVar 1)))
def zcx : OpN := fnM 2 2 B_w_titles
def B_w_pick : M Fl := mRet (mBin ixW (mVar 1) (zan za3 [] (zab (mVar 0) (zab (mApp oLen Yr) (mNil)))))
def za0 : OpN := fnM 2 2 B_w_pick
def zcr : M W := mBin (inS false) (mVar 1) (mC (.str "abcdefghijklmnopqrstuvwxyz"))
def B_is_name : M Fl := mSeq (mIf (mOr (mNot Yo) (mOr (zaf asB Ych) (mNot Yf8))) Yet (zbu)) (mRet (mApp oAll (zab (zbq zaj (mStrI (mVar 0)) (gN 1) mYes zcr [1]) (mNil))))
def zbb : OpN := fnP 1 2 B_is_name
def B_is_sequence : M Fl := mRet (mApp (oIsi zc1) (zab (mVar 0) (zab (mApp zce (zab (mC (.ty "list")) (zab (mC (.ty "tuple")) (mNil)))) (mNil))))
def zav : OpN := fnP 1 1 B_is_sequence
def B_deed_in : M Fl := mSeq (mIf (mNot Yo) (mRet Yw) (zbu)) (mSeq (mSet 2 (mSM oSplit (mVar 0) (mC (.str " ")))) (mSeq Ybc Yct))
def zc2 : OpN := fnP 2 3 B_deed_in
def za1 : M Bool := mAnd (zaf asB (mBin (isN true) (mVar 5) Yw)) (zaf asB Ycu)
def zba : M W := mBin ixW (mVar 5) Yj
def zbg : M W := zan zc2 [] (zab (mVar 4) Yr)
def B_deeds_in : M Fl := mSeq (mIf (mNot Yca) (mRet Yw) (zbu)) (mSeq (mSet 2 (zbq zaj (mSq (mVar 0)) (gN 4) mYes zbg [4])) (mSeq (mSet 3 (zbq zaj Yfd (gN 5) za1 zba [5])) (mRet (mIf (mOr (zaf asB Ydw) (zaf asB (mBin Yah (mLenSet (mVar 3)) (mApp oLen Yax)))) Yw (mApp oTup Ym)))))
def zbi : OpN := fnP 2 6 B_deeds_in
def zbh : M W := mBin (inS false) (mVar 2) (mC (.str "0123456789"))
def B_number_in : M Fl := mSeq (mIf (mOr (mNot (zaf asB (mChain iLe iLe Yj (mApp oLen Yaa) (mVar 1)))) (mNot Yd2)) (mRet Yw) (zbu)) (mRet (mIf (mAnd (zaf asB (mBin Ybu Ybj (mC (.str "0")))) (zaf asB (mBin Yah (mVar 0) (mC (.str "0"))))) Yw (mApp oIntS Yaa)))
def zcm : OpN := fnP 2 3 B_number_in
def B_spot_in : M Fl := mSeq (mSet 2 (zan zcm [] (zab (mVar 0) (zab (mC (.int (9))) (mNil))))) (mRet (mIf (mAnd (zaf asB (mBin (isN true) (mVar 2) Yw)) (mAnd (zaf asB (mBin wLt (mVar 2) (mApp oLen Yr))) (zaf asB Ye4))) (mVar 2) Yw))
def F_spot_in : OpN := fnP 2 3 B_spot_in
def zb6 : M W := zan F_spot_in [] (zab (mVar 4) Yr)
def B_test_in : M Fl := mSeq (mIf (mNot Yo) (mRet Yw) (zbu)) (mSeq (mSet 2 (mSM oSplit (mVar 0) (mC (.str " ")))) (mSeq (mSet 3 (zbq zaj (mSq (mSl (mVar 2) (zca Yj) zbc)) (gN 4) mYes zb6 [4])) (mSeq (mIf (zaf asB (mBin (inW false) Yw (mVar 3))) (mRet Yw) (zbu)) (mSeq (mIf (mAnd (zaf asB (mBin Ybu Ybk Yf1)) (zaf asB (mBin Ybu (mApp oLen Yax) Yj))) (mRet (mApp zce (zab Yf1 (zab (mBin ixW (mVar 3) Yd) (mNil))))) (zbu)) (mSeq (mIf (mOr (zaf asB Yf2) Ycb) (mRet Yw) (zbu)) (mRet (mIf (zaf asB Ycs) (mApp zce (zab (mC (.str "same")) (zab (mBin ixW (mVar 3) Yd) (zab (mBin ixW (mVar 3) Yj) (mNil))))) Yw)))))))
def F_test_in : OpN := fnP 2 5 B_test_in
def zb0 : M W := zan F_test_in [] (zab (mVar 3) Yr)
def B_tests_in : M Fl := mSeq (mIf (mNot Yca) (mRet Yw) (zbu)) (mSeq (mSet 2 (zbq zaj (mSq (mVar 0)) (gN 3) mYes zb0 [3])) (mRet (mIf (mOr (zaf asB Ydw) (zaf asB (mBin Yah (mLenSetGr (mVar 2)) (mApp oLen Ym)))) Yw (mApp oTup Ym))))
def zbm : OpN := fnP 2 4 B_tests_in
def zaw : M W := mVar 6
def zc6 : M Fl := mSeq (mIf (mNot (zaf truW (zan zbb [] Yr))) (mRaise (mExc "InvalidReader" "word" (zab (mC (.str "name")) (mNil)))) (zbu)) (mSeq (mSet 4 (zan zbi [] Yd7)) (mSeq (mIf (mOr (zaf asB (mBin Ydy (mVar 4) Yw)) (zaf asB Yaj)) (mRaise (mExc "InvalidReader" "word" (zab (mC (.str "steps")) (mNil)))) (zbu)) (mSeq (mSet 5 (zan zbm [] (zab (mVar 3) Yes))) (mSeq (mIf (zaf asB (mBin Ydy (mVar 5) Yw)) (mRaise (mExc "InvalidReader" "word" (zab (mC (.str "checks")) (mNil)))) (zbu)) (mSeq (mFldSet ["Reader"] "name" (mVar 0) (mVar 1)) (mSeq (mFldSet ["Reader"] "steps" (mVar 0) (mApp oTup Ym)) (mSeq (mFldSet ["Reader"] "checks" (mVar 0) (mApp oTup Yax)) (mSeq (mFldSet ["Reader"] "deeds" (mVar 0) (mVar 4)) (mFldSet ["Reader"] "tests" (mVar 0) (mVar 5))))))))))
def za2 : OpN := fnX 4 8 zc6
def zcp : M Fl := mDrop (mFrzI Yco)
def f_w_heard_l2 : Ex → M Fl := fun ex => mSeq (mSet 3 (mIf (mAnd (zaf asB (mC Ycq)) (mNot (zaf asB (mXIt [.inr "InvalidKind", .inr "InvalidDesign"] false (mApp zce (zab (mC (.cls "InvalidKind")) (zab (mC (.cls "InvalidDesign")) (mNil)))))))) (mXF "word" ex) (mC (.str "other")))) (zbu)
def B_w_heard : M Fl := mSeq (mSet 3 Yw) (mSeq (mTryAs 4 zcp [("InvalidReader", hitC "InvalidReader", f_w_heard_l2)]) (mRet (mVar 3)))
def zam : OpN := fnP 3 5 B_w_heard
def B_w_bent_steps : M Fl := mSeq (mSet 2 (mApp zaj (zab (mC (.str "read")) (zab (mC (.str "read  a")) (zab (mC (.str "read a ")) (zab (mC (.str "Read a")) (zab (mC (.str "look")) (zab (mC (.str "bump c")) (zab (mC (.str "write a")) (zab (mC (.str "read abcde")) (zab (mC (.str "look A")) (zab (mC (.str "read kind")) (zab (mC (.str "")) (mNil)))))))))))))) (mSeq Yeg (mSeq (mSet 2 (mBin wAdd (mVar 2) (mApp zaj (zab (mC (.str "look same")) (zab (mC (.str "read a b")) (zab Yw (zab (mC (.int 3)) (zab (mC Ycq) (zab (mApp zce (zab (mC (.str "read")) (zab (mC (.str "a")) (mNil)))) (zab (mApp zaj (zab Yau (mNil))) (zab (mC (.str "read 1")) (zab (mC (.str "look if")) (mNil))))))))))))) (mSeq (mSet 4 (mApp zaj (zab Yh Yba))) (mRet (zan za0 [] (zab (mVar 0) (zab (mBin wAdd (mVar 4) (mApp zaj Ybe)) (mNil))))))))
def zau : OpN := fnM 2 5 B_w_bent_steps
def B_w_bent_checks : M Fl := mSeq (mSet 2 (mApp zaj (zab (mC (.str "same 0 1")) (zab (mC (.str "same 2 0")) (zab (mC (.str "same 0 0")) (zab (mC (.str "same 0 3")) (zab (mC (.str "even 1")) (zab (mC (.str "even 5")) (zab Yf1 (zab (mC (.str "same 0")) (zab (mC (.str "even 0 2")) (mNil)))))))))))) (mSeq (mSet 2 (mBin wAdd (mVar 2) (mApp zaj (zab (mC (.str "same 0 02")) (zab (mC (.str "even -1")) (zab (mC (.str "even x")) (zab (mC (.str "Same 0 2")) (zab (mC (.str "even  0")) (zab (mC (.str "even 0 ")) (zab (mC (.str "")) (zab (mC (.str "odd 0")) (zab (mC (.str "same 0 2 3")) (mNil))))))))))))) (mSeq (mSet 2 (mBin wAdd (mVar 2) (mApp zaj (zab (mC (.str "even 00")) (zab Yw (zab Yd (zab (mC Ycq) (zab (mApp zce (zab Yf1 (zab Yd (mNil)))) (zab (mApp zaj (zab (mC (.str "even 0")) (mNil))) (zab (mC (.str "same 0 9999999999")) (mNil))))))))))) (mSeq Yeg (mSeq (mSet 4 (mApp zaj Ybm)) (mRet (zan za0 [] (zab (mVar 0) Yes)))))))
def zaq : OpN := fnM 2 5 B_w_bent_checks
def f_w_any_c1 (G : OpN) : M W := zan G [] (zab (mVar 0) (zab (mBin iSub (mVar 1) Yj) (mNil)))
def B_w_any (G : OpN) : M Fl := mSeq (mSet 2 (mIf (zaf asB (mBin iGt (mVar 1) Yd)) (zan za3 [] (zab (mVar 0) (zab (mC (.int 5)) (mNil)))) (mC (.int 9)))) (mSeq (mIf (zaf asB (mBin wLt (mVar 2) (mC (.int 2)))) (mSeq (mSet 3 (zbq zaj Yeh (gN 5) mYes (f_w_any_c1 G) [5])) (mRet (mIf (zaf asB (mBin Ybu (mVar 2) Yd)) (mVar 3) (mApp oTup Yax)))) (zbu)) (mSeq (mSet 4 (mApp zaj (zab Yw (zab (mC Ycq) (zab (mC Ya3) (zab Yd (zab Yj (zab (mC (.int 2)) (zab (mBin iSub Yd Yj) (zab (mBin iPow (mC (.int 10)) (mC (.int 12))) (zab (mC (.str "")) (zab (mC (.str "a")) (zab (mC (.str "write a")) (zab (mC (.str "look c")) (zab (mC (.str "kind")) (zab (mC (.str "same 0 1")) (zab (mC (.str "abcde")) (mNil)))))))))))))))))) (mRet (zan za0 [] (zab (mVar 0) (zab (mBin wAdd (mVar 4) (mApp zaj (zab (mApp zce (zab (mC (.str "c")) (zab (mC (.int 2)) (mNil)))) (mNil)))) (mNil)))))))
def S_w_any (G : OpN) : OpN := fnM 2 6 (B_w_any G)
def F_w_any : OpN := recN S_w_any 12
def f_law_l1 : M Fl := mSeq (mSet 5 (mBin ixW (zan zcx [] (zab (mVar 3) (zab Yj (mNil)))) Yd)) (mSeq (mSet 6 (mSl (zan zbx [] Y4) zbc Ygf)) (mSeq (mSet 7 (zan za0 [] (zab (mVar 3) (zab (mApp zaj (zab (mC (.str "kind")) (zab (mC (.str "if")) (zab (mC (.str "look")) (zab (mC (.str "")) (zab (mC (.str "abcde")) (zab (mC (.str "A")) (zab Yw (zab (mC (.int 3)) (zab (mC Ycq) (zab (mApp zce (zab (mC (.str "w")) (mNil))) (zab (mApp zaj (zab (mC (.str "w")) (mNil))) (zab (mC (.str "w ")) (mNil)))))))))))))) (mNil))))) (mSeq (mIf (mOr Ydi Yb7) Yet (zbu)) (mSeq (mIf (zaf asB Ygg) Yet (zbu)) (mSeq (mIf (zaf asB Yf9) Yet (zbu)) (mSeq (mIf (zaf asB Ybx) Yet (zbu)) (mSeq (mIf (zaf asB Ybn) Yet (zbu)) (mIf (zaf asB Ybs) Yet (zbu)))))))))
def f_law_l2 : M Fl := mSeq (mSet 3 (zan F_w_deal [] (zab (mVar 0) Ym))) (mFor (mSrc rng1 (zab (mC (.int 6)) (mNil))) (gN 4) f_law_l1)
def B_law : M Fl := mSeq (mSet 1 (mApp zaj (zab (mC (.str "look c")) (zab Yau (zab (mC (.str "look c")) (zab (mC (.str "look e")) (zab (mC (.str "read b")) (mNil)))))))) (mSeq (mFor (mSrc rng1 (zab (mApp oMax2 (zab Yj (zab (mApp oMin2 (zab (mC (.int 3)) (zab (mApp oLen Yaa) (mNil)))) (mNil)))) (mNil))) (gN 2) f_law_l2) (mRet (mAndV (mBin Ydy Ybq Yw) (mBin Ydy Ydd Yw))))
def F_law : OpN := fnM 1 8 B_law
/-- where the draws lie: the list i, the great cells j -/
structure DealAt (i j : Nat) (gs : List Int) (st : Int) (hp : IH) : Prop where
 d : getL hp i = some [.r j, .t (.int st)]
 g : getL hp j = some (gs.map wI)
 len : gs.length ≤ 63
 lo : 0 ≤ st
 hi : st < 2147483647
theorem DealAt.ne {i j : Nat} {gs : List Int} {st : Int} {hp : IH} (h : DealAt i j gs st hp) : i ≠ j := by
 intro e
 subst e
 have a := h.d
 rw [h.g] at a
 cases gs with
 | nil => cases a
 | cons x xs => simp [wI] at a
theorem ne_nil {gs : List Int} {hp : IH} {j : Nat} (h : getL hp j = some (gs.map wI)) : eqW true (.r j) (.t (.lst [])) hp = .ok (.t (.bl (!gs.isEmpty))) hp := by
 unfold eqW
 simp only [asT_r, h, Option.bind_some, allT_ints, Option.map_some, asT_t, fit_l, fitL_ints, fitL_n]
 cases gs <;> simp
abbrev popT : M Bool := mAnd Yd6 (zaf asB (mBin Ybu (mBin ixW Ybj (mUn iNeg Yj)) Yd))
theorem at0 {a b : W} : atI [a, b] 0 = some a := rfl
theorem at1 {a b : W} : atI [a, b] 1 = some b := rfl
theorem pop_loop {i j : Nat} {wd : W} {c : Option W} {st : Int} (hij : i ≠ j) : ∀ (n : Nat) (gs : List Int) (hp : IH), gs.length < n → getL hp i = some [.r j, .t (.int st)] → getL hp j = some (gs.map wI) →
  ∃ gs' : List Int, gs'.length ≤ gs.length ∧ zc0 popT zb2 n [some (.r i), some wd, c] hp = .ok (.nx [some (.r i), some wd, c]) (hp.set j (some (.lst (gs'.map wI)))) := by
 intro n
 induction n with
 | zero => intro gs hp h; omega
 | succ n ih =>
  intro gs hp h hd hg
  have hj := getL_lt hg
  have g0 : mBin ixW (mVar 0) Yd [some (.r i), some wd, c] hp = .ok (.r j) hp := binP rfl rfl (by rw [ixW_r, hd, Option.bind_some, at0])
  rcases List.eq_nil_or_concat gs with e | ⟨ys, y, e⟩
  ·subst e
   refine ⟨[], Nat.le_refl _, ?_⟩
   unfold zc0 popT
   rw [p_and, zbn (binP g0 rfl (ne_nil hg)), zag]
   simp
   exact (set_same (zbs hg)).symm
  ·rw [List.concat_eq_append] at e
   subst e
   have hg' : getL hp j = some (ys.map wI ++ [wI y]) := by rw [hg]; simp
   have t1 : popT [some (.r i), some wd, c] hp = .ok (decide (y = 0)) hp := by
    unfold popT
    rw [p_and, zbn (binP g0 rfl (ne_nil hg)), zag, if_pos Yav]
    refine zbn (binP (binP g0 rfl (b := .t (.int (-1))) (r := .ok (.t (.int y)) hp) ?_) rfl ?_)
    ·rw [ixW_r, hg', Option.bind_some, atI_end]
    ·by_cases hy : y = 0 <;> simp [hy]
   unfold zc0
   rw [t1, zag]
   by_cases hy : y = 0
   ·obtain ⟨gs', l, q⟩ := ih ys Y1 (by simp at h; omega) (by rw [getL_ne hij.symm]; exact hd) (zbv hj)
    refine ⟨gs', by simp; omega, ?_⟩
    have body : zb2 [some (.r i), some wd, c] hp = .ok (.nx [some (.r i), some wd, c]) Y1 := by
     unfold zb2
     rw [p_drop, p_meth0, g0, zag]
     simp [hg', wI]
    rw [decide_eq_true hy, if_pos rfl, body, zag]
    simp only [q, List.set_set]
   ·refine ⟨ys ++ [y], Nat.le_refl _, ?_⟩
    rw [decide_eq_false hy, if_neg Ybd]
    rw [set_same (zbs hg)]
theorem draw_ok {i j : Nat} {gs : List Int} {st : Int} {hp : IH} {wide : Int} (d : DealAt i j gs st hp) (hw : 0 < wide) (hw2 : wide < 2 ^ 64) :
  ∃ (n : Int) (hp' : IH) (gs' : List Int) (st' : Int), za3 [.r i, .t (.int wide)] hp = .ok (.t (.int n)) hp' ∧ 0 ≤ n ∧ n < wide ∧ DealAt i j gs' st' hp' ∧ hp'.length = hp.length ∧ ∀ k, k ≠ i → k ≠ j → hp'[k]? = hp[k]? := by
 obtain ⟨hd, hg, hl, lo, hi⟩ := d
 have hne : i ≠ j := DealAt.ne ⟨hd, hg, hl, lo, hi⟩
 have hj := getL_lt hg
 have hi' := getL_lt hd
 obtain ⟨g2, l2, q2⟩ := pop_loop (i := i) (j := j) (wd := .t (.int wide)) (c := none) hne 4096 gs hp Yc hd hg
 have hd2 : getL Yan i = some [.r j, .t (.int st)] := by rw [getL_ne hne.symm]; exact hd
 have hg2 : getL Yan j = some (g2.map wI) := zbv hj
 have hmod : ∀ x : Int, 0 ≤ x % wide ∧ x % wide < wide := fun x => ⟨Int.emod_nonneg _ Yc, Int.emod_lt_of_pos _ hw⟩
 have g0 : ∀ (a : Option W), mBin ixW (mVar 0) Yd [some (.r i), some Yaq, a] Yan = .ok (.r j) Yan := fun a => binP rfl rfl (by rw [ixW_r, hd2, Option.bind_some, at0])
 have g1 : ∀ (a : Option W), mBin ixW (mVar 0) Yj [some (.r i), some Yaq, a] Yan = .ok (.t (.int st)) Yan := fun a => binP rfl rfl (by rw [ixW_r, hd2, Option.bind_some, at1])
 have ww : mWhile 4096 popT zb2 [some (.r i), some Yaq, none] hp = .ok (.nx [some (.r i), some Yaq, none]) Yan := q2
 have cn := ne_nil hg2
 rcases List.eq_nil_or_concat g2 with e | ⟨ys, y, e⟩
 ·subst e
  refine ⟨((st * 48271 + 43) % 2147483647 / 16) % wide, (hp.set j Yy).set i Y5, [], (st * 48271 + 43) % 2147483647, ?_, (hmod _).1, (hmod _).2, ⟨?_, ?_, ?_, ?_, ?_⟩, ?_, ?_⟩
  ·have c1 : cMul st 48271 = true := cMul_ok Yc Yc
   have hi2 : i < (hp.set j Yy).length := by simpa using hi'
   refine fnM_ok (eta := [some (.r i), some Yaq, none]) rfl rfl ?_
   unfold B_w_draw
   refine zbl ww ?_
   refine zbl (h1 := hp.set j Yy) (e1 := [some (.r i), some Yaq, none]) ?_ ?_
   ·rw [if_no (zbn (binP (g0 none) rfl cn))]
    rfl
   ·have ev : mBin iMod Yc4 (mC (.int 2147483647)) [some (.r i), some Yaq, none] (hp.set j Yy) = .ok (.t (.int ((st * 48271 + 43) % 2147483647))) (hp.set j Yy) := by
     refine binP (zcn (binP (binP (g1 none) rfl (wMul_ok c1)) rfl wAdd_ii) oInt_i) rfl ?_
     exact iMod_ok (cMod_ok Yc)
    refine zbl (e1 := [some (.r i), some Yaq, none]) (h1 := (hp.set j Yy).set i Y5) ?_ ?_
    ·exact iput_ok (k := 1) ev rfl rfl hd2 Yav
    ·rw [p_ret]
     have h3 : mBin ixW (mVar 0) Yj [some (.r i), some Yaq, none] ((hp.set j Yy).set i Y5) = .ok (.t (.int ((st * 48271 + 43) % 2147483647))) ((hp.set j Yy).set i Y5) := binP rfl rfl (by rw [ixW_r, zbv hi2, Option.bind_some, at1])
     have c3 : ∀ x, cDiv x 16 = true := fun x => cDiv_ok Yc Yc
     rw [binP (r := .ok (.t (.int (((st * 48271 + 43) % 2147483647 / 16) % wide))) ((hp.set j Yy).set i Y5)) (zcn (binP h3 rfl (iDiv_ok (c3 _))) oInt_i) rfl (iMod_ok (cMod_ok hw)), zag]
  ·rw [zbv (by simpa using hi')]
  ·rw [getL_ne hne, zbv (by simpa using hj)]
  ·simp
  ·exact Int.emod_nonneg _ Yc
  ·exact Int.emod_lt_of_pos _ Yc
  ·simp
  ·intro k h1 h2
   rw [List.getElem?_set_ne (Ne.symm h1), List.getElem?_set_ne (Ne.symm h2)]
 ·rw [List.concat_eq_append] at e
  subst e
  have hg3 : getL (hp.set j (some (.lst ((ys ++ [y]).map wI)))) j = some (ys.map wI ++ [wI y]) := by rw [hg2]; simp
  refine ⟨y % wide, hp.set j Yci, ys ++ [y / wide], st, ?_, (hmod _).1, (hmod _).2, ⟨?_, ?_, ?_, lo, hi⟩, ?_, ?_⟩
  ·have hl2 : ys.length < 16777216 := by simp at l2; omega
   refine fnM_ok (eta := [some (.r i), some Yaq, none]) rfl rfl ?_
   unfold B_w_draw
   refine zbl ww ?_
   rw [p_seq, if_yes (zbn (binP (g0 none) rfl (cn.trans Yav)))]
   have e1 : mSet 2 (mMeth0 isL oPop Ybj) [some (.r i), some Yaq, none] (hp.set j (some (.lst ((ys ++ [y]).map wI)))) = .ok (.nx [some (.r i), some Yaq, some (.t (.int y))]) Y1 := by
    refine (set_ok (w := .t (.int y)) (h1 := hp.set j (some (.lst (ys.map wI)))) ?_).trans rfl
    rw [p_meth0, g0, zag]
    simp [hj, zbv, wI]
   have hd3 : getL Y1 i = some [.r j, .t (.int st)] := by rw [getL_ne hne.symm]; exact hd
   have g3 : mBin ixW (mVar 0) Yd [some (.r i), some Yaq, some (.t (.int y))] Y1 = .ok (.r j) Y1 := binP rfl rfl (by rw [ixW_r, hd3, Option.bind_some, at0])
   have dv : mBin iDiv (mVar 2) (mVar 1) [some (.r i), some Yaq, some (.t (.int y))] Y1 = .ok (.t (.int (y / wide))) Y1 := binP rfl rfl (iDiv_ok (cDiv_ok hw hw2))
   have e2 : mDrop Yfp [some (.r i), some Yaq, some (.t (.int y))] Y1 = .ok (.nx [some (.r i), some Yaq, some (.t (.int y))]) (hp.set j Yci) := by
    rw [p_drop, p_meth, g3, zag]
    simp only [isL_r, zbv hj, Option.isSome_some, if_true, p_cons, dv, zag, p_nil, oAppend_r, List.length_map, hl2, List.set_set]
    simp [wI]
   rw [zbl e1 (zbl e2 (r := .ok (.rt (.t (.int (y % wide)))) (hp.set j Yci)) ?_)]
   ·rfl
   ·rw [p_ret, binP (r := .ok (.t (.int (y % wide))) (hp.set j Yci)) (zcn rfl oInt_i) rfl (iMod_ok (cMod_ok hw)), zag]
  ·rw [getL_ne hne.symm]; exact hd
  ·rw [zbv hj]
  ·simp at l2 ⊢; omega
  ·simp
  ·intro k h1 h2
   rw [List.getElem?_set_ne (Ne.symm h2)]
theorem DealAt.ltA {i j : Nat} {gs : List Int} {st : Int} {hp : IH} (h : DealAt i j gs st hp) : i < hp.length ∧ j < hp.length := ⟨getL_lt h.d, getL_lt h.g⟩
theorem DealAt.keepA {i j : Nat} {gs : List Int} {st : Int} {hp hp' : IH} (h : DealAt i j gs st hp) (h1 : hp'[i]? = hp[i]?) (h2 : hp'[j]? = hp[j]?) : DealAt i j gs st hp' := by
 obtain ⟨a, b, c, e, f⟩ := h
 exact ⟨by unfold getL at a ⊢; rw [h1]; exact a, by unfold getL at b ⊢; rw [h2]; exact b, c, e, f⟩
/-- the draws lie at i and j -/
def Deal (i j : Nat) (hp : IH) : Prop := ∃ gs st, DealAt i j gs st hp
theorem Deal.ne {i j : Nat} {hp : IH} (d : Deal i j hp) : i ≠ j := let ⟨_, _, h⟩ := d; h.ne
theorem Deal.lt {i j : Nat} {hp : IH} (d : Deal i j hp) : i < hp.length ∧ j < hp.length := let ⟨_, _, h⟩ := d; h.ltA
/-- cells besides the draws' stay -/
def Ext (i j : Nat) (hp hp' : IH) : Prop := hp.length ≤ hp'.length ∧ ∀ k, k < hp.length → k ≠ i → k ≠ j → hp'[k]? = hp[k]?
theorem Ext.refl {i j : Nat} {hp : IH} : Ext i j hp hp := ⟨Nat.le_refl _, fun _ _ _ _ => rfl⟩
theorem Ext.trans {i j : Nat} {a b c : IH} (h : Ext i j a b) (g : Ext i j b c) : Ext i j a c :=
 ⟨Nat.le_trans h.1 g.1, fun k hk h1 h2 => (g.2 k (Nat.lt_of_lt_of_le hk h.1) h1 h2).trans (h.2 k hk h1 h2)⟩
theorem Deal.keep {i j : Nat} {hp hp' : IH} (d : Deal i j hp) (h1 : hp'[i]? = hp[i]?) (h2 : hp'[j]? = hp[j]?) : Deal i j hp' := by
 obtain ⟨gs, st, h⟩ := d
 exact ⟨gs, st, h.keepA h1 h2⟩
theorem draw_is {i j : Nat} {hp : IH} {wide : Int} (d : Deal i j hp) (hw : 0 < wide) (hw2 : wide < 2 ^ 64) :
  ∃ (n : Int) (hp' : IH), za3 [.r i, .t (.int wide)] hp = .ok (.t (.int n)) hp' ∧ 0 ≤ n ∧ n < wide ∧ Deal i j hp' ∧ hp'.length = hp.length ∧ ∀ k, k ≠ i → k ≠ j → hp'[k]? = hp[k]? := by
 obtain ⟨gs, st, h⟩ := d
 obtain ⟨n, hp', gs', st', h1, h2, h3, h4, h5, h6⟩ := draw_ok h hw hw2
 exact ⟨n, hp', h1, h2, h3, ⟨gs', st', h4⟩, h5, h6⟩
theorem pick_is {i j : Nat} {hp : IH} {ts : List T} (d : Deal i j hp) (h0 : 0 < ts.length) (h1 : ts.length < 2 ^ 60) :
  ∃ (t : T) (hp' : IH), t ∈ ts ∧ za0 [.r i, .t Yd4] hp = .ok (.t t) hp' ∧ Deal i j hp' ∧ Ext i j hp hp' := by
 obtain ⟨n, hp', e, n0, n1, d', l, k⟩ := draw_is (wide := ts.length) d Yc Yc
 have hn : n.toNat < ts.length := by omega
 refine ⟨ts[n.toNat], hp', List.getElem_mem _, ?_, d', ⟨by omega, fun q _ h2 h3 => k q h2 h3⟩⟩
 have ha : atI Yl n = some (.t ts[n.toNat]) := by
  rw [atI_nn n0 (by simpa using n1)]
  simp [hn]
 simp [za0, fnM, B_w_pick, e, ha]
theorem neT_nil {ts : List T} {hp : IH} {j : Nat} (h : getL hp j = some Yl) (f : fitL ts 59 = true) : eqW true (.r j) (.t (.lst [])) hp = .ok (.t (.bl (!ts.isEmpty))) hp := by
 unfold eqW
 simp only [asT_r, h, Option.bind_some, zb9, Option.map_some, asT_t, fit_l, fitL_n, f]
 cases ts <;> simp
theorem seqIx {n : Int} {m : Nat} (h0 : 0 ≤ n) (h1 : n < m) : seqIndex? n m = some n.toNat := by
 unfold seqIndex?
 simp only [show ¬ n < 0 by omega, if_false]
 simp [h0, h1]
theorem mix_loop {i j a b : Nat} {w1 : W} (hab : a ≠ b) (hia : i ≠ a) (hib : i ≠ b) (hja : j ≠ a) (hjb : j ≠ b) : ∀ (n : Nat) (xs ys : List T) (hp : IH), xs.length < n → ys.length + xs.length < 1000000 → fitL xs 59 = true →
  getL hp a = some Yfn → getL hp b = some (ys.map W.t) → Deal i j hp →
  ∃ (zs : List T) (hp' : IH), zs.Perm xs ∧ zc0 (zaf asB (mBin Yah (mVar 2) (mApp zaj (mNil)))) zb5 n [some (.r i), some w1, some (.r a), some (.r b)] hp = .ok (.nx [some (.r i), some w1, some (.r a), some (.r b)]) hp' ∧
   getL hp' b = some ((ys ++ zs).map W.t) ∧ Deal i j hp' ∧ hp'.length = hp.length ∧ ∀ k, k ≠ i → k ≠ j → k ≠ a → k ≠ b → hp'[k]? = hp[k]? := by
 intro n
 induction n with
 | zero => intro xs ys hp h; omega
 | succ n ih =>
  intro xs ys hp h hz hf ha hb d
  cases xs with
  | nil =>
   refine ⟨[], hp, .refl _, ?_, by simpa using hb, d, rfl, fun _ _ _ _ _ => rfl⟩
   unfold zc0
   simp [neT_nil ha hf]
  | cons x0 xr =>
   obtain ⟨m, h1, e, m0, m1, d1, l1, k1⟩ := draw_is (wide := (x0 :: xr).length) d Yck (by simp only [List.length_cons] at hz ⊢; omega)
   have hm : m.toNat < (x0 :: xr).length := by omega
   have ha1 : getL h1 a = some ((x0 :: xr).map W.t) := by rw [getL_keep (k1 a hia.symm hja.symm)]; exact ha
   have hb1 : getL h1 b = some (ys.map W.t) := by rw [getL_keep (k1 b hib.symm hjb.symm)]; exact hb
   have la1 := getL_lt ha1
   have lb1 := getL_lt hb1
   let h2 := h1.set a (some (.lst (((x0 :: xr).eraseIdx m.toNat).map W.t)))
   have hb2 : getL h2 b = some (ys.map W.t) := by rw [getL_ne hab]; exact hb1
   have lb2 : b < h2.length := by simpa [h2] using lb1
   let h3 := h2.set b (some (.lst ((ys ++ [(x0 :: xr)[m.toNat]]).map W.t)))
   have ha3 : getL h3 a = some (((x0 :: xr).eraseIdx m.toNat).map W.t) := by rw [getL_ne hab.symm, zbv la1]
   have hb3 : getL h3 b = some ((ys ++ [(x0 :: xr)[m.toNat]]).map W.t) := zbv lb2
   have d3 : Deal i j h3 := d1.keep (by simp only [h3, h2]; rw [List.getElem?_set_ne hib.symm, List.getElem?_set_ne hia.symm]) (by simp only [h3, h2]; rw [List.getElem?_set_ne hjb.symm, List.getElem?_set_ne hja.symm])
   have el : ((x0 :: xr).eraseIdx m.toNat).length = xr.length := by rw [List.length_eraseIdx, if_pos hm]; rfl
   obtain ⟨zs, hp', p, q, r, d', l', k'⟩ := ih ((x0 :: xr).eraseIdx m.toNat) (ys ++ [(x0 :: xr)[m.toNat]]) h3 (by rw [el]; simp at h; omega) (by rw [el]; simp at hz ⊢; omega) (fitL_erase _ hf) ha3 hb3 d3
   refine ⟨(x0 :: xr)[m.toNat] :: zs, hp', (p.cons _).trans (erase_perm _ _ hm), ?_, by simpa using r, d', by rw [l']; simp [h3, h2, l1], fun k c1 c2 c3 c4 => by rw [k' k c1 c2 c3 c4]; simp only [h3, h2]; rw [List.getElem?_set_ne c4.symm, List.getElem?_set_ne c3.symm, k1 k c1 c2]⟩
   have body : zb5 [some (.r i), some w1, some (.r a), some (.r b)] hp = .ok (.nx [some (.r i), some w1, some (.r a), some (.r b)]) h3 := by
    have pop : oPopAt (.r a) [.t (.int m)] h1 = .ok (.t (x0 :: xr)[m.toNat]) h2 := by
     have m1' : m < ((x0 :: xr).map W.t).length := by simpa using m1
     have hz' : m < 2 ^ 63 := by simp at m1 hz; omega
     simp only [oPopAt, ha1, seqIx m0 m1', List.getElem?_map, List.getElem?_eq_getElem hm, Option.map_some, erase_map]
     rw [if_pos ⟨by omega, hz'⟩]
    have app : oAppend (.r b) [.t (x0 :: xr)[m.toNat]] h2 = .ok Yar h3 := by
     have : (ys.map W.t).length < 16777216 := by simp at hz ⊢; omega
     rw [oAppend_r, hb2]
     simp only [this, if_true]
     simp [h3]
    simp only [List.length_cons] at e
    simp only [zb5, p_drop, p_meth, p_var, p_cons, p_nil, p_call, p_app, List.getElem?_cons_succ, List.getElem?_cons_zero, zag, isL_r, hb, ha, oLen_r, Option.isSome_some, if_true, List.map_nil, List.append_nil, List.length_map, List.length_cons, e, zb1, pop, app]
   unfold zc0
   simp only [zcq, p_bin, p_var, p_app, p_nil, List.getElem?_cons_succ, List.getElem?_cons_zero, zag, lstOf_e, allT_n, List.length_nil, Nat.zero_le, if_true, neT_nil ha hf, asB_bl, body]
   simpa using q
theorem mixed_is {i j : Nat} {hp : IH} {ts : List T} (d : Deal i j hp) (hl : ts.length < 4000) (hf : fitL ts 59 = true) :
  ∃ (zs : List T) (hp' : IH), zs.Perm ts ∧ zbx [.r i, .t Yd4] hp = .ok (.t (.lst zs)) hp' ∧ Deal i j hp' ∧ Ext i j hp hp' := by
 obtain ⟨li, lj⟩ := d.lt
 let h1 : IH := hp ++ [some (.lst Yl)]
 let h2 : IH := h1 ++ [some (.lst [])]
 have l1 : h1.length = hp.length + 1 := by simp [h1]
 have ga : getL h2 hp.length = some Yl := by rw [getL_app Yc]; simp [h1]
 have gb : getL h2 h1.length = some (([] : List T).map W.t) := by simp [h2]
 have d2 : Deal i j h2 := d.keep (by simp only [h2, h1]; rw [List.append_assoc, List.getElem?_append_left li]) (by simp only [h2, h1]; rw [List.append_assoc, List.getElem?_append_left lj])
 obtain ⟨zs, h3, p, q, r, d3, l3, k3⟩ := mix_loop (i := i) (j := j) (a := hp.length) (b := h1.length) (w1 := .t Yd4) Yc Yc Yc Yc Yc 4096 ts [] h2 Yc Ya2 hf ga gb d2
 refine ⟨zs, h3.set h1.length none, p, ?_, d3.keep (by rw [List.getElem?_set_ne Yc]) (by rw [List.getElem?_set_ne Yc]), ⟨by rw [List.length_set, l3]; simp only [h2, List.length_append]; omega, fun k hk c1 c2 => ?_⟩⟩
 ·have e1 : hp ++ [some (Cell.lst Yl)] = h1 := rfl
  have e2 : h1 ++ [some (Cell.lst [])] = h2 := rfl
  simp only [List.nil_append] at r
  have e3 : (hp ++ [some (Cell.lst Yl)]).length = h1.length := rfl
  simp only [zbx, fnM, B_w_mixed]
  simp [q, r, e1, e2]
 ·rw [List.getElem?_set_ne Yc, k3 k c1 c2 Yc Yc]
  simp only [h2, h1]
  rw [List.append_assoc, List.getElem?_append_left hk]
theorem stir_loop {w0 w1 w2 : W} : ∀ (cs : List Int) (st : Int) (o4 : Option W) (hp : IH), 0 ≤ st → st < 2 ^ 40 →
  ∃ (st' : Int) (o4' : Option W), 0 ≤ st' ∧ st' < 2 ^ 40 ∧ (cs ≠ [] → st' < 2147483647) ∧ forL (gN 4) zci ((cs.map T.int).map W.t) [some w0, some w1, some w2, some (.t (.int st)), o4] hp = .ok (.nx [some w0, some w1, some w2, some (.t (.int st')), o4']) hp
 | [], st, o4, hp, h0, h1 => ⟨st, o4, h0, h1, fun h => (h rfl).elim, rfl⟩
 | c :: cs, st, o4, hp, h0, h1 => by
  have c1 : cMul st 48271 = true := cMul_ok Yc Yc
  have b0 : 0 ≤ (st * 48271 + c % 2147483629 + 41) % 2147483647 := Int.emod_nonneg _ Yc
  have b1 : (st * 48271 + c % 2147483629 + 41) % 2147483647 < 2147483647 := Int.emod_lt_of_pos _ Yc
  obtain ⟨st', o4', a, b, d, q⟩ := stir_loop (w0 := w0) (w1 := w1) (w2 := w2) cs ((st * 48271 + c % 2147483629 + 41) % 2147483647) (some (.t (.int c))) hp b0 Yc
  refine ⟨st', o4', a, b, fun _ => ?_, ?_⟩
  ·by_cases e : cs = []
   ·subst e
    simp only [List.map_nil, forL, Res.ok.injEq, Fl.nx.injEq, List.cons.injEq, Option.some.injEq, W.t.injEq, T.int.injEq] at q
    omega
   ·exact d e
  ·rw [← q]
   have body : zci [some w0, some w1, some w2, some (.t (.int st)), some (.t (.int c))] hp = .ok (.nx [some w0, some w1, some w2, some (.t (.int ((st * 48271 + c % 2147483629 + 41) % 2147483647))), some (.t (.int c))]) hp := by
    unfold zci
    refine (set_ok (h1 := hp) (binP (zcn (binP (binP (binP rfl rfl (wMul_ok c1)) (binP (zcn rfl oInt_i) rfl (iMod_ok (cMod_ok Yc))) wAdd_ii) rfl wAdd_ii) oInt_i) rfl (iMod_ok (cMod_ok Yc)))).trans rfl
   simp only [List.map_cons, forL, p_gN, List.set_cons_succ, List.set_cons_zero, body, zag]
theorem deal_is {ns : List Int} {b : Int} {hp : IH} (hn : ns.length ≤ 63) (hb : 0 ≤ b ∧ b < 1000) : ∃ (k : Nat) (hp' : IH), F_w_deal [.t Y9, .t (.int b)] hp = .ok (.r k) hp' ∧ Deal k (k - 1) hp' ∧ hp.length < k ∧ ∀ x, x < hp.length → hp'[x]? = hp[x]? := by
 let cs : List Int := (cutL ns (some b) (some 62)).map fun c => if c < 0 then -c else c
 have lc : cs.length ≤ 63 := by
  have := cutL_len ns (some b) (some 62)
  simp only [cs, List.length_map]
  omega
 have mb : cMul 59 b = true := cMul_ok Yc Yc
 obtain ⟨st, o4, a, bb, z, q⟩ := stir_loop (w0 := .t Y9) (w1 := .t (.int b)) (w2 := .t Yeu) cs (49979687 + 59 * b) none hp Yc Yc
 have st31 : st < 2147483647 := by
  by_cases e : cs = []
  ·rw [e] at q
   simp only [List.map_nil, forL, Res.ok.injEq, Fl.nx.injEq, List.cons.injEq, Option.some.injEq, W.t.injEq, T.int.injEq] at q
   omega
  ·exact z e
 let g : Int → Bool := fun c => decide ((10 : Int) ^ 18 ≤ c)
 let eta0 : IS := [some (.t Y9), some (.t (.int b)), none, none, none]
 have k1 : (cutL (ns.map T.int) (some b) (some 62)).length ≤ 16777216 := by
  have := cutL_len (ns.map T.int) (some b) (some 62)
  rw [List.length_map] at this
  omega
 have s1 : mSet 2 Ydv eta0 hp = .ok (.nx [some (.t Y9), some (.t (.int b)), some (.t Yeu), none, none]) hp := by
  refine (set_ok (w := .t Yeu) (h1 := hp) (comp_ok (ws := ((cutL ns (some b) (some 62)).map T.int).map W.t) (ys := (cs.map T.int).map W.t) (h1 := hp) (h2 := hp) ?_ ?_ ?_ ?_)).trans rfl
  ·rw [← cutL_map]
   simp [eta0, slW]
  ·rw [← cutL_map]; simpa using k1
  ·simp only [cs]
   rw [List.map_map (f := fun c : Int => if c < 0 then -c else c)]
   exact comp_all fun c _ => zcn (zcn rfl oInt_i) oAbs_i
  ·have : cs.length ≤ 16777216 := by omega
   simp [-List.map_map, this]
 have c2 : zbq zaj Yfd (gN 4) zch zc8 [4] [some (.t Y9), some (.t (.int b)), some (.t Yeu), some (.t (.int st)), o4] hp = .ok (.t (.lst ((cs.filter g).map T.int))) hp := by
  have lf := List.length_filter_le g cs
  refine comp_ok (ws := (cs.map T.int).map W.t) (ys := ((cs.filter g).map T.int).map W.t) (h1 := hp) (h2 := hp) rfl Ya2 ?_ ?_
  ·refine comp_list (p := g) (fun c _ => ?_) fun c _ _ => rfl
   simp [zch, wipeI, g, cPow]
  ·have : (cs.filter g).length ≤ 16777216 := by omega
   simp [-List.map_map, this]
 let h1 : IH := hp ++ [some (.lst (((cs.filter g).reverse).map wI))]
 let h2 : IH := h1 ++ [some (.lst [.r hp.length, .t (.int st)])]
 have lz : (cs.filter g).length ≤ 63 := Nat.le_trans (List.length_filter_le _ _) lc
 refine ⟨hp.length + 1, h2, ?_, ⟨(cs.filter g).reverse, st, ⟨?_, ?_, by simpa using lz, a, st31⟩⟩, by omega, fun x hx => ?_⟩
 ·refine fnM_ok (eta := eta0) rfl rfl ?_
  unfold B_w_deal
  refine zbl s1 ?_
  refine zbl (h1 := hp) ((set_ok (h1 := hp) (binP rfl (binP rfl rfl (wMul_ok mb)) wAdd_ii)).trans rfl) ?_
  refine zbl ((for_ok (ws := (cs.map T.int).map W.t) (h1 := hp) rfl).trans q) ?_
  have rv : mUn oRevL (zbq zaj Yfd (gN 4) zch zc8 [4]) [some (.t Y9), some (.t (.int b)), some (.t Yeu), some (.t (.int st)), o4] hp = .ok Ycm h1 := by
   rw [p_un, c2, zag]
   unfold oRevL
   simp only [litems_l, h1]
   rw [← List.map_reverse, ← List.map_reverse, List.map_map]
   rfl
  have l1 : h1.length = hp.length + 1 := by simp [h1]
  rw [p_ret, p_app, zax rv (zax rfl rfl), zag, newL_e, if_pos Yav, zag, l1]
 ·rw [show hp.length + 1 - 1 = hp.length by omega]
  have e : hp.length + 1 = h1.length := by simp [h1]
  rw [e]
  exact getL_new
 ·rw [show hp.length + 1 - 1 = hp.length by omega, getL_app (by simp [h1])]
  simp [h1]
 ·simp only [h2, h1]
  rw [List.append_assoc, List.getElem?_append_left hx]
theorem fnP_lift {n nn : Nat} {B : M Fl} {ws : List W} {y : T} {h0 hp : IH} (h : fnP n nn B ws [] = .ok (.t y) h0) : fnP n nn B ws hp = .ok (.t y) hp := by
 unfold fnP at h ⊢
 split at h
 ·rename_i c
  rw [if_pos c]
  split at h
  ·cases h
   rfl
  ·cases h
   rfl
  ·cases h
 ·cases h
mutual
def sameT : T → T → Bool
 | .non, y => (match y with | .non => true | _ => false)
 | .int i, y => (match y with | .int j => decide (i = j) | _ => false)
 | .str x, y => (match y with | .str z => decide (x = z) | _ => false)
 | .tup xs, y => (match y with | .tup ys => sameL xs ys | _ => false)
 | .lst xs, y => (match y with | .lst ys => sameL xs ys | _ => false)
 | .ins c fs vs, y => (match y with | .ins c' fs' vs' => decide (c = c') && (decide (fs = fs') && sameL vs vs') | _ => false)
 | .bl i, y => (match y with | .bl j => decide (i = j) | _ => false)
 | .scr _, _ => false | .pr _, _ => false | .ty _, _ => false | .dic _ _, _ => false | .cls _, _ => false | .dit _ _, _ => false | .exc _ _ _, _ => false
def sameL : List T → List T → Bool
 | [], ys => (match ys with | [] => true | _ :: _ => false)
 | x :: xs, ys => (match ys with | [] => false | y :: ys => sameT x y && sameL xs ys)
end
mutual
theorem same_eq : ∀ (x y : T), sameT x y = true → x = y
 | .non, y, h => by cases y <;> simp [sameT] at h ⊢
 | .int i, y, h => by cases y <;> simp [sameT] at h ⊢; exact h
 | .str x, y, h => by cases y <;> simp [sameT] at h ⊢; exact h
 | .tup xs, y, h => by cases y <;> simp [sameT] at h ⊢; exact sameL_eq _ _ h
 | .lst xs, y, h => by cases y <;> simp [sameT] at h ⊢; exact sameL_eq _ _ h
 | .ins c fs vs, y, h => by cases y <;> simp [sameT] at h ⊢; exact ⟨h.1, h.2.1, sameL_eq _ _ h.2.2⟩
 | .bl i, y, h => by cases y <;> simp [sameT] at h ⊢; exact h
 | .scr _, y, h => by simp [sameT] at h
 | .pr _, y, h => by simp [sameT] at h
 | .ty _, y, h => by simp [sameT] at h
 | .dic _ _, y, h => by simp [sameT] at h
 | .cls _, y, h => by simp [sameT] at h
 | .dit _ _, y, h => by simp [sameT] at h
 | .exc _ _ _, y, h => by simp [sameT] at h
theorem sameL_eq : ∀ (xs ys : List T), sameL xs ys = true → xs = ys
 | [], ys, h => by cases ys <;> simp [sameL] at h ⊢
 | x :: xs, ys, h => by
  cases ys with
  | nil => simp [sameL] at h
  | cons y ys =>
   simp only [sameL, Bool.and_eq_true] at h
   rw [same_eq _ _ h.1, sameL_eq _ _ h.2]
end
def isT (r : Res W) (t : T) : Bool := match r with
 | .ok (.t y) _ => sameT y t
 | _ => false
theorem isT_ok {r : Res W} {t : T} (h : isT r t = true) : ∃ h', r = .ok (.t t) h' := by
 unfold isT at h
 split at h
 ·rename_i y h'
  exact ⟨h', by rw [same_eq _ _ h]⟩
 ·cases h
/-- a comprehension whose turns leave the heap -/
theorem comp_g {A : Type} {G : W → IS → Option IS} {U : M Bool} {E : M W} {eta : IS} {hp : IH} {src : A → W} {loc : A → IS} {p : A → Bool} {g : A → T} : ∀ (as : List A), (∀ a ∈ as, G (src a) eta = some (loc a)) → (∀ a ∈ as, U (loc a) hp = .ok (p a) hp) → (∀ a ∈ as, p a = true → E (loc a) hp = .ok (.t (g a)) hp) →
  zb8 G U E eta (as.map src) hp = .ok (((as.filter p).map g).map W.t) hp
 | [], _, _, _ => rfl
 | a :: as, h1, h2, h3 => by
  have ih := comp_g (G := G) (U := U) (E := E) (eta := eta) (hp := hp) (src := src) (loc := loc) (p := p) (g := g) as (fun b hb => h1 b Yer) (fun b hb => h2 b Yer) fun b hb => h3 b Yer
  have e1 := h1 a Yx
  have e2 := h2 a Yx
  have e3 := h3 a Yx
  simp only [List.map_cons, zb8, turnL, e1, e2, zag]
  by_cases c : p a = true
  ·rw [c, List.filter_cons_of_pos c]
   simp only [if_true, e3 c, zag, zb1, ih, List.map_cons]
  ·have c' : p a = false := by simpa using c
   rw [c', List.filter_cons_of_neg c]
   simp only [Bool.false_eq_true, if_false, zag, zb1, ih]
theorem filter_all {A : Type} (l : List A) : l.filter (fun _ => true) = l := List.filter_eq_self.mpr fun _ _ => rfl
theorem lst_ok {ts : List T} {hp : IH} (h : ts.length ≤ 16777216) : zaj Yl hp = .ok Y3 hp := by
 unfold zaj
 rw [zb9]
 simp only [h, if_true]
section
open TL
theorem str_eq {x y : Str} (h : tl x = tl y) : x = y := by rw [← mk_tl x, ← mk_tl y, h]
theorem len_app (x y : Str) : (x ++ y).length = x.length + y.length := by rw [len_tl, len_tl, len_tl, tl_append, List.length_append]
theorem join_cons2 (s x y : Str) (r : List Str) : Txt.join s (x :: y :: r) = x ++ s ++ Txt.join s (y :: r) := by rw [join_eq, join_eq]; rfl
theorem join_one (s x : Str) : Txt.join s [x] = x := by rw [join_eq]; rfl
theorem sm_ok {f : OpM} {Fo Fe : M W} {eta : IS} {hp h1 h2 : IH} {a : Str} {u : W} {r : Res W} (h : Fo eta hp = .ok Yez h1) (g : Fe eta h1 = .ok u h2) (q : f Yez [u] h2 = r) : mSM f Fo Fe eta hp = r := by
 unfold mSM
 rw [h, zag]
 show (Fe eta h1).bind _ = _
 rw [g, zag]
 exact q
theorem split_is {a b : Str} {ls : List Str} {hp : IH} (e : Txt.split a b = ls) (hb : (b.length == 0) = false) (ha : a.length + 2 ≤ 16777216) : oSplit Yez [.t (.str b)] hp = .ok (.t (.lst (ls.map T.str))) hp := by
 unfold oSplit
 simp only
 rw [if_pos ⟨hb, ha⟩, e]
/-- a name: small letters, at most four -/
structure Nam (x : Str) : Prop where
 is : ∀ hp, zbb [.t (.str x)] hp = .ok (.t Ycq) hp
 fr : ∀ c ∈ tl x, 97 ≤ c ∧ c ≤ 122
 ln : x.length ≤ 4
 ne : x ≠ "if"
def namB (x : Str) : Bool := isT (zbb [.t (.str x)] []) Ycq && ((tl x).all (fun c => decide (97 ≤ c) && decide (c ≤ 122)) && (decide (x.length ≤ 4) && !decide (x = "if")))
theorem nam_ok {x : Str} (h : namB x = true) : Nam x := by
 unfold namB at h
 simp only [Bool.and_eq_true, List.all_eq_true, decide_eq_true_eq, Bool.not_eq_true', decide_eq_false_iff_not] at h
 obtain ⟨h1, h2, h3, h4⟩ := h
 obtain ⟨_, e⟩ := isT_ok h1
 exact ⟨fun hp => fnP_lift e, h2, h3, h4⟩
theorem Nam.no {x : Str} (n : Nam x) {c : Nat} (h : c < 97) : c ∉ tl x := fun m => by have := n.fr c m; omega
/-- a step: a word, a name -/
abbrev Deed := Str × Str
def dTx (d : Deed) : Str := d.1 ++ " " ++ d.2
def dTr (d : Deed) : T := .tup [.str d.1, .str d.2]
/-- words without signs that part texts -/
structure Wrd (w : Str) : Prop where
 fr : ∀ c ∈ tl w, 97 ≤ c ∧ c ≤ 122
 ln : w.length ≤ 10
def wrdB (w : Str) : Bool := (tl w).all (fun c => decide (97 ≤ c) && decide (c ≤ 122)) && decide (w.length ≤ 10)
theorem wrd_ok {w : Str} (h : wrdB w = true) : Wrd w := by
 unfold wrdB at h
 simp only [Bool.and_eq_true, List.all_eq_true, decide_eq_true_eq] at h
 exact ⟨h.1, h.2⟩
theorem Wrd.no {w : Str} (n : Wrd w) {c : Nat} (h : c < 97) : c ∉ tl w := fun m => by have := n.fr c m; omega
theorem tl_sp : tl (" " : Str) = [32] := by decide +kernel
theorem split_sp {w x : Str} (hw : 32 ∉ tl w) (hx : 32 ∉ tl x) : Txt.split (w ++ " " ++ x) " " = [w, x] := by
 have h : w ++ " " ++ x = Txt.join " " [w, x] := by rw [join_eq]; rfl
 rw [h]
 exact split_join (s := 32) (S := []) tl_sp Yv Yav fun p hp => by
  simp only [List.mem_cons, List.not_mem_nil, or_false] at hp
  rcases hp with rfl | rfl
  ·exact hw
  ·exact hx
theorem sp_len : (" " : Str).length = 1 := by decide +kernel
theorem dTx_len {d : Deed} (w : Wrd d.1) (n : Nam d.2) : (dTx d).length ≤ 15 := by
 unfold dTx
 rw [len_app, len_app, sp_len]
 have := w.ln
 have := n.ln
 omega
theorem in_strs {neg : Bool} {x : Str} {l : List Str} {hp : IH} : inW neg (.t (.str x)) (.t (.tup Yfv)) hp = .ok Yfq hp := by
 have f : fitL Yfv 60 = true := fitL_strs
 simp only [inW, asT_t, items_t, Option.bind_some, zb9, fit_s, f, and_self, if_true, any_str]
theorem deed_is {d : Deed} {ws : List Str} {hp : IH} (hw : d.1 ∈ ws) (w : Wrd d.1) (n : Nam d.2) :
  zc2 [.t Yfe, .t Yao] hp = .ok (.t (dTr d)) hp := by
 refine fnP_ok (ts := [.str (dTx d), .tup (ws.map T.str)]) (eta := [some (.t Yfe), some (.t Yao), none]) rfl rfl (h1 := []) ?_
 have sp : mSM oSplit (mVar 0) (mC (.str " ")) [some (.t Yfe), some (.t Yao), none] [] = .ok (.t (.lst [.str d.1, .str d.2])) [] :=
  sm_ok rfl rfl (split_is (split_sp (w.no Yc) (n.no Yc)) Yv (by have := dTx_len w n; unfold dTx at this; omega))
 have nw : ∀ h : IH, inW true (.t (.str d.1)) (.t Yao) h = .ok (.t Ya3) h := fun h => by
  rw [in_strs]
  simp [hw]
 have nn := n.is
 unfold B_deed_in
 refine zbl (e1 := [some (.t Yfe), some (.t Yao), none]) (h1 := []) rfl ?_
 refine zbl (set_ok sp) ?_
 simp only [List.set_cons_succ, List.set_cons_zero]
 unfold dTr
 simp_arith [nw, nn, Int.cast_ofNat_Int]
theorem onceK_nd : ∀ (ks acc : List Key), (acc ++ ks).Nodup → ks.foldl addK acc = acc ++ ks
 | [], acc, _ => by simp
 | k :: ks, acc, h => by
  have hm : memK k acc = false := by
   simp only [memK, List.any_eq_false, decide_eq_true_eq]
   intro j hj e
   subst e
   exact (List.nodup_append.mp h).2.2 _ hj _ Yx rfl
  have e : addK acc k = acc ++ [k] := by simp [addK, hm]
  rw [List.foldl_cons, e, onceK_nd ks (acc ++ [k]) (by simpa using h), List.append_assoc]
  rfl
theorem keysOf_strs : ∀ l : List Str, keysOf ((l.map T.str).map W.t) = some (l.map Sum.inr)
 | [] => rfl
 | x :: l => by
  simp only [List.map_cons, keysOf, keysOf_strs l, Option.map_some]
theorem lenset_nd {F : M W} {eta : IS} {hp h1 : IH} {l : List Str} (h : F eta hp = .ok (.t (.lst Yfv)) h1) (nd : l.Nodup) (hl : l.length ≤ 4000) : mLenSet F eta hp = .ok (.t (.int (l.length : Nat))) h1 := by
 unfold mLenSet
 rw [h, zag, litems_l, Option.bind_some, keysOf_strs]
 have nd2 : (l.map Yc5).Nodup := List.Pairwise.map _ (fun a b h e => h (Sum.inr.inj e)) nd
 have e : zcd (l.map Yc5) = l.map Sum.inr := by
  unfold zcd
  rw [onceK_nd _ [] (by simpa using nd2), List.nil_append]
 simp only [e, List.length_map, hl, if_true]
end
section
open TL
structure DOk (ws : List Str) (d : Deed) : Prop where
 m : d.1 ∈ ws
 w : Wrd d.1
 n : Nam d.2
theorem seq_isq {b : Bool} {ts : List T} {hp : IH} : zav [.t Ycr] hp = .ok (.t Ycq) hp := by
 cases b
 ·exact fnP_ok (ts := [.lst ts]) (eta := [some Y3]) rfl rfl (h1 := []) rfl
 ·exact fnP_ok (ts := [.tup ts]) (eta := [some Y7]) rfl rfl (h1 := []) rfl
theorem non_in {l : List T} {hp : IH} (f2 : fitL l 60 = true) (h : ∀ t ∈ l, Mir.eqT t .non = false) : inW false Yar (.t (.lst l)) hp = .ok (.t Ya3) hp := by
 have a : l.any (fun y => Mir.eqT y .non) = false := List.any_eq_false.mpr fun t ht => by simp [h t ht]
 simp only [inW, asT_t, items_l, Option.bind_some, zb9, fit_n, f2, and_self, if_true, a]
 simp
theorem dTr_fit {ds : List Deed} {n : Nat} : fitL Ycg (n + 2) = true := by
 induction ds with
 | nil => simp
 | cons d ds ih => simp [dTr, ih]
theorem deeds_is {b : Bool} {w0 : Str} {ws : List Str} {ds : List Deed} {hp : IH} (ok : ∀ d ∈ ds, DOk Ycd d) (nd : ((ds.filter fun d => decide (d.1 = w0)).map (·.2)).Nodup) (hl : ds.length ≤ 1000) :
  zbi [.t (sqT b Y6), .t Y2] hp = .ok (.t Yi) hp := by
 let v0 : Option W := some (.t (sqT b Y6))
 let v1 : Option W := some (.t Y2)
 refine fnP_ok (ts := [sqT b Y6, .tup ((w0 :: ws).map T.str)]) (eta := [v0, v1, none, none, none, none]) rfl rfl (h1 := []) ?_
 unfold B_deeds_in
 refine zbl (e1 := [v0, v1, none, none, none, none]) (h1 := []) ?_ ?_
 ·rw [if_no (h1 := []) (by rw [p_not, zcq, zal (ws := [.t (sqT b Y6)]) rfl seq_isq]; rfl)]
  rfl
 have c1 : zbq zaj (mSq (mVar 0)) (gN 4) mYes zbg [4] [v0, v1, none, none, none, none] [] = .ok Yf3 [] := by
  have q := comp_g (G := gN 4) (U := mYes) (E := zbg) (eta := [v0, v1, none, none, none, none]) (hp := []) (src := fun d : Deed => W.t Yfe)
   (loc := fun d => [v0, v1, none, none, some (.t Yfe), none]) (p := fun _ => true) (g := dTr) ds Yce Yce
   (fun d hd _ => zal (ws := [.t Yfe, .t Y2]) rfl (deed_is (ok d hd).m (ok d hd).w (ok d hd).n))
  rw [filter_all] at q
  refine comp_ok (ws := (ds.map fun d => T.str (dTx d)).map W.t) (ys := (ds.map dTr).map W.t) (h1 := []) (h2 := []) ?_ Ya2 ?_ (lst_ok Ya2)
  ·rw [p_sq, varP rfl, zag, sqI_sq]
  ·rw [List.map_map]
   exact q
 refine zbl (set_ok c1) ?_
 let eta1 : IS := [v0, v1, some Yf3, none, none, none]
 have c2 : zbq zaj Yfd (gN 5) za1 zba [5] eta1 [] = .ok (.t (.lst (((ds.filter fun d => decide (d.1 = w0)).map (·.2)).map T.str))) [] := by
  have q := comp_g (G := gN 5) (U := za1) (E := zba) (eta := eta1) (hp := []) (src := fun d : Deed => W.t (dTr d))
   (loc := fun d => [v0, v1, some Yf3, none, none, some (.t (dTr d))]) (p := fun d => decide (d.1 = w0)) (g := fun d => .str d.2) ds Yce
   (fun d _ => by
    unfold za1 dTr
    simp_arith [v1]) (fun _ _ _ => by
    unfold zba dTr
    simp_arith [])
  have le := List.length_filter_le (fun d : Deed => decide (d.1 = w0)) ds
  refine comp_ok (ws := (ds.map dTr).map W.t) (ys := ((ds.filter fun d => decide (d.1 = w0)).map fun d => T.str d.2).map W.t) (h1 := []) (h2 := []) rfl Ya2 ?_ ?_
  ·rw [List.map_map]
   exact q
  ·rw [lst_ok Ya2, List.map_map]
   rfl
 refine zbl (set_ok c2) ?_
 have le := List.length_filter_le (fun d : Deed => decide (d.1 = w0)) ds
 have ni : ∀ h : IH, inW false Yar Yf3 h = .ok (.t Ya3) h := fun h => non_in dTr_fit fun t ht => by
  obtain ⟨d, _, rfl⟩ := List.mem_map.mp ht
  simp [dTr, Mir.eqT]
 generalize hps : (ds.filter fun d => decide (d.1 = w0)).map (·.2) = parts at nd ⊢
 have lp : parts.length ≤ 1000 := by rw [← hps, List.length_map]; omega
 have ls : mLenSet (mVar 3) [v0, v1, some Yf3, some (.t (.lst (parts.map T.str))), none, none] [] = .ok (.t (.int (parts.length : Nat))) [] := lenset_nd rfl nd Yc
 show mRet _ [v0, v1, some Yf3, some (.t (.lst (parts.map T.str))), none, none] [] = _
 simp_arith [ni, ls]
abbrev wR : List Str := ["read", "look"]
theorem fnX_nx {n nn : Nat} {B : M Fl} {ws : List W} {hp h1 : IH} {e eta : IS} (hl : ws.length = n) (he : ws.map some ++ List.replicate (nn - n) none = eta) (h : B eta hp = .ok (.nx e) h1) : fnX n nn B ws hp = .ok Yar h1 := by
 unfold fnX
 rw [if_pos hl, he, h]
theorem fset_ok' {cs : List Str} {f c : Str} {Fo Fv : M W} {eta : IS} {hp h1 : IH} {v : W} {i : Nat} {fs : List Yey} (h : Fv eta hp = .ok v h1) (g : Fo eta h1 = .ok (.r i) h1) (q : h1[i]? = some (some (.ins c fs))) (m : c ∈ cs) (l : fs.length < 1000) : mFldSet cs f Fo Fv eta hp = .ok Yc1 (h1.set i (some Yge)) := by
 unfold mFldSet
 rw [h, zag, g, zag]
 unfold fldSet
 simp only [q, m, l, and_self, if_true]
theorem set_set {hp : IH} {i : Nat} {a b : Option Cell} : (hp.set i a).set i b = hp.set i b := List.set_set ..
theorem set_at {hp : IH} {i : Nat} {a : Option Cell} (h : i < hp.length) : (hp.set i a)[i]? = some a := by rw [List.getElem?_set_self h]
end
section
open TL
theorem app_at {hp : IH} {x : Option Cell} : (hp ++ [x])[hp.length]? = some x := by simp
theorem app_set {hp : IH} {x y : Option Cell} : (hp ++ [x]).set hp.length y = hp ++ [y] := by simp
theorem frz_made {F : M W} {eta : IS} {hp h1 : IH} {c : Str} {fs : List Yey} {ts : List T} (h : F eta hp = .ok (.r h1.length) (h1 ++ [some (.ins c fs)])) (g : ∀ h, frzAll fs h = .ok ts h) : mFrzI F eta hp = .ok (.t (.ins c (fs.map (·.1)) ts)) (h1 ++ [none]) := by
 unfold mFrzI
 rw [h, zag]
 unfold freezeI
 simp only [app_at, g, zag, app_set]
end
section
theorem makeX_ok {c : Str} {f : OpN} {ds : List T} {Fs : M (List W)} {eta : IS} {hp h1 : IH} {ws : List W} {fs : List Yey} (h : Fs eta hp = .ok ws h1) (q : f Yfb (h1 ++ [some (.ins c [])]) = .ok Yar (h1 ++ [some (.ins c fs)])) :
  mMakeX c f ds Fs eta hp = .ok (.r h1.length) (h1 ++ [some (.ins c fs)]) := by
 unfold mMakeX
 rw [h, zag, q]
 rfl
end
section
open TL
/-- a reader: cs the texts of its checks, ts the checks -/
def rdrG (n : Str) (ds : List Deed) (cs : List Str) (ts : List T) : T := .ins "Reader" ["name", "steps", "checks", "deeds", "tests"] [.str n, .tup Y6, .tup (cs.map T.str), .tup Ycg, .tup ts]
structure ROk (n : Str) (ds : List Deed) : Prop where
 n : Nam n
 ok : ∀ d ∈ ds, DOk wR d
 nd : ((ds.filter fun d => decide (d.1 = ("read" : Str))).map (·.2)).Nodup
 hl : ds.length ≤ 1000
 h0 : ∃ d ∈ ds, d.1 = ("read" : Str)
theorem ROk.ne {n : Str} {ds : List Deed} (h : ROk n ds) : 0 < ds.length := by
 obtain ⟨d, hd, _⟩ := h.h0
 exact List.length_pos_of_mem hd
theorem in_lstrs {neg : Bool} {x : Str} {l : List Str} {hp : IH} : inW neg (.t (.str x)) (.t (.lst Yfv)) hp = .ok Yfq hp := by
 have f : fitL Yfv 60 = true := fitL_strs
 simp only [inW, asT_t, items_l, Option.bind_some, zb9, fit_s, f, and_self, if_true, any_str]
theorem reader_init {b bc : Bool} {n : Str} {ds : List Deed} {cs : List Str} {ts : List T} {hp : IH} {i : Nat} (hi : hp[i]? = some (some (.ins "Reader" []))) (h : ROk n ds) (ht : ∀ hp, zbm [.t Ydz, .t Yi] hp = .ok Y7 hp) :
  za2 [.r i, .t (.str n), .t (sqT b Y6), .t Ydz] hp = .ok Yar (hp.set i (some (.ins "Reader" [("name", .t (.str n)), ("steps", .t (.tup Y6)), ("checks", .t (.tup (cs.map T.str))), ("deeds", .t Yi), ("tests", .t (.tup ts))]))) := by
 have il : i < hp.length := (List.getElem?_eq_some_iff.mp hi).1
 have hl := h.hl
 let v2 : W := .t (sqT b Y6)
 let v3 : W := .t Ydz
 let E : IS := [some (.r i), some Yf4, some v2, some v3, some (.t Yi), some Y7, none, none]
 refine fnX_nx (e := E) (eta := [some (.r i), some Yf4, some v2, some v3, none, none, none, none]) rfl rfl ?_
 unfold zc6
 refine zbl (e1 := [some (.r i), some Yf4, some v2, some v3, none, none, none, none]) (h1 := hp) ?_ ?_
 ·rw [if_no (h1 := hp) (by rw [p_not, zcq, zal (ws := [.t (.str n)]) rfl (h.n.is _)]; rfl)]
  rfl
 refine zbl (set_ok (zal (ws := [v2, .t (.tup (wR.map T.str))]) rfl (deeds_is h.ok h.nd hl))) ?_
 simp only [List.set_cons_succ, List.set_cons_zero]
 let E1 : IS := [some (.r i), some Yf4, some v2, some v3, some (.t Yi), none, none, none]
 refine zbl (e1 := E1) (h1 := hp) ?_ ?_
 ·have c2 : zbq zaj (mSq (mVar 4)) (gT 2 Yd8) mYes zaw [6, 7] E1 hp = .ok (.t (.lst ((ds.map (·.1)).map T.str))) hp := by
   have q := comp_g (G := gT 2 Yd8) (U := mYes) (E := zaw) (eta := E1) (hp := hp) (src := fun d : Deed => W.t (dTr d))
    (loc := fun d => [some (.r i), some Yf4, some v2, some v3, some (.t Yi), none, some (.t (.str d.1)), some (.t (.str d.2))]) (p := fun _ => true) (g := fun d => .str d.1) ds Yce Yce (fun _ _ _ => rfl)
   rw [filter_all] at q
   refine comp_ok (ws := (ds.map dTr).map W.t) (ys := (ds.map fun d => T.str d.1).map W.t) (h1 := hp) (h2 := hp) rfl Ya2 ?_ ?_
   ·rw [List.map_map]
    exact q
   ·rw [lst_ok Ya2, List.map_map]
    rfl
  have m : ("read" : Str) ∈ ds.map (·.1) := by
   obtain ⟨d, hd, e⟩ := h.h0
   exact List.mem_map.mpr ⟨d, hd, e⟩
  have t2 : zaf asB Yaj E1 hp = .ok false hp := zbn (binP rfl c2 (by rw [in_lstrs]; simp only [if_true, decide_eq_true m, Bool.not_true]))
  have t1 : zaf asB (mBin Ydy (mVar 4) Yw) E1 hp = .ok false hp := rfl
  rw [if_no (h1 := hp) (by rw [p_or, t1, zag]; exact t2)]
  rfl
 refine zbl (set_ok (zal (ws := [v3, .t Yi]) rfl (ht _))) ?_
 show mSeq _ _ E hp = _
 refine zbl (e1 := E) (h1 := hp) rfl ?_
 refine zbl (fset_ok' (c := "Reader") (h1 := hp) (v := .t (.str n)) rfl rfl hi Ybd Ybd) ?_
 refine zbl (fset_ok' (c := "Reader") (v := .t (.tup Y6)) (zcn rfl oTup_sq) rfl (set_at il) Ybd Yev) ?_
 rw [set_set]
 refine zbl (fset_ok' (c := "Reader") (v := .t (.tup (cs.map T.str))) (zcn rfl oTup_sq) rfl (set_at il) Ybd Yev) ?_
 rw [set_set]
 refine zbl (fset_ok' (c := "Reader") (v := .t Yi) rfl rfl (set_at il) Ybd Yev) ?_
 rw [set_set]
 refine (fset_ok' (c := "Reader") (v := .t (.tup ts)) rfl rfl (set_at il) Ybd Yev).trans ?_
 rw [set_set]
 rfl
end
section
theorem rdr_made {b bc : Bool} {n : Str} {ds : List Deed} {cs : List Str} {ts : List T} {Fs : M (List W)} {eta : IS} {hp h1 : IH} (r : ROk n ds) (h : Fs eta hp = .ok [.t (.str n), .t (sqT b Y6), .t Ydz] h1) (ht : ∀ hp, zbm [.t Ydz, .t Yi] hp = .ok Y7 hp) :
  mFrzI (mMakeX "Reader" za2 [] Fs) eta hp = .ok (.t (rdrG n ds cs ts)) (h1 ++ [none]) := by
 have q := reader_init (b := b) (bc := bc) (hp := h1 ++ [some (.ins "Reader" [])]) (i := h1.length) app_at r ht
 rw [app_set] at q
 exact frz_made (makeX_ok (ds := []) h q) fun _ => rfl
end
section
open TL
inductive Chk where
 | same (i j : Nat)
 | even (i : Nat)
 deriving DecidableEq
def numS (i : Nat) : Str := Str.ofString (toString ((i : Nat) : Int))
def chkP : Chk → List Str
 | .same i j => ["same", numS i, numS j]
 | .even i => ["even", numS i]
def chkTx (c : Chk) : Str := Txt.join " " (chkP c)
def chkT : Chk → T
 | .same i j => .tup [.str "same", .int (i : Nat), .int (j : Nat)]
 | .even i => .tup [.str "even", .int (i : Nat)]
def chkOk (ds : List Deed) : Chk → Prop
 | .same i j => i < j ∧ j < ds.length ∧ (ds.getD i ("", "")).1 = "look" ∧ ds.getD i ("", "") = ds.getD j ("", "")
 | .even i => i < ds.length ∧ (ds.getD i ("", "")).1 = "look"
theorem num_no {i c : Nat} (h : c < 48 ∨ 57 < c) : c ∉ tl (numS i) := by
 unfold numS
 rw [tl_num]
 exact numL_free h
theorem deed_at {ds : List Deed} {i : Nat} (h : i < ds.length) : (ds.map dTr)[i]'(by simpa using h) = .tup [.str (ds.getD i ("", "")).1, .str (ds.getD i ("", "")).2] := by
 simp [dTr, List.getD, h]
theorem split_chk {c : Chk} : Txt.split (chkTx c) " " = chkP c := by
 refine split_join (s := 32) (S := []) tl_sp Yv (by cases c <;> simp [chkP]) fun p hp => ?_
 have s1 : 32 ∉ tl ("same" : Str) := by decide +kernel
 have s2 : 32 ∉ tl ("even" : Str) := by decide +kernel
 cases c <;> simp only [chkP, List.mem_cons, List.not_mem_nil, or_false] at hp
 ·rcases hp with rfl | rfl | rfl
  ·exact s1
  ·exact num_no Yc
  ·exact num_no Yc
 ·rcases hp with rfl | rfl
  ·exact s2
  ·exact num_no Yc
def chkK : Chk → List Key
 | .same i j => [.inr "same", .inl (i : Nat), .inl (j : Nat)]
 | .even i => [.inr "even", .inl (i : Nat)]
theorem chkK_inj {c d : Chk} (h : chkK c = chkK d) : c = d := by
 cases c <;> cases d <;> simp [chkK] at h ⊢ <;> omega
theorem tups_chk : ∀ cs : List Chk, tupsT (cs.map chkT) = some (cs.map chkK)
 | [] => rfl
 | .same i j :: cs => by
  have ih := tups_chk cs
  simp only [List.map_cons, chkT, chkK, tupsT, ih]
  rfl
 | .even i :: cs => by
  have ih := tups_chk cs
  simp only [List.map_cons, chkT, chkK, tupsT, ih]
  rfl
theorem onceT_nd : ∀ (ks acc : List (List Key)), (acc ++ ks).Nodup → ks.foldl Ya0 acc = acc ++ ks
 | [], acc, _ => by simp
 | k :: ks, acc, h => by
  have hm : memT k acc = false := by
   simp only [memT, List.any_eq_false, decide_eq_true_eq]
   intro j hj e
   subst e
   exact (List.nodup_append.mp h).2.2 _ hj _ Yx rfl
  rw [List.foldl_cons]
  simp only [hm, Bool.false_eq_true, if_false]
  rw [onceT_nd ks (acc ++ [k]) (by simpa using h), List.append_assoc]
  rfl
end
section
variable {eta : IS} {hp : IH}
theorem za7 {A : Type} {QA : A → IH → Prop} {U : M Bool} {F G : M A} {b : Bool} (e : U eta hp = .ok b hp) (t : b = true → Wp Ydj QA) (f : b = false → Wp (G eta hp) QA) : Wp (mIf U F G eta hp) QA := by
 refine vc_if (Wp.of e ?_)
 cases b with
 | true => exact Wp.itt rfl (t rfl)
 | false => exact Wp.itf Ybd (f rfl)
theorem andE {U V : M Bool} {a b : Bool} (h : U eta hp = .ok a hp) (h' : a = true → V eta hp = .ok b hp) : mAnd U V eta hp = .ok (a && b) hp := by
 show (U eta hp).bind _ = _
 rw [h, zag]
 cases a with
 | true => simpa using h' rfl
 | false => rfl
theorem orE {U V : M Bool} {a b : Bool} (h : U eta hp = .ok a hp) (h' : a = false → V eta hp = .ok b hp) : mOr U V eta hp = .ok (a || b) hp := by
 show (U eta hp).bind _ = _
 rw [h, zag]
 cases a with
 | false => simpa using h' rfl
 | true => rfl
end
section
variable {eta : IS} {hp : IH} {Q : W → IH → Prop} {QL : List W → IH → Prop} {QB : Bool → IH → Prop} {QF : Fl → IH → Prop}
theorem vc_andV {Fa Fb : M W} (q : Wp (Fa eta hp) fun a h1 => ∃ b, a = .t (.bl b) ∧ if b then Wp (Fb eta h1) Q else Q (.t Ya3) h1) : Wp (mAndV Fa Fb eta hp) Q :=
 Wp.bind (q.mono fun a h1 ⟨b, e, q⟩ => by subst e; cases b <;> first | exact Wp.ok q | exact q)
end
section
open TL
variable {i j : Nat} {hp : IH}
abbrev ttl : List Str := ["move", "add", "w", "both", "r", "iff", "zzzz"]
theorem ttl_nam : ∀ x ∈ ttl, namB x = true := by decide +kernel
theorem wrd_read : Wrd "read" := wrd_ok Yv
theorem wrd_look : Wrd "look" := wrd_ok Yv
theorem titles_is (d : Deal i j hp) : ∃ (x : Str) (hp' : IH), x ∈ ttl ∧ zcx [.r i, .t (.int 1)] hp = .ok (.t (.lst [.str x])) hp' ∧ Deal i j hp' := by
 obtain ⟨zs, h1, p1, e1, d1, _⟩ := mixed_is (ts := ttl.map T.str) d Yav fitL_strs
 obtain ⟨l, pl, el⟩ := perm_strs p1
 subst el
 match l, pl with
 | [], p => exact absurd p.length_eq Yav
 | x :: l, p =>
  refine ⟨x, h1, p.mem_iff.mp Yx, fnM_ok (eta := [some (.r i), some (.t (.int 1))]) rfl rfl ?_, d1⟩
  unfold B_w_titles
  rw [p_ret, p_sl, zal (ws := [.r i, .t (.lst (ttl.map T.str))]) rfl e1, zag]
  rfl
end
section
variable {i j : Nat} {hp : IH}
theorem cutL_from2 {A : Type} (xs : List A) (k : Nat) : cutL xs (some (k : Int)) none = xs.drop k := by
 unfold cutL
 rw [HT.sIx_none, HT.sIx_nat]
 rcases Nat.le_total k xs.length with h | h
 ·rw [Nat.min_eq_left h, List.take_of_length_le (by rw [List.length_drop]; omega)]
 ·rw [Nat.min_eq_right h, List.drop_eq_nil_of_le Yem, List.drop_eq_nil_of_le h, List.take_nil]
end
section
open TL
variable {hp : IH} {x s : Str} {v : T}
theorem wpV {A : Type} {r : Res A} {a : A} {h0 : IH} (q : Wp r fun w h => w = a ∧ h = h0) : r = .ok a h0 := by
 obtain ⟨w, h1, e, rfl, rfl⟩ := q.ex
 exact e
theorem notE {eta : IS} {U : M Bool} {a : Bool} (h : U eta hp = .ok a hp) : mNot U eta hp = .ok (!a) hp := by rw [p_not, h, zag]
def lowB (x : Str) : Bool := (tl x).all fun c => decide (97 ≤ c) && decide (c ≤ 122)
def barL : List Str := ["if", "bump", "even", "kind", "look", "read", "same"]
def nmB (x : Str) : Bool := !decide (x ∈ barL) && (decide (1 ≤ x.length) && decide (x.length ≤ 4)) && lowB x
/-- a value that is no instance, no type, no error -/
def plnT : T → Bool
 | .non | .bl _ | .int _ | .str _ | .tup _ | .lst _ | .scr _ | .pr _ | .dic _ _ => true
 | _ => false
def strT : T → Bool
 | .str _ => true
 | _ => false
def nmT : T → Bool
 | .str x => nmB x
 | _ => false
theorem isi_str (h : plnT v = true) : oIsi zc1 [.t v, .t (.ty "str")] hp = .ok (.t (.bl (strT v))) hp := by
 cases v <;> first | rfl | (simp [plnT] at h)
theorem abc_mem {c : Nat} : c ∈ (Str.ofString "abcdefghijklmnopqrstuvwxyz").cps.toList ↔ 97 ≤ c ∧ c ≤ 122 := by
 have e : (Str.ofString "abcdefghijklmnopqrstuvwxyz").cps.toList = List.range' 97 26 := by decide +kernel
 rw [e, List.mem_range'_1]
 omega
theorem oLen_str (h : x.length ≤ 16777216) : oLen [.t (.str x)] hp = .ok (.t (.int (x.length : Nat))) hp := by
 show (if x.length ≤ 16777216 then (.ok (.t (.int (x.length : Nat))) hp : Res W) else .bad) = _
 rw [if_pos h]
theorem sgn_in {c : Nat} {neg : Bool} : inS neg (.t Yb4) (.t (.str "abcdefghijklmnopqrstuvwxyz")) hp = .ok (.t (.bl (if neg then !(decide (97 ≤ c) && decide (c ≤ 122)) else decide (97 ≤ c) && decide (c ≤ 122)))) hp := by
 have e : decide (c ∈ (Str.ofString "abcdefghijklmnopqrstuvwxyz").cps.toList) = (decide (97 ≤ c) && decide (c ≤ 122)) := by
  rw [Bool.eq_iff_iff, decide_eq_true_eq, abc_mem, Bool.and_eq_true, decide_eq_true_eq, decide_eq_true_eq]
 show Res.ok (W.t (.bl (if neg then !decide (c ∈ (Str.ofString "abcdefghijklmnopqrstuvwxyz").cps.toList) else decide (c ∈ (Str.ofString "abcdefghijklmnopqrstuvwxyz").cps.toList)))) hp = _
 rw [e]
theorem len_iff : (decide (1 ≤ x.length) && decide (x.length ≤ 4)) = (decide ((1 : Int) ≤ (x.length : Nat)) && decide (((x.length : Nat) : Int) ≤ 4)) := by
 have a : decide (1 ≤ x.length) = decide ((1 : Int) ≤ (x.length : Nat)) := by rw [decide_eq_decide]; omega
 have b : decide (x.length ≤ 4) = decide (((x.length : Nat) : Int) ≤ 4) := by rw [decide_eq_decide]; omega
 rw [a, b]
theorem isname_s (hl : x.length ≤ 16777216) : zbb [.t (.str x)] hp = .ok (.t (.bl (nmB x))) hp := by
 suffices hh : Wp (zbb [.t (.str x)] hp) fun w h => w = .t (.bl (nmB x)) ∧ h = hp by
  obtain ⟨w, h1, e, rfl, rfl⟩ := hh.ex
  exact e
 let E : Option W → IS := fun w1 => [some (.t (.str x)), w1]
 refine vc_fnP (ts := [.str x]) (eta := E none) rfl rfl ?_
 unfold B_is_name
 have u1 : (mNot Yo : M Bool) (E none) [] = .ok false [] := notE (a := true) rfl
 have u2 : (zaf asB Ych : M Bool) (E none) [] = .ok (decide (x ∈ barL)) [] := zbn (binP rfl rfl in_strs)
 have u3 : (mNot Yf8 : M Bool) (E none) [] = .ok (!(decide (1 ≤ x.length) && decide (x.length ≤ 4))) [] := by
  refine notE (zbn ?_)
  rw [len_iff, p_chain]
  have l : (mApp oLen Yaa : M W) (E none) [] = .ok (.t (.int (x.length : Nat))) [] := zcn rfl (oLen_str hl)
  rw [show (mC (.int 1) : M W) (E none) [] = .ok (.t (.int 1)) [] from rfl, zag, l, zag, ev_le, zag]
  cases decide ((1 : Int) ≤ (x.length : Nat)) with
  | true => simp only [Bool.true_and]; rfl
  | false => rfl
 refine zao (za7 (orE u1 fun _ => orE u2 fun _ => u3) (fun h => za8 (vc_c (vc_rt ⟨_, rfl, ?_, rfl⟩))) fun h => zbf (za6 ?_))
 ·have : nmB x = false := by
   unfold nmB
   simp only [Bool.false_or, Bool.or_eq_true, Bool.not_eq_true', decide_eq_true_eq] at h
   rcases h with h | h
   ·simp [h]
   ·rw [h]; simp
  rw [this]
 ·have nb : (!decide (x ∈ barL) && (decide (1 ≤ x.length) && decide (x.length ≤ 4))) = true := by
   simp only [Bool.false_or, Bool.or_eq_false_iff, Bool.not_eq_false'] at h
   rw [h.1, h.2]
   rfl
  have x4 : x.length ≤ 4 := by
   simp only [Bool.and_eq_true, decide_eq_true_eq] at nb
   exact nb.2.2
  have e : nmB x = lowB x := by
   unfold nmB
   rw [nb, Bool.true_and]
  rw [e]
  refine za8 (zck (zat (vc_comp (Wp.of (a := signs x) (h := []) rfl ⟨?_, ?_⟩))))
  ·show ((tl x).map _).length ≤ _
   rw [List.length_map, ← len_tl]
   omega
  refine vc_mapA (G := gN 1) (E := zcr) (src := fun c : Nat => W.t Yb4) (g := fun c => T.bl (decide (97 ≤ c) && decide (c ≤ 122))) (tl x) (fun c hc => ⟨E (some (.t Yb4)), rfl, ?_⟩) ?_
  ·unfold zcr
   exact binP rfl rfl sgn_in
  ·refine zct (by rw [List.length_map, ← len_tl]; omega) (zbz ?_)
   have : (tl x).map (fun c => T.bl (decide (97 ≤ c) && decide (c ≤ 122))) = ((tl x).map fun c => (decide (97 ≤ c) && decide (c ≤ 122))).map T.bl := by rw [List.map_map]; rfl
   rw [this]
   refine Wp.rw bools_all (Wp.ok ⟨_, rfl, ?_, rfl⟩)
   rw [List.all_map]
   rfl
theorem isname_T (h : plnT v = true) (hl : ∀ x, v = .str x → x.length ≤ 16777216) : zbb [.t v] hp = .ok (.t (.bl (nmT v))) hp := by
 cases v <;> first | exact isname_s (hl _ rfl) | rfl | (simp [plnT] at h)
/-- a name, as the texts want it -/
theorem nam_of (h : nmB x = true) : Nam x := by
 have hb : (!decide (x ∈ barL)) = true ∧ (decide (1 ≤ x.length) && decide (x.length ≤ 4)) = true ∧ lowB x = true := by
  unfold nmB at h
  rw [Bool.and_eq_true, Bool.and_eq_true] at h
  exact ⟨h.1.1, h.1.2, h.2⟩
 have hl : x.length ≤ 4 := by
  have := hb.2.1
  simp only [Bool.and_eq_true, decide_eq_true_eq] at this
  exact this.2
 refine ⟨fun hp => by rw [isname_s Yc, h], fun c hc => ?_, hl, fun e => ?_⟩
 ·have := List.all_eq_true.mp hb.2.2 c hc
  simpa using this
 ·have := hb.1
  simp [barL, e] at this
theorem nam_to (h : Nam x) : nmB x = true := by
 have a := h.is []
 have l := h.ln
 rw [isname_s Yc] at a
 simpa using a
def deedP (ws : List Str) : List Str → Option Deed
 | [a, b] => if a ∈ ws ∧ nmB b = true then some (a, b) else none
 | _ => none
def deedS (ws : List Str) (s : Str) : Option Deed := deedP ws (Txt.split s " ")
def zbp (ws : List Str) : T → Option Deed
 | .str s => deedS ws s
 | _ => none
def optT : Option Deed → T
 | some d => dTr d
 | none => .non
theorem ts_join {s : Str} : Txt.join " " (Txt.split s " ") = s := by rw [TL.join_eq]; exact PySem.StrLaws.join_split s " "
theorem join_ge {y : Str} : ∀ {ps : List Str} {p : Str}, p ∈ ps → p.length ≤ (Txt.join y ps).length
 | [a], p, h => by rw [List.mem_singleton.mp h, join_one]; exact Nat.le_refl _
 | a :: b :: r, p, h => by
  rw [join_cons2, len_app, len_app]
  rcases List.mem_cons.mp h with rfl | h
  ·omega
  ·have := join_ge (y := y) h
   omega
theorem join_num {y : Str} : ∀ {ps : List Str}, ps.length * y.length ≤ (Txt.join y ps).length + y.length
 | [] => by simp
 | [a] => by simp
 | a :: b :: r => by
  have := join_num (y := y) (ps := b :: r)
  rw [join_cons2, len_app, len_app]
  rw [List.length_cons, Nat.succ_mul]
  omega
theorem split_joined {a y : Str} : Txt.join y (Txt.split a y) = a := by rw [TL.join_eq]; exact PySem.StrLaws.join_split a y
theorem split_le {a y p : Str} (h : p ∈ Txt.split a y) : p.length ≤ a.length := by
 have := join_ge (y := y) h
 rw [split_joined] at this
 exact this
theorem split_num {a y : Str} : (Txt.split a y).length * y.length ≤ a.length + y.length := by
 have := join_num (y := y) (ps := Txt.split a y)
 rw [split_joined] at this
 exact this
theorem deedS_tx {ws : List Str} {d : Deed} (h : deedS ws s = some d) : s = dTx d ∧ d.1 ∈ ws ∧ nmB d.2 = true := by
 unfold deedS at h
 generalize e : Txt.split s " " = ps at h
 unfold deedP at h
 split at h
 ·rename_i a b
  split at h
  ·rename_i c
   cases h
   have := ts_join (s := s)
   rw [e, join_cons2, join_one] at this
   exact ⟨this.symm, c⟩
  ·cases h
 ·cases h
theorem deed_two {ws ps : List Str} {w0 : Option W} (pl : ∀ p ∈ ps, p.length ≤ 1000000) :
  Wp Yga fun fl _ => fl = .rt (.t (optT (deedP ws ps))) := by
 have v1 : ∀ ps : List Str, (zaf asB (mBin Yah (mApp oLen Ym) (mC (.int 2))) : M Bool) [w0, some (.t Yao), some (.t Ycp)] [] = .ok (!decide (ps.length = 2)) [] := fun ps => by
  refine zbn (binP (zcn (a := .t Ycp) rfl Yf5) rfl (ev_eqi.trans ?_))
  have : decide (((ps.length : Nat) : Int) = 2) = decide (ps.length = 2) := by rw [decide_eq_decide]; omega
  simp only [if_true, this]
 have no : ∀ ps : List Str, ps.length ≠ 2 → Wp Yga fun fl _ => fl = .rt Yar := fun ps h => by
  have e := v1 ps
  rw [decide_eq_false h] at e
  exact zao (za7 (b := true) (orE (a := true) (b := true) e fun z => by cases z) (fun c => za8 (vc_c (vc_rt rfl))) fun c => by cases c)
 match ps, pl with
 | [a, b], pl =>
  let F : IS := [w0, some (.t Yao), some (.t (.lst ([a, b].map T.str)))]
  have i0 : (mBin ixW (mVar 2) Yd : M W) F [] = .ok Yez [] := binP rfl rfl ev_ixl0
  have i1 : (mBin ixW (mVar 2) Yj : M W) F [] = .ok (.t (.str b)) [] := binP rfl rfl ev_ixl1
  have v2 : (zaf asB (mBin (inW true) Ybk (mVar 1)) : M Bool) F [] = .ok (!decide (a ∈ ws)) [] := zbn (binP i0 rfl in_strs)
  have bl := pl b Yav
  have v3 : (mNot (zaf truW (zan zbb [] (zab (mBin ixW (mVar 2) Yj) (mNil)))) : M Bool) F [] = .ok (!nmB b) [] := notE (by
   rw [zcq, zal (ws := [.t (.str b)]) (zax i1 rfl) (isname_s Yc)]
   rfl)
  refine zao (za7 (orE (v1 [a, b]) fun _ => orE v2 fun _ => v3) (fun c => za8 (vc_c (vc_rt ?_))) fun c => zbf (za6 ?_))
  ·have : ¬ (a ∈ ws ∧ nmB b = true) := fun z => by simp [z.1, z.2] at c
   simp only [deedP, if_neg this]
   rfl
  ·have : a ∈ ws ∧ nmB b = true := by simpa using c
   simp only [deedP, if_pos this]
   exact za8 (zck (zat (Wp.of i0 (zat (Wp.of i1 (zbz (vc_tupE rfl Yas rfl)))))))
 | [], _ => exact no [] Yav
 | [a], _ => exact no [a] Yav
 | a :: b :: c0 :: r, _ => exact no (a :: b :: c0 :: r) Yav
theorem deed_T {ws : List Str} (h : plnT v = true) (hl : ∀ x, v = .str x → x.length ≤ 1000000) : zc2 [.t v, .t Yao] hp = .ok (.t (optT (zbp ws v))) hp := by
 suffices hh : Wp (zc2 [.t v, .t Yao] hp) fun w h => w = .t (optT (zbp ws v)) ∧ h = hp by
  obtain ⟨w, h1, e, rfl, rfl⟩ := hh.ex
  exact e
 let E : Option W → IS := fun w2 => [some (.t v), some (.t Yao), w2]
 refine vc_fnP (ts := [v, .tup (ws.map T.str)]) (eta := E none) rfl rfl ?_
 unfold B_deed_in
 have u1 : (mNot Yo : M Bool) (E none) [] = .ok (!strT v) [] := notE (by
  rw [zcq, show mApp (oIsi zc1) (zab (mVar 0) (zab (mC (.ty "str")) (mNil))) (E none) [] = oIsi zc1 [.t v, .t (.ty "str")] [] from rfl, isi_str h]
  rfl)
 refine zao (za7 u1 (fun c => za8 (vc_c (vc_rt ⟨_, rfl, ?_, rfl⟩))) fun c => zbf (za6 ?_))
 ·cases v <;> first | rfl | (simp [strT] at c)
 obtain ⟨s, rfl⟩ : ∃ s, v = .str s := by
  cases v <;> first | exact ⟨_, rfl⟩ | (simp [strT] at c)
 have sl := hl s rfl
 have sp : (mSM oSplit (mVar 0) (mC (.str " ")) : M W) (E none) [] = .ok (.t (.lst ((Txt.split s " ").map T.str))) [] := sm_ok rfl rfl (split_is rfl Yv Yc)
 refine zao (zbe (Wp.of sp (za6 ?_)))
 refine (deed_two (w0 := some (.t (.str s))) fun p hp => Nat.le_trans (split_le hp) sl).mono fun fl h e => ⟨_, e, ?_, rfl⟩
 rfl
end
section
open TL
variable {hp : IH} {ws : List Str} {w0 : Str} {v : T} {ts : List T}
def seqB : T → Bool
 | .tup _ | .lst _ | .scr _ | .pr _ => true
 | _ => false
theorem isseq_T (h : plnT v = true) : zav [.t v] hp = .ok (.t (.bl (seqB v))) hp := by
 cases v <;> first | exact fnP_ok (ts := [_]) (eta := [some (.t _)]) rfl rfl (h1 := []) rfl | (simp [plnT] at h)
/-- a step as the reading of any value wants it -/
structure StepOk (t : T) : Prop where
 p : plnT t = true
 l : ∀ x, t = .str x → x.length ≤ 1000000
def allD (ws : List Str) : List T → Option (List Deed)
 | [] => some []
 | t :: r => match zbp ws t, allD ws r with
  | some d, some ds => some (d :: ds)
  | _, _ => none
def wrN (w0 : Str) (ds : List Deed) : List Str := (ds.filter fun d => decide (d.1 = w0)).map (·.2)
def zcz (w0 : Str) (ws : List Str) (ts : List T) : Option (List Deed) := match allD Ycd ts with
 | some ds => if (wrN w0 ds).Nodup then some ds else none
 | none => none
/-- what deeds_in tells -/
def dsT : Option (List Deed) → T
 | some ds => .tup Ycg
 | none => .non
theorem allD_some : ∀ {ts : List T} {ds : List Deed}, allD ws ts = some ds → ts = ds.map (fun d => T.str (dTx d)) ∧ ∀ d ∈ ds, d.1 ∈ ws ∧ nmB d.2 = true
 | [], ds, h => by
  simp only [allD, Option.some.injEq] at h
  subst h
  exact ⟨rfl, by simp⟩
 | t :: r, ds, h => by
  unfold allD at h
  split at h
  ·rename_i d ds' h1 h2
   cases h
   obtain ⟨e, ok⟩ := allD_some h2
   cases t with
   | str s =>
    obtain ⟨e1, e2, e3⟩ := deedS_tx (show deedS ws s = some d from h1)
    refine ⟨by rw [List.map_cons, ← e, e1], fun x hx => ?_⟩
    rcases List.mem_cons.mp hx with rfl | hx
    ·exact ⟨e2, e3⟩
    ·exact ok x hx
   | _ => cases h1
  ·cases h
theorem allD_found : ∀ {ts : List T}, (∃ ds, allD ws ts = some ds ∧ ts.map (fun t => optT (zbp ws t)) = ds.map dTr ∧ ts.filterMap (zbp ws) = ds) ∨ (allD ws ts = none ∧ ∃ t ∈ ts, zbp ws t = none)
 | [] => .inl ⟨[], rfl, rfl, rfl⟩
 | t :: r => by
  cases e : zbp ws t with
  | none =>
   refine .inr ⟨?_, t, List.mem_cons_self .., e⟩
   simp only [allD, e]
  | some d =>
   rcases allD_found (ts := r) with ⟨ds, h1, h2, h3⟩ | ⟨h1, u, hu, h2⟩
   ·refine .inl ⟨d :: ds, by simp only [allD, e, h1], by rw [List.map_cons, List.map_cons, h2, e]; rfl, by rw [List.filterMap_cons, e]; simp only [h3]⟩
   ·exact .inr ⟨by simp only [allD, e, h1], u, List.mem_cons_of_mem _ hu, h2⟩
theorem opt_fit {ws : List Str} : ∀ ts : List T, fitL (ts.map fun t => optT (zbp ws t)) 60 = true
 | [] => rfl
 | t :: r => by
  simp only [List.map_cons, fitL, opt_fit r, Bool.and_true]
  cases zbp ws t <;> rfl
/-- each once: fewer where some come twice -/
theorem once_le : ∀ (ks acc : List Key), (ks.foldl addK acc).length ≤ acc.length + ks.length
 | [], acc => by simp
 | k :: ks, acc => by
  rw [List.foldl_cons]
  have := once_le ks (addK acc k)
  unfold addK at this ⊢
  split at this
  ·rename_i h; rw [if_pos h]; rw [List.length_cons]; omega
  ·rename_i h; rw [if_neg h]; rw [List.length_append, List.length_singleton] at this; rw [List.length_cons]; omega
theorem once_lt : ∀ (ks acc : List Key), acc.Nodup → ¬ (acc ++ ks).Nodup → (ks.foldl addK acc).length < acc.length + ks.length
 | [], acc, a, n => absurd (by rw [List.append_nil]; exact a) n
 | k :: ks, acc, a, n => by
  rw [List.foldl_cons]
  by_cases h : memK k acc = true
  ·have e : addK acc k = acc := by unfold addK; rw [if_pos h]
   rw [e]
   have := once_le ks acc
   rw [List.length_cons]
   omega
  ·have e : addK acc k = acc ++ [k] := by unfold addK; rw [if_neg h]
   rw [e]
   have hk : k ∉ acc := fun m => h (by
    simp only [memK, List.any_eq_true, decide_eq_true_eq]
    exact ⟨k, m, rfl⟩)
   have := once_lt ks (acc ++ [k]) (by
    rw [List.nodup_append]
    exact ⟨a, by simp, fun x hx y hy e => by rw [List.mem_singleton.mp hy] at e; exact hk (e ▸ hx)⟩) (by rw [List.append_assoc]; exact n)
   rw [List.length_append, List.length_singleton] at this
   rw [List.length_cons]
   omega
theorem lenset_iff {F : M W} {eta : IS} {h1 : IH} {l : List Str} (h : F eta hp = .ok (.t (.lst Yfv)) h1) (hl : l.length ≤ 4000) : ∃ n : Nat, mLenSet F eta hp = .ok Yap h1 ∧ (n = l.length ↔ l.Nodup) := by
 by_cases nd : l.Nodup
 ·exact ⟨l.length, lenset_nd h nd hl, by simp [nd]⟩
 ·have n2 : ¬ (l.map Yc5).Nodup := fun z => nd ((List.pairwise_map.mp z).imp fun h e => h (by rw [e]))
  have lt := once_lt (l.map Yc5) [] List.nodup_nil (by simpa using n2)
  simp only [List.length_nil, List.length_map, Nat.zero_add] at lt
  refine ⟨(zcd (l.map Yc5)).length, ?_, ?_⟩
  ·unfold mLenSet
   rw [h, zag, litems_l, Option.bind_some, keysOf_strs]
   simp only [List.length_map, hl, if_true]
  ·constructor
   ·intro e
    have : (zcd (l.map Yc5)).length = l.length := e
    unfold zcd at this
    omega
   ·exact fun z => absurd z nd
theorem wr_found : ∀ ts : List T, ((ts.filter fun t => match zbp Ycd t with | some d => decide (d.1 = w0) | none => false).map fun t => match zbp Ycd t with | some d => T.str d.2 | none => .non) = (wrN w0 (ts.filterMap (zbp Ycd))).map T.str
 | [] => rfl
 | t :: r => by
  have ih := wr_found r
  unfold wrN at ih ⊢
  rw [List.filter_cons, List.filterMap_cons]
  cases e : zbp (w0 :: ws) t with
  | none => simp only [Bool.false_eq_true, if_false]; exact ih
  | some d =>
   simp only [List.filter_cons]
   by_cases c : d.1 = w0
   ·simp only [decide_eq_true c, if_true, List.map_cons, e, ih]
   ·simp only [decide_eq_false c, Bool.false_eq_true, if_false]; exact ih
/-- deeds_in of a list or a tuple -/
theorem deeds_L {b : Bool} (hs : ∀ t ∈ ts, StepOk t) (hl : ts.length ≤ 1000) : zbi [.t Ycr, .t Y2] hp = .ok (.t (dsT (zcz w0 ws ts))) hp := by
 suffices hh : Wp (zbi [.t Ycr, .t Y2] hp) fun w h => w = .t (dsT (zcz w0 ws ts)) ∧ h = hp by
  obtain ⟨w, h1, e, rfl, rfl⟩ := hh.ex
  exact e
 let E : Option W → Option W → Option W → Option W → IS := fun w2 w3 w4 w5 => [some (.t Ycr), some (.t Y2), w2, w3, w4, w5]
 refine vc_fnP (ts := [sqT b ts, .tup ((w0 :: ws).map T.str)]) (eta := E none none none none) rfl rfl ?_
 unfold B_deeds_in
 have u1 : (mNot Yca : M Bool) (E none none none none) [] = .ok false [] := notE (a := true) (by rw [zcq, zal (ws := [.t Ycr]) rfl seq_isq]; rfl)
 refine zao (za7 u1 Ydm fun _ => zbf (za6 ?_))
 let Fd : List T := ts.map fun t => optT (zbp Ycd t)
 have c1 : zbq zaj (mSq (mVar 0)) (gN 4) mYes zbg [4] (E none none none none) [] = .ok Ya9 [] := by
  refine wpV (vc_comp (vc_sq (zbw rfl (Wp.of sqI_sq ⟨by rw [List.length_map]; omega, ?_⟩))))
  refine vc_mapA (G := gN 4) (E := zbg) (src := fun t : T => W.t t) (g := fun t => optT (zbp Ycd t)) ts (fun t ht => ⟨E none none (some (.t t)) none, rfl, ?_⟩) Yc6
  exact zal (ws := [.t t, .t Y2]) rfl (deed_T (hs t ht).p (hs t ht).l)
 refine zao (zbe (Wp.of c1 (za6 ?_)))
 show Wp ((mSeq _ _ : M Fl) (E (some Ya9) none none none) []) _
 let ps : List Str := wrN w0 (ts.filterMap (zbp Ycd))
 have pl : ps.length ≤ ts.length := by
  simp only [ps, wrN, List.length_map]
  exact Nat.le_trans (List.length_filter_le _ _) (List.length_filterMap_le _ _)
 have c2 : zbq zaj Yfd (gN 5) za1 zba [5] (E (some Ya9) none none none) [] = .ok (.t Ycp) [] := by
  refine wpV (vc_comp (vc_sq (zbw rfl (vc_sqL ⟨by simp only [Fd, List.length_map]; omega, ?_⟩))))
  have q := vc_mapG (G := gN 5) (U := za1) (E := zba) (eta := E (some Ya9) none none none) (hp := []) (src := fun t : T => W.t (optT (zbp Ycd t))) (p := fun t => match zbp Ycd t with | some d => decide (d.1 = w0) | none => false) (g := fun t => match zbp Ycd t with | some d => T.str d.2 | none => .non) ts (fun t _ => ⟨E (some Ya9) none none (some (.t (optT (zbp Ycd t)))), rfl, ?_, ?_⟩)
  ·have e1 : Fd.map W.t = ts.map fun t => W.t (optT (zbp Ycd t)) := by simp only [Fd, List.map_map]; rfl
   rw [e1]
   refine Wp.of q ?_
   rw [wr_found]
   exact zct (by rw [List.length_map]; show ps.length ≤ _; omega) ⟨rfl, rfl⟩
  ·unfold za1
   cases e : zbp (w0 :: ws) t with
   | none => rfl
   | some d =>
    have a : (zaf asB (mBin (isN true) (mVar 5) Yw) : M Bool) (E (some Ya9) none none (some (.t (dTr d)))) [] = .ok true [] := rfl
    have c : (zaf asB Ycu : M Bool) (E (some Ya9) none none (some (.t (dTr d)))) [] = .ok (decide (d.1 = w0)) [] := zbn (binP (a := .t (.str d.1)) (b := .t (.str w0)) (binP rfl rfl ev_ixt0) (binP rfl rfl ev_ixt0) (ev_eqs.trans Yav))
    have := andE (U := zaf asB (mBin (isN true) (mVar 5) Yw)) (V := zaf asB Ycu) (eta := E (some Ya9) none none (some (.t (dTr d)))) (hp := []) a fun _ => c
    rw [Bool.true_and] at this
    exact this
  ·intro c
   cases e : zbp (w0 :: ws) t with
   | none => rw [e] at c; cases c
   | some d => exact binP (a := .t (dTr d)) (b := .t (.int 1)) rfl rfl ev_ixt1
 refine zao (zbe (Wp.of c2 (za6 ?_)))
 let G : IS := E (some Ya9) (some (.t Ycp)) none none
 show Wp ((mRet _ : M Fl) G []) _
 have ni : inW false Yar Ya9 [] = .ok (.t (.bl (Fd.any fun y => Mir.eqT y .non))) [] := by
  have e2 : (items [] Ya9).bind allT = some Fd := allT_ts Fd
  unfold inW
  simp only [show asT [] Yar = some .non from rfl, e2, show fit .non 60 = true from rfl, show fitL Fd 60 = true from opt_fit ts, and_self, if_true]
  rfl
 have an : (Fd.any fun y => Mir.eqT y .non) = ts.any fun t => (zbp Ycd t).isNone := by
  simp only [Fd, List.any_map]
  congr 1
  funext t
  show Mir.eqT (optT (zbp Ycd t)) .non = _
  cases zbp (w0 :: ws) t <;> rfl
 have v1 : (zaf asB Ydw : M Bool) G [] = .ok (ts.any fun t => (zbp Ycd t).isNone) [] := by
  rw [← an]
  exact zbn (binP rfl rfl ni)
 obtain ⟨n, en, in_⟩ := lenset_iff (F := mVar 3) (eta := G) (hp := []) (h1 := []) (l := ps) rfl Yc
 have v2 : (zaf asB (mBin Yah (mLenSet (mVar 3)) (mApp oLen Yax)) : M Bool) G [] = .ok (!decide (ps.Nodup)) [] := by
  refine zbn (binP en (zcn (a := .t Ycp) rfl Yf5) (ev_eqi.trans ?_))
  have : decide (((n : Nat) : Int) = (ps.length : Nat)) = decide ps.Nodup := by rw [decide_eq_decide, ← in_]; omega
  simp only [if_true, this]
 refine za8 (za7 (orE v1 fun _ => v2) (fun c => vc_c ⟨_, rfl, ?_, rfl⟩) fun c => ?_)
 ·rcases allD_found (ws := w0 :: ws) (ts := ts) with ⟨ds, h1, h2, h3⟩ | ⟨h1, _⟩
  ·have nn : (ts.any fun t => (zbp Ycd t).isNone) = false := by
    rw [← an, show Fd = ds.map dTr from h2, List.any_map]
    exact List.any_eq_false.mpr fun d _ => by show ¬ Mir.eqT (dTr d) .non = true; simp [dTr, Mir.eqT]
   rw [nn] at c
   have nd : ¬ ps.Nodup := by simpa using c
   simp only [ps, h3] at nd
   unfold zcz
   simp only [h1, if_neg nd]
   rfl
  ·unfold zcz
   simp only [h1]
   rfl
 ·have c' : (ts.any fun t => (zbp Ycd t).isNone) = false ∧ ps.Nodup := by simpa using c
  rcases allD_found (ws := w0 :: ws) (ts := ts) with ⟨ds, h1, h2, h3⟩ | ⟨_, t, ht, h2⟩
  ·have nd := c'.2
   simp only [ps, h3] at nd
   have e : zcz w0 ws ts = some ds := by
    unfold zcz
    simp only [h1, if_pos nd]
   rw [e]
   exact zck (zat (zbw rfl (zbz (Wp.of (oTup_sq (b := false)) ⟨_, rfl, by rw [show Fd = ds.map dTr from h2]; rfl, rfl⟩))))
  ·exact absurd h2 fun z => by
    have := List.any_eq_false.mp c'.1 t ht
    rw [z] at this
    exact this rfl
theorem deeds_no (h : plnT v = true) (hn : seqB v = false) : zbi [.t v, .t Y2] hp = .ok Yar hp := by
 suffices hh : Wp (zbi [.t v, .t Y2] hp) fun w h => w = .t .non ∧ h = hp by
  obtain ⟨w, h1, e, rfl, rfl⟩ := hh.ex
  exact e
 refine vc_fnP (ts := [v, .tup ((w0 :: ws).map T.str)]) (eta := [some (.t v), some (.t Y2), none, none, none, none]) rfl rfl ?_
 unfold B_deeds_in
 have u1 : (mNot Yca : M Bool) [some (.t v), some (.t Y2), none, none, none, none] [] = .ok true [] := notE (a := false) (by rw [zcq, zal (ws := [.t v]) rfl (isseq_T h), hn]; rfl)
 exact zao Yd9
end
section
open TL
variable {hp : IH} {nm st v : T} {s : Str} {i : Nat} {ts : List T} {ds : List Deed} {n : Str}
theorem split_ne (a y : Str) : Txt.split a y ≠ [] := by
 unfold Txt.split
 split
 ·simp
 ·split
  ·simp
  ·rw [StrLaws.partsBetween_eq]
   obtain ⟨p, r, e⟩ := StrLaws.partsFrom_ne a y.length 0 (Builtin.Str.occurrences a y 0 a.length (a.length + 1))
   rw [e]
   simp
end
section
open TL
variable {hp : IH} {s : Str} {ds : List Deed}
theorem snoc_ind {P : List Nat → Prop} (nil : P []) (snoc : ∀ l d, P l → P (l ++ [d])) (l : List Nat) : P l := by
 have h : ∀ m : List Nat, P m.reverse := fun m => by
  induction m with
  | nil => exact nil
  | cons a m ih => rw [List.reverse_cons]; exact snoc _ _ ih
 have := h l.reverse
 rwa [List.reverse_reverse] at this
theorem zcu (l : List Nat) (d : Nat) : NumText.digitsVal (l ++ [d]) = NumText.digitsVal l * 10 + (d - 48) := by
 unfold NumText.digitsVal
 rw [List.foldl_append]
 rfl
theorem val_pos : ∀ {l : List Nat} {c : Nat}, NumText.AllDigits (c :: l) → c ≠ 48 → 0 < NumText.digitsVal (c :: l) := by
 intro l
 induction l using snoc_ind with
 | nil =>
  intro c h hc
  have := h c Yx
  show 0 < 0 * 10 + (c - 48)
  omega
 | snoc l d ih =>
  intro c h hc
  have h2 : NumText.AllDigits (c :: l) := fun x hx => h x (by rw [← List.cons_append]; exact List.mem_append_left _ hx)
  have := ih h2 hc
  rw [← List.cons_append, zcu]
  omega
theorem numL_back : ∀ {l : List Nat}, NumText.AllDigits l → l ≠ [] → (l.head? ≠ some 48 ∨ l = [48]) → numL (NumText.digitsVal l) = l := by
 intro l
 induction l using snoc_ind with
 | nil => intro _ h; exact absurd rfl h
 | snoc l d ih =>
  intro h _ hz
  have hd := h d (List.mem_append_right _ (List.mem_singleton.mpr rfl))
  have hl : NumText.AllDigits l := fun x hx => h x (List.mem_append_left _ hx)
  rw [zcu]
  cases l with
  | nil =>
   show numL (0 * 10 + (d - 48)) = [d]
   rw [numL_lt Yc]
   congr 1
   omega
  | cons c r =>
   have hc : c ≠ 48 := by
    rcases hz with z | z
    ·intro e
     exact z (by rw [e]; rfl)
    ·have := congrArg List.length z
     simp at this
   have p := val_pos hl hc
   rw [numL_step Yc, show (NumText.digitsVal (c :: r) * 10 + (d - 48)) / 10 = NumText.digitsVal (c :: r) by omega, ih hl Yav (.inl fun e => hc (Option.some.inj e))]
   congr 2
   omega
theorem val_lt : ∀ {l : List Nat}, NumText.AllDigits l → NumText.digitsVal l < 10 ^ l.length := by
 intro l
 induction l using snoc_ind with
 | nil => intro _; decide
 | snoc l d ih =>
  intro h
  have hd := h d (List.mem_append_right _ (List.mem_singleton.mpr rfl))
  have := ih fun x hx => h x (List.mem_append_left _ hx)
  rw [zcu, List.length_append, List.length_singleton, Nat.pow_succ]
  omega
theorem numL_big {n k : Nat} (h : (numL n).length ≤ k) : n < 10 ^ k := by
 have := val_lt (numL_digits n)
 rw [numL_val] at this
 exact Nat.lt_of_lt_of_le this (Nat.pow_le_pow_right Yc h)
theorem numL_no0 {n : Nat} (h : 1 ≤ n) : (numL n).head? ≠ some 48 := by
 induction n using Nat.strongRecOn with
 | _ n ih =>
  by_cases h10 : n < 10
  ·rw [numL_lt h10]
   intro e
   have := Option.some.inj e
   omega
  ·rw [numL_step Yc]
   have := ih (n / 10) Yc Yc
   cases e : numL (n / 10) with
   | nil => exact absurd e (numL_ne _)
   | cons c r =>
    rw [e] at this
    exact this
theorem ix_str0 {s : Str} {c : Nat} {r : List Nat} (e : tl s = c :: r) (hl : s.length ≤ 16777216) : ixW (.t (.str s)) (.t (.int 0)) hp = .ok (.t Yb4) hp := by
 have a : atI s.cps.toList 0 = some c := by
  rw [show s.cps.toList = c :: r from e, ev_atl0]
 simp only [ixW, a, hl, if_true]
theorem dgt_in {c : Nat} : inS false (.t Yb4) (.t (.str "0123456789")) hp = .ok (.t (.bl (decide (48 ≤ c) && decide (c ≤ 57)))) hp := by
 have e : decide (c ∈ (Str.ofString "0123456789").cps.toList) = (decide (48 ≤ c) && decide (c ≤ 57)) := by
  have e : (Str.ofString "0123456789").cps.toList = List.range' 48 10 := by decide +kernel
  rw [e, Bool.eq_iff_iff, decide_eq_true_eq, List.mem_range'_1, Bool.and_eq_true, decide_eq_true_eq, decide_eq_true_eq]
  omega
 show Res.ok (W.t (.bl (decide (c ∈ (Str.ofString "0123456789").cps.toList)))) hp = _
 rw [e]
def digB (s : Str) : Bool := (tl s).all fun c => decide (48 ≤ c) && decide (c ≤ 57)
theorem numberin_is (hl : s.length ≤ 1000000) : ∃ t : T, zcm [.t (.str s), .t (.int 9)] hp = .ok (.t t) hp ∧ ((∃ n : Nat, n < 10 ^ 9 ∧ s = numS n ∧ t = .int (n : Nat)) ∨ (t = .non ∧ ∀ n : Nat, n < 10 ^ 9 → s ≠ numS n)) := by
 suffices hh : Wp (zcm [.t (.str s), .t (.int 9)] hp) fun w h => ∃ t : T, w = .t t ∧ h = hp ∧ ((∃ n : Nat, n < 10 ^ 9 ∧ s = numS n ∧ t = .int (n : Nat)) ∨ (t = .non ∧ ∀ n : Nat, n < 10 ^ 9 → s ≠ numS n)) by
  obtain ⟨w, h1, e, t, rfl, rfl, q⟩ := hh.ex
  exact ⟨t, e, q⟩
 let E : Option W → IS := fun w2 => [some (.t (.str s)), some (.t (.int 9)), w2]
 refine vc_fnP (ts := [.str s, .int 9]) (eta := E none) rfl rfl ?_
 unfold B_number_in
 have ol : (mApp oLen Yaa : M W) (E none) [] = .ok (.t (.int (s.length : Nat))) [] := zcn rfl (oLen_str Yc)
 have u1 : (mNot (zaf asB (mChain iLe iLe Yj (mApp oLen Yaa) (mVar 1))) : M Bool) (E none) [] = .ok (!(decide (1 ≤ s.length) && decide (s.length ≤ 9))) [] := by
  refine notE (zbn ?_)
  rw [p_chain, show (mC (.int 1) : M W) (E none) [] = .ok (.t (.int 1)) [] from rfl, zag, ol, zag, ev_le, zag]
  have a : decide (1 ≤ s.length) = decide ((1 : Int) ≤ (s.length : Nat)) := by rw [decide_eq_decide]; omega
  have b : decide (s.length ≤ 9) = decide (((s.length : Nat) : Int) ≤ 9) := by rw [decide_eq_decide]; omega
  rw [a, b]
  cases decide ((1 : Int) ≤ (s.length : Nat)) with
  | true => simp only [Bool.true_and]; rfl
  | false => rfl
 have c1 : (zbq zaj (mStrI (mVar 0)) (gN 2) mYes zbh [2] : M W) (E none) [] = .ok (.t (.lst (((tl s).map fun c => (decide (48 ≤ c) && decide (c ≤ 57))).map T.bl))) [] := by
  refine wpV (vc_comp (Wp.of (a := signs s) (h := []) rfl ⟨?_, ?_⟩))
  ·show ((tl s).map _).length ≤ _
   rw [List.length_map, ← len_tl]
   omega
  ·refine vc_mapA (G := gN 2) (E := zbh) (src := fun c : Nat => W.t Yb4) (g := fun c => T.bl (decide (48 ≤ c) && decide (c ≤ 57))) (tl s) (fun c hc => ⟨E (some (.t Yb4)), rfl, ?_⟩) (zct (by rw [List.length_map, ← len_tl]; omega) ⟨?_, rfl⟩)
   ·unfold zbh
    exact binP rfl rfl dgt_in
   ·rw [List.map_map]
    rfl
 have u2 : (mNot Yd2 : M Bool) (E none) [] = .ok (!digB s) [] := notE (by
  rw [zcq, zcn c1 bools_all, List.all_map]
  rfl)
 refine zao (za7 (orE u1 fun _ => u2) (fun h => za8 (vc_c (vc_rt ⟨_, rfl, .non, rfl, rfl, .inr ⟨rfl, fun n hn e => ?_⟩⟩))) fun h => zbf (za6 ?_))
 ·have l : (numS n).length = (numL n).length := by rw [len_tl]; unfold numS; rw [tl_num]
  have l1 := numL_len (k := 9) Yc hn
  have l2 := List.length_pos_iff.mpr (numL_ne n)
  have dg : digB s = true := by
   unfold digB
   rw [e]
   unfold numS
   rw [tl_num, List.all_eq_true]
   intro c hc
   have := numL_digits n c hc
   simp [this.1, this.2]
  rw [dg, e, l, decide_eq_true (show 1 ≤ (numL n).length by omega), decide_eq_true l1] at h
  simp at h
 ·simp only [Bool.or_eq_false_iff, Bool.not_eq_false', Bool.and_eq_true, decide_eq_true_eq] at h
  obtain ⟨⟨h1, h9⟩, dg⟩ := h
  have ad : NumText.AllDigits (tl s) := fun c hc => by
   have := List.all_eq_true.mp dg c hc
   simpa using this
  have lt := len_tl s
  obtain ⟨c, r, es⟩ : ∃ c r, tl s = c :: r := by
   cases e : tl s with
   | nil => rw [e] at lt; simp at lt; omega
   | cons c r => exact ⟨c, r, rfl⟩
  have ne : tl s ≠ [] := by rw [es]; simp
  have i0 : (mBin ixW (mVar 0) Yd : M W) (E none) [] = .ok (.t Yb4) [] := binP rfl rfl (ix_str0 es Yc)
  have t1 : (zaf asB (mBin Ybu Ybj (mC (.str "0"))) : M Bool) (E none) [] = .ok (decide ((⟨#[c]⟩ : Str) = "0")) [] := zbn (binP i0 rfl Ybr)
  have t2 : (zaf asB (mBin Yah (mVar 0) (mC (.str "0"))) : M Bool) (E none) [] = .ok (!decide (s = "0")) [] := zbn (binP (a := .t (.str s)) rfl rfl Ybr)
  have z0 : tl ("0" : Str) = [48] := by decide +kernel
  have c48 : (⟨#[c]⟩ : Str) = "0" ↔ c = 48 := by
   constructor
   ·intro e
    have := congrArg tl e
    rw [z0] at this
    exact List.head_eq_of_cons_eq this
   ·rintro rfl
    exact str_eq (by rw [z0])
  refine za8 (za7 (andE t1 fun _ => t2) (fun h => vc_c ⟨_, rfl, .non, rfl, rfl, .inr ⟨rfl, fun n hn e => ?_⟩⟩) fun h => ?_)
  ·simp only [Bool.and_eq_true, decide_eq_true_eq, Bool.not_eq_true', decide_eq_false_iff_not] at h
   have hc := c48.mp h.1
   have en : numL n = 48 :: r := by
    rw [← hc, ← es, e]
    unfold numS
    rw [tl_num]
   by_cases h10 : n < 10
   ·rw [numL_lt h10] at en
    have : r = [] := (List.cons.inj en).2.symm
    exact h.2 (str_eq (by rw [es, z0, hc, this]))
   ·exact numL_no0 (n := n) Yc (by rw [en]; rfl)
  ·have hz : (tl s).head? ≠ some 48 ∨ tl s = [48] := by
    rw [es]
    by_cases hc : c = 48
    ·right
     rw [decide_eq_true (c48.mpr hc), Bool.true_and, Bool.not_eq_false', decide_eq_true_eq] at h
     rw [← es, h, z0]
    ·left
     intro e
     exact hc (Option.some.inj e)
   have back := numL_back ad ne hz
   have it : oIntS [.t (.str s)] [] = .ok (.t (.int (NumText.digitsVal (tl s) : Nat))) [] := by
    have e : PySem.intText? s = some ((NumText.digitsVal (tl s) : Nat) : Int) := PySem.intText_digits ad ne Yc
    unfold oIntS
    simp only [e]
    rw [if_pos Yc]
   refine Wp.of (zcn (a := .t (.str s)) rfl it) ⟨_, rfl, _, rfl, rfl, .inl ⟨NumText.digitsVal (tl s), ?_, ?_, rfl⟩⟩
   ·have := numL_big (n := NumText.digitsVal (tl s)) (k := 9)
    rw [back, ← lt] at this
    exact this h9
   ·refine str_eq ?_
    unfold numS
    rw [tl_num, back]
end
section
open TL
variable {hp : IH} {s : Str} {ds : List Deed} {v : T}
/-- the place that a word tells -/
def zcc (ds : List Deed) (s : Str) : Option Nat := (List.range ds.length).find? fun n => decide (numS n = s) && decide ((ds.getD n ("", "")).1 = "look")
def optN : Option Nat → T
 | some n => .int (n : Nat)
 | none => .non
theorem numS_inj {m n : Nat} (h : numS m = numS n) : m = n := numL_inj (by
 have := congrArg tl h
 unfold numS at this
 rwa [tl_num, tl_num] at this)
theorem spotS_some {n : Nat} : zcc ds s = some n ↔ s = numS n ∧ n < ds.length ∧ (ds.getD n ("", "")).1 = "look" := by
 unfold zcc
 constructor
 ·intro h
  have h1 := List.find?_some h
  have h2 := List.mem_of_find?_eq_some h
  simp only [Bool.and_eq_true, decide_eq_true_eq] at h1
  exact ⟨h1.1.symm, List.mem_range.mp h2, h1.2⟩
 ·rintro ⟨rfl, h1, h2⟩
  cases e : (List.range ds.length).find? fun m => decide (numS m = numS n) && decide ((ds.getD m ("", "")).1 = "look") with
  | none =>
   have := List.find?_eq_none.mp e n (List.mem_range.mpr h1)
   exact absurd (by rw [decide_eq_true (rfl : numS n = numS n), decide_eq_true h2]; rfl) this
  | some m =>
   have h3 := List.find?_some e
   simp only [Bool.and_eq_true, decide_eq_true_eq] at h3
   rw [numS_inj h3.1]
theorem spot_S (hl : s.length ≤ 1000000) (dl : ds.length ≤ 1000) : F_spot_in [.t (.str s), .t Yi] hp = .ok (.t (optN (zcc ds s))) hp := by
 refine wpV ?_
 let E : Option W → IS := fun w2 => [some (.t (.str s)), some (.t Yi), w2]
 refine vc_fnP (ts := [.str s, .tup Ycg]) (eta := E none) rfl rfl ?_
 unfold B_spot_in
 obtain ⟨t, e, q⟩ := numberin_is (hp := ([] : IH)) hl
 refine zao (zbe (Wp.of (zal (ws := [.t (.str s), .t (.int 9)]) rfl e) (za6 ?_)))
 rcases q with ⟨n, hn, es, rfl⟩ | ⟨rfl, hn⟩
 ·have t1 : zaf asB (mBin (isN true) (mVar 2) Yw) (E (some Yap)) [] = .ok true [] := rfl
  have t2 : zaf asB (mBin wLt (mVar 2) (mApp oLen Yr)) (E (some Yap)) [] = .ok (decide (n < ds.length)) [] := zbn (binP rfl (zcn (a := .t Yi) rfl oLen_t) (by
   rw [wLt_ii, List.length_map]
   congr 3
   rw [decide_eq_decide]
   omega))
  by_cases c : n < ds.length
  ·have ix : ixW (.t Yi) Yap [] = .ok Ye9 [] := by
    have := ixW_sq (b := true) (ts := ds.map dTr) (n := n) (hp := []) (by simpa using c)
    rw [deed_at c] at this
    exact this
   have t3 : zaf asB Ye4 (E (some Yap)) [] = .ok (decide ((ds.getD n ("", "")).1 = "look")) [] := zbn (binP (binP (binP rfl rfl ix) rfl ev_ixt0) rfl Ybr)
   refine za8 (za7 (andE t1 fun _ => andE t2 fun _ => t3) (fun h => zbw rfl ⟨_, rfl, ?_, rfl⟩) fun h => vc_c ⟨_, rfl, ?_, rfl⟩)
   ·simp only [Bool.true_and, Bool.and_eq_true, decide_eq_true_eq] at h
    rw [spotS_some.mpr ⟨es, h⟩]
    rfl
   ·have : zcc ds s = none := by
     cases e : zcc ds s with
     | none => rfl
     | some m =>
      obtain ⟨e1, e2, e3⟩ := spotS_some.mp e
      rw [es] at e1
      rw [numS_inj e1, decide_eq_true e2, decide_eq_true e3] at h
      cases h
    rw [this]
    rfl
  ·rw [decide_eq_false c] at t2
   refine za8 (za7 (b := false) (andE (a := true) (b := false) t1 fun _ => andE (a := false) (b := false) t2 fun z => by cases z) Yew fun h => vc_c ⟨_, rfl, ?_, rfl⟩)
   have : zcc ds s = none := by
    cases e : zcc ds s with
    | none => rfl
    | some m =>
     obtain ⟨e1, e2, e3⟩ := spotS_some.mp e
     rw [es] at e1
     exact absurd (numS_inj e1 ▸ e2) c
   rw [this]
   rfl
 ·have t1 : zaf asB (mBin (isN true) (mVar 2) Yw) (E (some Yar)) [] = .ok false [] := rfl
  refine za8 (za7 (b := false) (andE (a := false) (b := false) t1 fun z => by cases z) Yew fun h => vc_c ⟨_, rfl, ?_, rfl⟩)
  have : zcc ds s = none := by
   cases e : zcc ds s with
   | none => rfl
   | some m =>
    obtain ⟨e1, e2, e3⟩ := spotS_some.mp e
    exact absurd e1 (hn m Yc)
  rw [this]
  rfl
/-- the check that words tell -/
def chkPS (ds : List Deed) : List Str → Option Chk
 | [w, a] => if w = "even" then (zcc ds a).map .even else none
 | [w, a, b] => if w = "same" then (match zcc ds a, zcc ds b with | some i, some j => if i < j ∧ (ds.getD i ("", "")).2 = (ds.getD j ("", "")).2 then some (.same i j) else none | _, _ => none) else none
 | _ => none
def chkS (ds : List Deed) (s : Str) : Option Chk := chkPS ds (Txt.split s " ")
def chkV (ds : List Deed) : T → Option Chk
 | .str s => chkS ds s
 | _ => none
def optC : Option Chk → T
 | some c => chkT c
 | none => .non
theorem chkS_some {c : Chk} (h : chkS ds s = some c) : s = chkTx c ∧ chkOk ds c := by
 unfold chkS at h
 generalize e : Txt.split s " " = ps at h
 have j := ts_join (s := s)
 rw [e] at j
 unfold chkPS at h
 split at h
 ·rename_i w a
  split at h
  ·rename_i hw
   obtain ⟨i, h1, rfl⟩ := Option.map_eq_some_iff.mp h
   obtain ⟨e1, e2, e3⟩ := spotS_some.mp h1
   rw [← j, hw, e1]
   exact ⟨rfl, e2, e3⟩
  ·cases h
 ·rename_i w a b
  split at h
  ·rename_i hw
   split at h
   ·rename_i i' j' h1 h2
    split at h
    ·rename_i hc
     cases h
     obtain ⟨e1, e2, e3⟩ := spotS_some.mp h1
     obtain ⟨f1, f2, f3⟩ := spotS_some.mp h2
     rw [← j, hw, e1, f1]
     exact ⟨rfl, hc.1, f2, e3, Prod.ext (e3.trans f3.symm) hc.2⟩
    ·cases h
   ·cases h
  ·cases h
 ·cases h
theorem chkTx_S {c : Chk} (h : chkOk ds c) : chkS ds (chkTx c) = some c := by
 unfold chkS
 rw [split_chk]
 cases c with
 | even i =>
  obtain ⟨h1, h2⟩ := h
  show (if ("even" : Str) = "even" then (zcc ds (numS i)).map Chk.even else none) = _
  rw [if_pos rfl, spotS_some.mpr ⟨rfl, h1, h2⟩]
  rfl
 | same i j =>
  obtain ⟨h1, h2, h3, h4⟩ := h
  show (if ("same" : Str) = "same" then _ else none) = _
  rw [if_pos rfl, spotS_some.mpr ⟨rfl, by omega, h3⟩, spotS_some.mpr ⟨rfl, h2, by rw [← h4]; exact h3⟩]
  show (if i < j ∧ (ds.getD i ("", "")).2 = (ds.getD j ("", "")).2 then some (Chk.same i j) else none) = _
  rw [if_pos ⟨h1, by rw [h4]⟩]
theorem optN_fit {l : List (Option Nat)} : fitL (l.map optN) 60 = true := fitL_all fun t ht => by
 obtain ⟨c, _, rfl⟩ := List.mem_map.mp ht
 cases c <;> rfl
theorem non_any {l : List (Option Nat)} : inW false Yar (.t (.lst (l.map optN))) hp = .ok (.t (.bl (decide (none ∈ l)))) hp := by
 simp only [inW, asT_t, items_l, Option.bind_some, allT_ts]
 rw [if_pos ⟨rfl, optN_fit⟩]
 simp only [Bool.false_eq_true, if_false]
 congr 3
 rw [Bool.eq_iff_iff, List.any_eq_true, decide_eq_true_eq]
 constructor
 ·rintro ⟨t, ht, e⟩
  obtain ⟨c, hc, rfl⟩ := List.mem_map.mp ht
  cases c with
  | none => exact hc
  | some n => simp [optN, Mir.eqT] at e
 ·intro h
  exact ⟨.non, List.mem_map.mpr ⟨none, h, rfl⟩, rfl⟩
end
section
open TL
variable {hp : IH} {s : Str} {ds : List Deed} {v : T}
theorem ixd {n : Nat} (c : n < ds.length) : ixW (.t Yi) Yap hp = .ok Ye9 hp := by
 have := ixW_sq (b := true) (ts := ds.map dTr) (n := n) (hp := hp) (by simpa using c)
 rw [deed_at c] at this
 exact this
theorem test_S (hl : s.length ≤ 1000000) (dl : ds.length ≤ 1000) : F_test_in [.t (.str s), .t Yi] hp = .ok (.t (optC (chkS ds s))) hp := by
 refine wpV ?_
 let D : Option W := some (.t Yi)
 let E : Option W → Option W → Option W → IS := fun w2 w3 w4 => [some (.t (.str s)), D, w2, w3, w4]
 refine vc_fnP (ts := [.str s, .tup Ycg]) (eta := E none none none) rfl rfl ?_
 unfold B_test_in
 refine zao (za7 (b := false) (notE (a := true) rfl) Yew fun _ => zbf (za6 ?_))
 have sp : (mSM oSplit (mVar 0) (mC (.str " ")) : M W) (E none none none) [] = .ok (.t (.lst ((Txt.split s " ").map T.str))) [] := sm_ok rfl rfl (split_is rfl Yv Yc)
 refine zao (zbe (Wp.of sp (za6 ?_)))
 have pl : ∀ p ∈ Txt.split s " ", p.length ≤ 1000000 := fun p hp => Nat.le_trans (split_le hp) hl
 have pn := split_num (a := s) (y := " ")
 rw [sp_len] at pn
 have p0 := split_ne s " "
 unfold chkS
 generalize Txt.split s " " = ps at pl pn p0
 match ps, pl, pn, p0 with
 | w :: r, pl, pn, _ =>
  rw [List.length_cons] at pn
  let P : Option W := some (.t (.lst ((w :: r).map T.str)))
  show Wp ((mSeq _ _ : M Fl) (E P none none) []) _
  have sl : (mSl (mVar 2) (zca Yj) zbc : M W) (E P none none) [] = .ok (.t (.lst (r.map T.str))) [] := by
   refine wpV (vc_sl (zbw (w := .t (.lst ((w :: r).map T.str))) rfl (vc_part (vc_c ⟨_, rfl, vc_noPart (vc_slWl ⟨?_, rfl⟩)⟩))))
   have := cutL_from2 ((w :: r).map T.str) 1
   rw [show ((1 : Nat) : Int) = 1 from rfl] at this
   rw [this]
   rfl
  have cp : zbq zaj (mSq (mSl (mVar 2) (zca Yj) zbc)) (gN 4) mYes zb6 [4] (E P none none) [] = .ok (.t (.lst ((r.map (zcc ds)).map optN))) [] := by
   refine wpV (vc_comp (vc_sq (Wp.of sl (vc_sqL ⟨by rw [List.length_map, List.length_map]; omega, ?_⟩))))
   rw [List.map_map, List.map_map]
   refine vc_mapA (G := gN 4) (E := zb6) (src := fun x : Str => W.t (.str x)) (g := fun x => optN (zcc ds x)) r (fun x hx => ⟨E P none (some (.t (.str x))), rfl, ?_⟩) Yc6
   exact zal (ws := [.t (.str x), .t Yi]) rfl (spot_S (pl x (List.mem_cons_of_mem _ hx)) dl)
  refine zao (zbe (Wp.of cp (za6 ?_)))
  let Q : List (Option Nat) := r.map (zcc ds)
  let G : IS := E P (some (.t (.lst (Q.map optN)))) none
  show Wp ((mSeq _ _ : M Fl) G []) _
  have ql : Q.length = r.length := List.length_map ..
  have t1 : (zaf asB (mBin (inW false) Yw (mVar 3)) : M Bool) G [] = .ok (decide (none ∈ Q)) [] := zbn (binP (a := .t .non) (b := .t (.lst (Q.map optN))) rfl rfl non_any)
  have ol : (mApp oLen Yax : M W) G [] = .ok (.t (.int (r.length : Nat))) [] := zcn (a := .t (.lst (Q.map optN))) rfl (by rw [oLen_l, List.length_map, ql])
  have w0 : (mBin ixW (mVar 2) Yd : M W) G [] = .ok (.t (.str w)) [] := binP (a := .t (.lst ((w :: r).map T.str))) rfl rfl ev_ixl0
  have te : (zaf asB (mBin Ybu Ybk Yf1) : M Bool) G [] = .ok (decide (w = "even")) [] := zbn (binP w0 rfl Ybr)
  have l1 : (zaf asB (mBin Ybu (mApp oLen Yax) Yj) : M Bool) G [] = .ok (decide (r.length = 1)) [] := zbn (binP ol rfl (ev_eqi.trans (by
   have : decide (((r.length : Nat) : Int) = 1) = decide (r.length = 1) := by rw [decide_eq_decide]; omega
   simp only [Bool.false_eq_true, if_false, this])))
  have ts : (zaf asB Yf2 : M Bool) G [] = .ok (!decide (w = "same")) [] := zbn (binP w0 rfl Ybr)
  have l2 : (zaf asB (mBin Yah (mApp oLen Yax) (mC (.int 2))) : M Bool) G [] = .ok (!decide (r.length = 2)) [] := zbn (binP ol rfl (ev_eqi.trans (by
   have : decide (((r.length : Nat) : Int) = 2) = decide (r.length = 2) := by rw [decide_eq_decide]; omega
   simp only [if_true, this])))
  by_cases hn : none ∈ Q
  ·refine zao (za7 t1 (fun _ => za8 (vc_c (vc_rt ⟨_, rfl, ?_, rfl⟩))) fun h => by rw [decide_eq_true hn] at h; cases h)
   have : chkPS ds (w :: r) = none := by
    obtain ⟨x, hx, e⟩ := List.mem_map.mp hn
    match r, hx with
    | [a], hx =>
     rw [List.mem_singleton.mp hx] at e
     simp only [chkPS, e, Option.map_none, ite_self]
    | [a, b], hx =>
     simp only [List.mem_cons, List.not_mem_nil, or_false] at hx
     rcases hx with rfl | rfl
     ·simp only [chkPS, e, ite_self]
     ·simp only [chkPS, e]
      cases zcc ds a <;> simp only [ite_self]
    | [], hx => cases hx
    | _ :: _ :: _ :: _, _ => rfl
   rw [this]
   rfl
  ·refine zao (za7 t1 (fun h => by rw [decide_eq_false hn] at h; cases h) fun _ => zbf (za6 ?_))
   have sm : ∀ a ∈ r, ∃ n, zcc ds a = some n := fun a ha => by
    cases e : zcc ds a with
    | some n => exact ⟨n, rfl⟩
    | none => exact absurd (List.mem_map.mpr ⟨a, ha, e⟩) hn
   -- nothing fits
   have bad : (decide (w = "even") && decide (r.length = 1)) = false → (!decide (w = "same") || !decide (r.length = 2)) = true → chkPS ds (w :: r) = none → ∀ F : M W, Wp ((mSeq (mIf (mAnd (zaf asB (mBin (eqW false) (mBin ixW (mVar 2) (mC (.int 0))) (mC (.str "even")))) (zaf asB (mBin (eqW false) (mApp oLen (zab (mVar 3) (mNil))) (mC (.int 1))))) (mRet (mApp zce (zab (mC (.str "even")) (zab (mBin ixW (mVar 3) (mC (.int 0))) (mNil))))) (zbu)) (mSeq (mIf (mOr (zaf asB (mBin (eqW true) (mBin ixW (mVar 2) (mC (.int 0))) (mC (.str "same")))) (mOr (zaf asB (mBin (eqW true) (mApp oLen (zab (mVar 3) (mNil))) (mC (.int 2)))) (zaf asB (mBin iGe (mBin ixW (mVar 3) (mC (.int 0))) (mBin ixW (mVar 3) (mC (.int 1))))))) (mRet (mC .non)) (zbu)) (mRet F)) : M Fl) G []) fun fl h1 => ∃ t : T, fl = .rt (.t t) ∧ (fun w' h => w' = W.t (optC (chkPS ds (w :: r))) ∧ h = hp) (.t t) hp := fun h1 h2 h3 F => by
    refine zao (za7 (andE te fun _ => l1) (fun h => by rw [h1] at h; cases h) fun _ => zbf (za6 ?_))
    have o : (mOr (zaf asB Yf2) Ycb : M Bool) G [] = .ok true [] := by
     by_cases hw : w = "same"
     ·rw [decide_eq_true hw] at ts h2
      exact orE (a := false) (b := true) ts fun _ => by
       have e : (!decide (r.length = 2)) = true := by simpa using h2
       rw [e] at l2
       exact orE (a := true) (b := true) l2 fun z => by cases z
     ·rw [decide_eq_false hw] at ts
      exact orE (a := true) (b := true) ts fun z => by cases z
    refine zao (za7 o (fun _ => za8 (vc_c (vc_rt ⟨_, rfl, ?_, rfl⟩))) fun h => by cases h)
    rw [h3]
    rfl
   have V3 : (mVar 3 : M W) G [] = .ok (.t (.lst ((r.map (zcc ds)).map optN))) [] := rfl
   match r, sm, bad, te, l1, ts, l2, V3 with
   | [], _, bad, _, _, _, _, _ => exact bad Yav Yav rfl _
   | _ :: _ :: _ :: _, _, bad, _, _, _, _, _ => exact bad Yav Yav rfl _
   | [a], sm, bad, te, l1, ts, l2, V3 =>
    obtain ⟨n, e⟩ := sm a Yx
    by_cases hw : w = "even"
    ·rw [decide_eq_true hw] at te
     have i0 : (mBin ixW (mVar 3) Yd : M W) G [] = .ok Yap [] := binP (a := .t (.lst [.int (n : Nat)])) (V3.trans (by
      rw [show (([a].map (zcc ds)).map optN) = [optN (zcc ds a)] from rfl, e]
      rfl)) rfl ev_ixl0
     refine zao (za7 (b := true) (andE (a := true) (b := true) te fun _ => l1) (fun _ => za8 (zck (zat (vc_c (zat (Wp.of i0 (zbz (vc_tupE (ts := [.str "even", .int (n : Nat)]) rfl Yas (vc_rt ⟨_, rfl, ?_, rfl⟩))))))))) Yew)
     simp only [chkPS, hw, if_true, e]
     rfl
    ·exact bad (by simp [hw]) Yav (by simp [chkPS, hw]) _
   | [a, b], sm, bad, te, l1, ts, l2, V3 =>
    obtain ⟨m, ea⟩ := sm a Yx
    obtain ⟨n, eb⟩ := sm b (List.mem_cons_of_mem _ Yx)
    by_cases hw : w = "same"
    ·obtain ⟨_, m1, m2⟩ := spotS_some.mp ea
     obtain ⟨_, n1, n2⟩ := spotS_some.mp eb
     have v3 : (mVar 3 : M W) G [] = .ok (.t (.lst [.int (m : Nat), .int (n : Nat)])) [] := by
      refine V3.trans ?_
      rw [show (([a, b].map (zcc ds)).map optN) = [optN (zcc ds a), optN (zcc ds b)] from rfl, ea, eb]
      rfl
     have i0 : (mBin ixW (mVar 3) Yd : M W) G [] = .ok (.t (.int (m : Nat))) [] := binP v3 rfl ev_ixl0
     have i1 : (mBin ixW (mVar 3) Yj : M W) G [] = .ok Yap [] := binP v3 rfl ev_ixl1
     have ge : (zaf asB (mBin iGe (mBin ixW (mVar 3) Yd) (mBin ixW (mVar 3) Yj)) : M Bool) G [] = .ok (decide (n ≤ m)) [] := zbn (binP i0 i1 (by
      rw [iGe_ii]
      have : decide (((n : Nat) : Int) ≤ (m : Nat)) = decide (n ≤ m) := by rw [decide_eq_decide]; omega
      rw [this]))
     rw [decide_eq_true hw] at ts
     refine zao (za7 (b := false) ((andE te fun _ => l1).trans (by rw [show decide ([a, b].length = 1) = false from rfl, Bool.and_false])) Yew fun _ => zbf (za6 ?_))
     refine zao (za7 (orE (a := false) ts fun _ => orE (a := false) l2 fun _ => ge) (fun h => za8 (vc_c (vc_rt ⟨_, rfl, ?_, rfl⟩))) fun h => zbf (za6 ?_))
     ·have : ¬ (m < n ∧ (ds.getD m ("", "")).2 = (ds.getD n ("", "")).2) := fun z => by
       simp at h
       omega
      simp only [chkPS, hw, if_true, ea, eb, if_neg this]
      rfl
     ·have lt : m < n := by simp at h; omega
      have tq : (zaf asB Ycs : M Bool) G [] = .ok (decide ((ds.getD m ("", "")).2 = (ds.getD n ("", "")).2)) [] :=
       zbn (binP (binP (binP (a := .t Yi) rfl i0 (ixd m1)) rfl ev_ixt1) (binP (binP (a := .t Yi) rfl i1 (ixd n1)) rfl ev_ixt1) Ybr)
      refine za8 (za7 tq (fun c => zck (zat (vc_c (zat (Wp.of i0 (zat (Wp.of i1 (zbz (vc_tupE (ts := [.str "same", .int (m : Nat), .int (n : Nat)]) rfl Yas ⟨_, rfl, ?_, rfl⟩))))))))) fun c => vc_c ⟨_, rfl, ?_, rfl⟩)
      ·have : m < n ∧ (ds.getD m ("", "")).2 = (ds.getD n ("", "")).2 := ⟨lt, of_decide_eq_true c⟩
       simp only [chkPS, hw, if_true, ea, eb, if_pos this]
       rfl
      ·have : ¬ (m < n ∧ (ds.getD m ("", "")).2 = (ds.getD n ("", "")).2) := fun z => of_decide_eq_false c z.2
       simp only [chkPS, hw, if_true, ea, eb, if_neg this]
       rfl
    ·exact bad Yav (by simp [hw]) (by simp [chkPS, hw]) _
theorem test_V (h : plnT v = true) (hl : ∀ x, v = .str x → x.length ≤ 1000000) (dl : ds.length ≤ 1000) : F_test_in [.t v, .t Yi] hp = .ok (.t (optC (chkV ds v))) hp := by
 by_cases st : strT v = true
 ·obtain ⟨s, rfl⟩ : ∃ s, v = .str s := by
   cases v <;> first | exact ⟨_, rfl⟩ | (simp [strT] at st)
  exact test_S (hl s rfl) dl
 ·refine wpV ?_
  let E : IS := [some (.t v), some (.t Yi), none, none, none]
  refine vc_fnP (ts := [v, .tup Ycg]) (eta := E) rfl rfl ?_
  unfold B_test_in
  have u1 : (mNot Yo : M Bool) E [] = .ok (!strT v) [] := notE (by
   rw [zcq, show mApp (oIsi zc1) (zab (mVar 0) (zab (mC (.ty "str")) (mNil))) E [] = oIsi zc1 [.t v, .t (.ty "str")] [] from rfl, isi_str h]
   rfl)
  refine zao (za7 u1 (fun c => za8 (vc_c (vc_rt ⟨_, rfl, ?_, rfl⟩))) fun c => by rw [Bool.eq_false_iff.mpr st] at c; cases c)
  cases v <;> first | rfl | (simp [strT] at st)
end
section
open TL
variable {hp : IH} {ds : List Deed} {ts : List T} {v : T}
def allC (ds : List Deed) : List T → Option (List Chk)
 | [] => some []
 | t :: r => match chkV ds t, allC ds r with
  | some c, some cs => some (c :: cs)
  | _, _ => none
def chksV (ds : List Deed) (ts : List T) : Option (List Chk) := match allC ds ts with
 | some cs => if cs.Nodup then some cs else none
 | none => none
def csT : Option (List Chk) → T
 | some cs => .tup (cs.map chkT)
 | none => .non
theorem allC_some : ∀ {ts : List T} {cs : List Chk}, allC ds ts = some cs → ts = cs.map (fun c => T.str (chkTx c)) ∧ ∀ c ∈ cs, chkOk ds c
 | [], cs, h => by
  simp only [allC, Option.some.injEq] at h
  subst h
  exact ⟨rfl, by simp⟩
 | t :: r, cs, h => by
  unfold allC at h
  split at h
  ·rename_i c cs' h1 h2
   cases h
   obtain ⟨e, ok⟩ := allC_some h2
   cases t with
   | str s =>
    obtain ⟨e1, e2⟩ := chkS_some (show chkS ds s = some c from h1)
    refine ⟨by rw [List.map_cons, ← e, e1], fun x hx => ?_⟩
    rcases List.mem_cons.mp hx with rfl | hx
    ·exact e2
    ·exact ok x hx
   | _ => cases h1
  ·cases h
theorem allC_found : ∀ {ts : List T}, (∃ cs, allC ds ts = some cs ∧ ts.map (fun t => optC (chkV ds t)) = cs.map chkT) ∨ (allC ds ts = none ∧ ∃ t ∈ ts, chkV ds t = none)
 | [] => .inl ⟨[], rfl, rfl⟩
 | t :: r => by
  cases e : chkV ds t with
  | none =>
   refine .inr ⟨?_, t, List.mem_cons_self .., e⟩
   simp only [allC, e]
  | some d =>
   rcases allC_found (ts := r) with ⟨cs, h1, h2⟩ | ⟨h1, u, hu, h2⟩
   ·exact .inl ⟨d :: cs, by simp only [allC, e, h1], by rw [List.map_cons, List.map_cons, h2, e]; rfl⟩
   ·exact .inr ⟨by simp only [allC, e, h1], u, List.mem_cons_of_mem _ hu, h2⟩
theorem optC_fit {ds : List Deed} : ∀ ts : List T, fitL (ts.map fun t => optC (chkV ds t)) 60 = true
 | [] => rfl
 | t :: r => by
  simp only [List.map_cons, fitL, optC_fit r, Bool.and_true]
  cases chkV ds t with
  | none => rfl
  | some c => cases c <;> rfl
theorem onceT_lt : ∀ (ks acc : List (List Key)), acc.Nodup → ¬ (acc ++ ks).Nodup → (ks.foldl Ya0 acc).length < acc.length + ks.length
 | [], acc, a, n => absurd (by rw [List.append_nil]; exact a) n
 | k :: ks, acc, a, n => by
  rw [List.foldl_cons]
  by_cases h : memT k acc = true
  ·rw [if_pos h]
   have := onceT_le ks acc
   rw [List.length_cons]
   omega
  ·rw [if_neg h]
   have hk : k ∉ acc := fun m => h (memT_iff.mpr m)
   have := onceT_lt ks (acc ++ [k]) (by
    rw [List.nodup_append]
    exact ⟨a, by simp, fun x hx y hy e => by rw [List.mem_singleton.mp hy] at e; exact hk (e ▸ hx)⟩) (by rw [List.append_assoc]; exact n)
   rw [List.length_append, List.length_singleton] at this
   rw [List.length_cons]
   omega
theorem lensetT_iff {F : M W} {eta : IS} {h1 : IH} {cs : List Chk} (h : F eta hp = .ok (.t (.lst (cs.map chkT))) h1) (hl : cs.length ≤ 63) : ∃ n : Nat, mLenSetGr F eta hp = .ok Yap h1 ∧ (n = cs.length ↔ cs.Nodup) := by
 refine ⟨(zc9 (cs.map chkK)).length, ?_, ?_⟩
 ·unfold mLenSetGr
  rw [h, zag]
  simp only [tups_chk, List.length_map, hl, if_true]
 ·have inj : (cs.map chkK).Nodup ↔ cs.Nodup := ⟨fun z => (List.pairwise_map.mp z).imp fun h e => h (by rw [e]), fun z => List.Pairwise.map _ (fun a b h e => h (chkK_inj e)) z⟩
  constructor
  ·intro e
   refine inj.mp (Classical.byContradiction fun n => ?_)
   have := onceT_lt (cs.map chkK) [] List.nodup_nil (by simpa using n)
   simp only [List.length_nil, List.length_map, Nat.zero_add] at this
   unfold zc9 at e
   omega
  ·intro nd
   unfold zc9
   rw [onceT_nd _ [] (by simpa using inj.mpr nd), List.nil_append, List.length_map]
theorem tests_L {b : Bool} (hs : ∀ t ∈ ts, StepOk t) (hl : ts.length ≤ 1000) (h63 : ∀ cs, allC ds ts = some cs → ts.length ≤ 63) (dl : ds.length ≤ 1000) : zbm [.t Ycr, .t Yi] hp = .ok (.t (csT (chksV ds ts))) hp := by
 refine wpV ?_
 let D : Option W := some (.t Yi)
 let E : Option W → Option W → IS := fun w2 w3 => [some (.t Ycr), D, w2, w3]
 refine vc_fnP (ts := [sqT b ts, .tup Ycg]) (eta := E none none) rfl rfl ?_
 unfold B_tests_in
 have u1 : (mNot Yca : M Bool) (E none none) [] = .ok false [] := notE (a := true) (by rw [zcq, zal (ws := [.t Ycr]) rfl seq_isq]; rfl)
 refine zao (za7 u1 Ydm fun _ => zbf (za6 ?_))
 let Fd : List T := ts.map fun t => optC (chkV ds t)
 have c1 : zbq zaj (mSq (mVar 0)) (gN 3) mYes zb0 [3] (E none none) [] = .ok Ya9 [] := by
  refine wpV (vc_comp (vc_sq (zbw rfl (Wp.of sqI_sq ⟨by rw [List.length_map]; omega, ?_⟩))))
  refine vc_mapA (G := gN 3) (E := zb0) (src := fun t : T => W.t t) (g := fun t => optC (chkV ds t)) ts (fun t ht => ⟨E none (some (.t t)), rfl, ?_⟩) Yc6
  exact zal (ws := [.t t, .t Yi]) rfl (test_V (hs t ht).p (hs t ht).l dl)
 refine zao (zbe (Wp.of c1 (za6 ?_)))
 let G : IS := E (some Ya9) none
 show Wp ((mRet _ : M Fl) G []) _
 have ni : inW false Yar Ya9 [] = .ok (.t (.bl (Fd.any fun y => Mir.eqT y .non))) [] := by
  have e2 : (items [] Ya9).bind allT = some Fd := allT_ts Fd
  unfold inW
  simp only [show asT [] Yar = some .non from rfl, e2, show fit .non 60 = true from rfl, show fitL Fd 60 = true from optC_fit ts, and_self, if_true]
  rfl
 have an : (Fd.any fun y => Mir.eqT y .non) = ts.any fun t => (chkV ds t).isNone := by
  simp only [Fd, List.any_map]
  congr 1
  funext t
  show Mir.eqT (optC (chkV ds t)) .non = _
  cases chkV ds t with
  | none => rfl
  | some c => cases c <;> rfl
 have v1 : (zaf asB Ydw : M Bool) G [] = .ok (ts.any fun t => (chkV ds t).isNone) [] := by
  rw [← an]
  exact zbn (binP rfl rfl ni)
 rcases allC_found (ds := ds) (ts := ts) with ⟨cs, h1, h2⟩ | ⟨h1, t, ht, h2⟩
 ·have nn : (ts.any fun t => (chkV ds t).isNone) = false := by
   rw [← an, show Fd = cs.map chkT from h2, List.any_map]
   exact List.any_eq_false.mpr fun d _ => by show ¬ Mir.eqT (chkT d) .non = true; cases d <;> simp [chkT, Mir.eqT]
  rw [nn] at v1
  have cl : cs.length ≤ 63 := by
   have := congrArg List.length h2
   rw [List.length_map, List.length_map] at this
   have := h63 cs h1
   omega
  have vv : (mVar 2 : M W) G [] = .ok (.t (.lst (cs.map chkT))) [] := by
   rw [← h2]
   rfl
  obtain ⟨n, en, in_⟩ := lensetT_iff (F := mVar 2) (eta := G) (hp := []) (h1 := []) (cs := cs) vv cl
  have v2 : (zaf asB (mBin Yah (mLenSetGr (mVar 2)) (mApp oLen Ym)) : M Bool) G [] = .ok (!decide (cs.Nodup)) [] := by
   refine zbn (binP en (zcn (a := .t (.lst (cs.map chkT))) vv Yf5) (ev_eqi.trans ?_))
   have : decide (((n : Nat) : Int) = (cs.length : Nat)) = decide cs.Nodup := by rw [decide_eq_decide, ← in_]; omega
   simp only [if_true, this]
  have e : chksV ds ts = if cs.Nodup then some cs else none := by
   unfold chksV
   rw [h1]
  rw [e]
  refine za8 (za7 (orE v1 fun _ => v2) (fun c => vc_c ⟨_, rfl, ?_, rfl⟩) fun c => ?_)
  ·rw [if_neg (by simpa using c)]
   rfl
  ·rw [if_pos (by simpa using c)]
   exact zck (zat (Wp.of vv (zbz (Wp.of (oTup_sq (b := false)) ⟨_, rfl, rfl, rfl⟩))))
 ·have nn : (ts.any fun t => (chkV ds t).isNone) = true := List.any_eq_true.mpr ⟨t, ht, by rw [h2]; rfl⟩
  rw [nn] at v1
  have e : chksV ds ts = none := by
   unfold chksV
   rw [h1]
  rw [e]
  exact za8 (za7 (b := true) (orE (a := true) (b := true) v1 fun z => by cases z) (fun c => vc_c ⟨_, rfl, rfl, rfl⟩) fun c => by cases c)
theorem tests_no (h : plnT v = true) (hn : seqB v = false) : zbm [.t v, .t Yi] hp = .ok Yar hp := by
 refine wpV ?_
 refine vc_fnP (ts := [v, .tup Ycg]) (eta := [some (.t v), some (.t Yi), none, none]) rfl rfl ?_
 unfold B_tests_in
 have u1 : (mNot Yca : M Bool) [some (.t v), some (.t Yi), none, none] [] = .ok true [] := notE (a := false) (by rw [zcq, zal (ws := [.t v]) rfl (isseq_T h), hn]; rfl)
 exact zao Yd9
end
section
open TL
variable {hp : IH} {nm st v : T} {s : Str} {i : Nat} {ts : List T} {ds : List Deed} {n : Str}
structure StOk (st : T) : Prop where
 p : plnT st = true
 s : ∀ ts, (st = .lst ts ∨ st = .tup ts) → (∀ t ∈ ts, StepOk t) ∧ ts.length ≤ 1000
 n : ∀ ts, st ≠ .scr ts ∧ st ≠ .pr ts
end
section
open TL
variable {hp : IH} {nm st ck v : T} {s : Str} {i : Nat} {ts : List T} {ds : List Deed} {n : Str}
def kdR (st : T) : Option (List Deed) := match st with
 | .lst ts => zcz "read" ["look"] ts
 | .tup ts => zcz "read" ["look"] ts
 | _ => none
def hasR (ds : List Deed) : Bool := decide (("read" : Str) ∈ ds.map (·.1))
def ckR (ds : List Deed) (ck : T) : Option (List Chk) := match ck with
 | .lst ts => chksV ds ts
 | .tup ts => chksV ds ts
 | _ => none
structure CkOk (ds : List Deed) (ck : T) : Prop extends StOk ck where
 m : ∀ ts, (ck = .lst ts ∨ ck = .tup ts) → ∀ cs, allC ds ts = some cs → ts.length ≤ 63
theorem sk_addR (h : zcz "read" ["look"] ts = some ds) : ts = ds.map (fun d => T.str (dTx d)) ∧ (∀ d ∈ ds, DOk wR d) ∧ (wrN "read" ds).Nodup := by
 unfold zcz at h
 split at h
 ·rename_i ds' h1
  split at h
  ·rename_i nd
   cases h
   obtain ⟨e, ok⟩ := allD_some h1
   refine ⟨e, fun d hd => ?_, nd⟩
   obtain ⟨a, b⟩ := ok d hd
   refine ⟨a, ?_, nam_of b⟩
   simp only [List.mem_cons, List.not_mem_nil, or_false] at a
   rcases a with a | a <;> rw [a]
   ·exact wrd_read
   ·exact wrd_look
  ·cases h
 ·cases h
def eRdr (w : Str) : Ex := ⟨"InvalidReader", [("word", .t (.str w))]⟩
theorem deeds_stR (h : StOk st) : zbi [.t st, .t (.tup (wR.map T.str))] hp = .ok (.t (dsT (kdR st))) hp := by
 cases st with
 | lst ts => exact deeds_L (b := false) (h.s ts (.inl rfl)).1 (h.s ts (.inl rfl)).2
 | tup ts => exact deeds_L (b := true) (h.s ts (.inr rfl)).1 (h.s ts (.inr rfl)).2
 | scr ts => exact absurd rfl (h.n ts).1
 | pr ts => exact absurd rfl (h.n ts).2
 | _ => exact deeds_no h.p rfl
theorem tests_ck (h : CkOk ds ck) (dl : ds.length ≤ 1000) : zbm [.t ck, .t Yi] hp = .ok (.t (csT (ckR ds ck))) hp := by
 cases ck with
 | lst ts => exact tests_L (b := false) (h.s ts (.inl rfl)).1 (h.s ts (.inl rfl)).2 (h.m ts (.inl rfl)) dl
 | tup ts => exact tests_L (b := true) (h.s ts (.inr rfl)).1 (h.s ts (.inr rfl)).2 (h.m ts (.inr rfl)) dl
 | scr ts => exact absurd rfl (h.n ts).1
 | pr ts => exact absurd rfl (h.n ts).2
 | _ => exact tests_no h.p rfl
def rdrW (nm st ck : T) : Option Str := if nmT nm = true then (match kdR st with | none => some "steps" | some ds => if hasR ds = true then (match ckR ds ck with | none => some "checks" | some _ => none) else some "steps") else some "name"
theorem kdR_len (h : StOk st) (e : kdR st = some ds) : ds.length ≤ 1000 := by
 cases st with
 | lst ts =>
  have := congrArg List.length (sk_addR (ts := ts) e).1
  rw [List.length_map] at this
  have := (h.s ts (.inl rfl)).2
  omega
 | tup ts =>
  have := congrArg List.length (sk_addR (ts := ts) e).1
  rw [List.length_map] at this
  have := (h.s ts (.inr rfl)).2
  omega
 | _ => cases e
theorem rinit_bad {w : Str} (h : plnT nm = true) (hl : ∀ x, nm = .str x → x.length ≤ 1000000) (hs : StOk st) (hc : ∀ ds, kdR st = some ds → CkOk ds ck) (hw : rdrW nm st ck = some w) : za2 [.r i, .t nm, .t st, .t ck] hp = .er (eRdr w) [] hp := by
 have : Wq (za2 [.r i, .t nm, .t st, .t ck] hp) (fun _ _ => False) fun e eta h => e = eRdr w ∧ eta = [] ∧ h = hp := by
  let E : Option W → Option W → IS := fun w4 w5 => [some (.r i), some (.t nm), some (.t st), some (.t ck), w4, w5, none, none]
  refine wq_fnX (eta := E none none) rfl rfl ?_
  unfold zc6
  have u : (mNot (zaf truW (zan zbb [] Yr)) : M Bool) (E none none) hp = .ok (!nmT nm) hp := notE (by rw [zcq, zal (ws := [.t nm]) rfl (isname_T h fun x e => Nat.le_trans (hl x e) Ybd)]; rfl)
  unfold rdrW at hw
  by_cases hn : nmT nm = true
  ·rw [if_pos hn] at hw
   rw [hn] at u
   refine wq_seq (wq_if u Ydm fun _ => Wq.eqOk rfl (wq_nx ?_))
   have c : (zan zbi [] Yd7 : M W) (E none none) hp = .ok (.t (dsT (kdR st))) hp := zal (ws := [.t st, .t (.tup (wR.map T.str))]) rfl (deeds_stR hs)
   refine wq_seq (wq_set (Wq.eqOk c (wq_nx ?_)))
   cases hk : kdR st with
   | none =>
    rw [hk] at hw
    cases hw
    exact wq_seq (wq_if (b := true) (orE (a := true) (b := true) rfl fun z => by cases z) Ycc fun z => by cases z)
   | some ds =>
    rw [hk] at hw
    simp only at hw
    have dl := kdR_len hs hk
    let F : IS := E (some (.t Yi)) none
    show Wq ((mSeq _ _ : M Fl) F hp) _ _
    have c2 : zbq zaj (mSq (mVar 4)) (gT 2 Yd8) mYes zaw [6, 7] F hp = .ok (.t (.lst ((ds.map (·.1)).map T.str))) hp := by
     have q := comp_g (G := gT 2 Yd8) (U := mYes) (E := zaw) (eta := F) (hp := hp) (src := fun d : Deed => W.t (dTr d))
      (loc := fun d => [some (.r i), some (.t nm), some (.t st), some (.t ck), some (.t Yi), none, some (.t (.str d.1)), some (.t (.str d.2))]) (p := fun _ => true) (g := fun d => .str d.1) ds Yce Yce (fun _ _ _ => rfl)
     rw [filter_all] at q
     refine comp_ok (ws := (ds.map dTr).map W.t) (ys := (ds.map fun d => T.str d.1).map W.t) (h1 := hp) (h2 := hp) rfl Ya2 ?_ ?_
     ·rw [List.map_map]
      exact q
     ·rw [lst_ok Ya2, List.map_map]
      rfl
    have t2 : zaf asB Yaj F hp = .ok (!hasR ds) hp := zbn (binP rfl c2 (by rw [in_lstrs]; rfl))
    have o := orE (a := false) (show zaf asB (mBin Ydy (mVar 4) Yw) F hp = .ok false hp from rfl) fun _ => t2
    by_cases hr : hasR ds = true
    ·rw [if_pos hr] at hw
     rw [hr] at o
     refine wq_seq (wq_if o Ydm fun _ => Wq.eqOk rfl (wq_nx ?_))
     have c3 : (zan zbm [] (zab (mVar 3) Yes) : M W) F hp = .ok (.t (csT (ckR ds ck))) hp := zal (ws := [.t ck, .t Yi]) rfl (tests_ck (hc ds hk) dl)
     refine wq_seq (wq_set (Wq.eqOk c3 (wq_nx ?_)))
     cases hx : ckR ds ck with
     | some cs => rw [hx] at hw; cases hw
     | none =>
      rw [hx] at hw
      cases hw
      exact wq_seq (wq_if (b := true) rfl Ycc fun z => by cases z)
    ·rw [if_neg hr] at hw
     cases hw
     rw [Bool.eq_false_iff.mpr hr] at o
     exact wq_seq (wq_if o Ycc fun z => by cases z)
  ·rw [if_neg hn] at hw
   cases hw
   rw [Bool.eq_false_iff.mpr hn] at u
   exact wq_seq (wq_if u Ycc fun z => by cases z)
 rcases this.cases with ⟨_, _, _, z⟩ | ⟨e, eta, h, x, rfl, rfl, rfl⟩
 ·exact z.elim
 ·exact x
end
section
open TL
variable {i j : Nat} {hp : IH}
def anyS : List Str := ["", "a", "write a", "look c", "kind", "same 0 1", "abcde"]
def anyL : List T := [.non, .bl true, .bl false, .int 0, .int 1, .int 2, .int (-1), .int 1000000000000, .str "", .str "a", .str "write a", .str "look c", .str "kind", .str "same 0 1", .str "abcde", .tup [.str "c", .int 2]]
def anyB (t : T) : Bool := plnT t && (match t with | .str x => decide (x ∈ anyS) | _ => true)
/-- what comes out: no instance, no text but these -/
structure AnyT (t : T) : Prop where
 p : plnT t = true
 s : ∀ x, t = .str x → x ∈ anyS
 n : ∀ ts, t ≠ .scr ts ∧ t ≠ .pr ts
theorem anyL_ok : ∀ t ∈ anyL, AnyT t := fun t ht => by
 have hb : ∀ t ∈ anyL, anyB t = true := by decide +kernel
 have h := hb t ht
 unfold anyB at h
 rw [Bool.and_eq_true] at h
 refine ⟨h.1, fun x e => ?_, fun ts => ?_⟩
 ·subst e
  exact of_decide_eq_true h.2
 ·simp only [anyL, List.mem_cons, List.not_mem_nil, or_false] at ht
  rcases ht with rfl | rfl | rfl | rfl | rfl | rfl | rfl | rfl | rfl | rfl | rfl | rfl | rfl | rfl | rfl | rfl <;> exact ⟨(fun e => by cases e), (fun e => by cases e)⟩
theorem any_step {G : OpN} {k : Nat} (hG : ∀ hp, Deal i j hp → 0 < k → ∃ (t : T) (hp' : IH), AnyT t ∧ G [.r i, .t (.int ((k : Int) - 1))] hp = .ok (.t t) hp' ∧ Deal i j hp') (d : Deal i j hp) : ∃ (t : T) (hp' : IH), AnyT t ∧ S_w_any G [.r i, .t Yfj] hp = .ok (.t t) hp' ∧ Deal i j hp' := by
 suffices h : Wp (S_w_any G [.r i, .t Yfj] hp) fun w h => ∃ t : T, w = .t t ∧ AnyT t ∧ Deal i j h by
  obtain ⟨w, h1, e, t, rfl, a, d⟩ := h.ex
  exact ⟨t, h1, a, e, d⟩
 let E : Option W → Option W → Option W → Option W → IS := fun w2 w3 w4 w5 => [some (.r i), some (.t Yfj), w2, w3, w4, w5]
 refine vc_fnM (eta := E none none none none) rfl rfl ?_
 unfold B_w_any
 have t0 : (zaf asB (mBin iGt (mVar 1) Yd) : M Bool) (E none none none none) hp = .ok (decide ((0 : Int) < (k : Nat))) hp := zbn (binP rfl rfl ev_gt)
 obtain ⟨f, h1, e1, f0, f1, d1⟩ : ∃ (f : Int) (h1 : IH), (mIf (zaf asB (mBin iGt (mVar 1) (mC (.int 0)))) (zan za3 [] (zab (mVar 0) (zab (mC (.int 5)) (mNil)))) (mC (.int 9)) : M W) (E none none none none) hp = .ok (.t (.int f)) h1 ∧ (f < 2 → 0 < k) ∧ 0 ≤ f ∧ Deal i j h1 := by
  by_cases c : 0 < k
  ·obtain ⟨f, h1, e1, f0, f1, d1, _⟩ := draw_is (wide := 5) d Yc Yc
   refine ⟨f, h1, ?_, fun _ => c, f0, d1⟩
   rw [decide_eq_true (show (0 : Int) < (k : Nat) by omega)] at t0
   exact (if_yes t0).trans (zal (ws := [.r i, .t (.int 5)]) rfl e1)
  ·refine ⟨9, hp, ?_, fun h => by omega, by omega, d⟩
   rw [decide_eq_false (show ¬ (0 : Int) < (k : Nat) by omega)] at t0
   exact (if_no t0).trans rfl
 refine zao (zbe (Wp.of e1 (za6 ?_)))
 let F : Option W → Option W → Option W → IS := fun w3 w4 w5 => E (some (.t (.int f))) w3 w4 w5
 show Wp ((mSeq _ _ : M Fl) (F none none none) h1) _
 have t1 : (zaf asB (mBin wLt (mVar 2) (mC (.int 2))) : M Bool) (F none none none) h1 = .ok (decide (f < 2)) h1 := zbn (binP rfl rfl wLt_ii)
 refine zao (za7 t1 (fun c => ?_) fun _ => zbf (za6 ?_))
 ·have kp := f0 (of_decide_eq_true c)
  obtain ⟨n, h2, e2, n0, n1, d2, _⟩ := draw_is (wide := 3) d1 Yc Yc
  obtain ⟨m, rfl⟩ : ∃ m : Nat, n = (m : Int) := ⟨n.toNat, by omega⟩
  have cp : Wp ((zbq zaj Yeh (gN 5) mYes (f_w_any_c1 G) [5] : M W) (F none none none) h1) fun w h => ∃ ts : List T, w = .t Yd4 ∧ Deal i j h := by
   refine vc_comp (vc_src (zat (Wp.of (zal (ws := [.r i, .t (.int 3)]) rfl e2) (zbz (Wp.rw (rng_is (n := m) Yc) (Wp.ok ⟨by rw [List.length_map, List.length_range]; omega, ?_⟩))))))
   refine vc_compL (fun ws acc h => Deal i j h ∧ (∃ ts : List T, acc = ts.map W.t) ∧ acc.length + ws.length ≤ 10) ?_ _ _ _ _ ⟨d2, ⟨[], rfl⟩, by simp; omega⟩ ?_
   ·rintro w ws acc h ⟨d, ⟨ts, rfl⟩, l⟩
    refine ⟨_, rfl, vc_yes ?_⟩
    rw [if_pos rfl]
    obtain ⟨t, h', a, e, d'⟩ := hG h d kp
    refine Wp.of (zal (ws := [.r i, .t (.int ((k : Int) - 1))]) (zax rfl (zax (binP rfl rfl ev_sub) rfl)) e) ⟨d', ⟨ts ++ [t], by rw [List.map_append]; rfl⟩, ?_⟩
    rw [List.length_append, List.length_singleton]
    rw [List.length_cons] at l
    omega
   ·rintro r h ⟨d, ⟨ts, e⟩, l⟩
    have e : r = ts.map W.t := by simpa using e
    subst e
    have l : ts.length ≤ 10 := by simpa using l
    exact zct Yc ⟨ts, rfl, d⟩
  refine zao (zbe (cp.mono fun w h ⟨ts, e, d⟩ => ?_))
  subst e
  refine za6 (za8 ?_)
  have t2 : (zaf asB (mBin Ybu (mVar 2) Yd) : M Bool) (F (some Y3) none none) h = .ok (decide (f = 0)) h := zbn (binP rfl rfl (ev_eqi.trans rfl))
  refine za7 t2 (fun _ => zbw rfl (vc_rt ⟨_, rfl, .lst ts, rfl, ⟨rfl, (fun x e => by cases e), fun us => ⟨Ydn, Ydn⟩⟩, d⟩)) fun _ => ?_
  exact Wp.of (zcn (a := .t Yd4) rfl oTup_l) (vc_rt ⟨_, rfl, .tup ts, rfl, ⟨rfl, (fun x e => by cases e), fun us => ⟨Ydn, Ydn⟩⟩, d⟩)
 ·refine zao (zbe (Wp.of (a := .t (.lst (anyL.take 15))) (h := h1) rfl (za6 (za8 ?_))))
  obtain ⟨t, h2, ht, e2, d2, _⟩ := pick_is (ts := anyL) d1 Ybd Ybd
  exact Wp.of (zal (ws := [.r i, .t (.lst anyL)]) (h1 := h1) rfl e2) ⟨_, rfl, t, rfl, anyL_ok t ht, d2⟩
theorem any_is : ∀ {n k : Nat} {hp : IH}, k < n → Deal i j hp → ∃ (t : T) (hp' : IH), AnyT t ∧ recN S_w_any n [.r i, .t Yfj] hp = .ok (.t t) hp' ∧ Deal i j hp'
 | n + 1, k, hp, h, d => any_step (G := recN S_w_any n) (fun hp d kp => by
   have e : ((k : Int) - 1) = ((k - 1 : Nat) : Int) := by omega
   rw [e]
   exact any_is (n := n) Yc d) d
end
section
open TL
variable {hp : IH} {i j : Nat} {nm st : T} {n : Str} {ds : List Deed}
theorem allD_mem {ws : List Str} {t : T} : ∀ {ts : List T}, t ∈ ts → zbp ws t = none → allD ws ts = none
 | u :: r, h, e => by
  rcases List.mem_cons.mp h with rfl | h
  ·simp only [allD, e]
  ·have := allD_mem (ws := ws) h e
   simp only [allD, this]
   cases zbp ws u <;> rfl
theorem stOk_sq {b : Bool} {ts : List T} (h : ∀ t ∈ ts, StepOk t) (l : ts.length ≤ 1000) : StOk Ycr where
 p := by cases b <;> rfl
 s := fun us e => by
  have : us = ts := by cases b <;> rcases e with e | e <;> first | cases e; rfl | cases e
  subst this
  exact ⟨h, l⟩
 n := fun us => by cases b <;> exact ⟨Ydn, Ydn⟩
theorem stOk_pl {t : T} (h : plnT t = true) (n : seqB t = false) : StOk t where
 p := h
 s := fun us e => by rcases e with e | e <;> rw [e] at n <;> cases n
 n := fun us => ⟨(fun e => by rw [e] at n; cases n), (fun e => by rw [e] at n; cases n)⟩
def stB (t : T) : Bool := plnT t && (match t with | .str x => decide (x.length ≤ 1000000) | _ => true)
theorem zc4 {t : T} (h : stB t = true) : StepOk t := by
 unfold stB at h
 rw [Bool.and_eq_true] at h
 refine ⟨h.1, fun x e => ?_⟩
 subst e
 exact of_decide_eq_true h.2
end
section
open TL
variable {hp h : IH} {i j : Nat} {nm st ck : T} {n : Str} {ds : List Deed} {cs : List Chk}
def hRd (nm st ck : T) : T := match rdrW nm st ck with | none => .non | some w => .str w
theorem zb7 (h : plnT nm = true) (hl : ∀ x, nm = .str x → x.length ≤ 1000000) (hs : StOk st) (hc : ∀ ds, CkOk ds ck) : zam [.t nm, .t st, .t ck] hp = .ok (.t (hRd nm st ck)) hp := by
 refine wpV ?_
 let E : Option W → Option W → IS := fun w3 w4 => [some (.t nm), some (.t st), some (.t ck), w3, w4]
 refine vc_fnP (ts := [nm, st, ck]) (eta := E none none) rfl rfl ?_
 unfold B_w_heard
 refine zao (zbe (vc_c (za6 (zao (Wq.wp (wq_tryAs ?_))))))
 let F : IS := E (some Yar) none
 show Wq (zcp F []) _ _
 unfold zcp
 have a : (zab (mVar 0) (zab (mVar 1) Ym) : M (List W)) F [] = .ok [.t nm, .t st, .t ck] [] := rfl
 cases hw : rdrW nm st ck with
 | some w =>
  have e : hRd nm st ck = .str w := by unfold hRd; rw [hw]
  refine wq_drop (wq_frzI (wq_makeX a (Wq.eqEr (rinit_bad h hl hs (fun ds _ => hc ds) hw) ?_)))
  refine wq_cls rfl rfl Yas ?_
  unfold f_w_heard_l2
  refine zao (zbe (Wp.of (a := .t (.str w)) rfl (za6 (zbf ?_))))
  refine za6 (za8 (zbw rfl ⟨_, rfl, ?_, rfl⟩))
  rw [e]
 | none =>
  have e : hRd nm st ck = .non := by unfold hRd; rw [hw]
  unfold rdrW at hw
  split at hw
  ·rename_i hn
   split at hw
   ·cases hw
   ·rename_i ds hk
    split at hw
    ·rename_i hr
     split at hw
     ·cases hw
     ·rename_i cs hx
      obtain ⟨x, rfl⟩ : ∃ x, nm = .str x := by
       cases nm <;> first | exact ⟨_, rfl⟩ | (simp [nmT] at hn)
      have dl := kdR_len hs hk
      obtain ⟨b, ts, rfl, hk'⟩ : ∃ (b : Bool) (ts : List T), st = sqT b ts ∧ zcz "read" ["look"] ts = some ds := by
       cases st with
       | lst ts => exact ⟨false, ts, rfl, hk⟩
       | tup ts => exact ⟨true, ts, rfl, hk⟩
       | _ => cases hk
      obtain ⟨bc, us, rfl, hx'⟩ : ∃ (b : Bool) (us : List T), ck = sqT b us ∧ chksV ds us = some cs := by
       cases ck with
       | lst us => exact ⟨false, us, rfl, hx⟩
       | tup us => exact ⟨true, us, rfl, hx⟩
       | _ => cases hx
      obtain ⟨e1, ok, nd⟩ := sk_addR hk'
      have R0 : ROk x ds := ⟨nam_of hn, ok, nd, dl, by
       obtain ⟨d, hd, e⟩ := List.mem_map.mp (of_decide_eq_true hr)
       exact ⟨d, hd, e⟩⟩
      have e2 : us = (cs.map chkTx).map T.str := by
       unfold chksV at hx'
       split at hx'
       ·rename_i cs' ha
        split at hx'
        ·cases hx'
         rw [(allC_some ha).1, List.map_map]
         rfl
        ·cases hx'
       ·cases hx'
      subst e1 e2
      have m := rdr_made (b := b) (bc := bc) (cs := cs.map chkTx) (ts := cs.map chkT) R0 a fun hp => by
       have := tests_ck (hp := hp) (hc ds) dl
       rw [show ckR ds (sqT bc ((cs.map chkTx).map T.str)) = some cs from hx] at this
       exact this
      rw [e]
      have dr : (mDrop (mFrzI Yco) : M Fl) F [] = .ok (.nx F) [none] := by
       show ((mFrzI Yco F []).bind _ : Res Fl) = _
       rw [m]
       rfl
      exact Wq.eqOk dr (za6 (za8 (zbw rfl ⟨_, rfl, rfl, rfl⟩)))
    ·cases hw
  ·cases hw
theorem hRd_name (h : nmT nm = false) : hRd nm st ck = .str "name" := by
 unfold hRd rdrW
 rw [if_neg (by rw [h]; simp)]
/-- steps that are no steps; checks that are none -/
structure BadR (st : T) : Prop where
 o : StOk st
 k : ∀ ds, kdR st = some ds → hasR ds = false
theorem hRd_steps (hn : nmT nm = true) (h : BadR st) : hRd nm st ck = .str "steps" := by
 unfold hRd rdrW
 rw [if_pos hn]
 cases e : kdR st with
 | none => rfl
 | some ds =>
  simp only
  rw [if_neg (by rw [h.k ds e]; simp)]
structure BadC (ds : List Deed) (ck : T) : Prop where
 o : ∀ ds, CkOk ds ck
 k : ckR ds ck = none
theorem hRd_checks (hn : nmT nm = true) (k : kdR st = some ds) (hr : hasR ds = true) (h : BadC ds ck) : hRd nm st ck = .str "checks" := by
 unfold hRd rdrW
 rw [if_pos hn, k]
 simp only
 rw [if_pos hr, h.k]
theorem hRd_good (hn : nmT nm = true) (k : kdR st = some ds) (hr : hasR ds = true) (c : ckR ds ck = some cs) : hRd nm st ck = .non := by
 unfold hRd rdrW
 rw [if_pos hn, k]
 simp only
 rw [if_pos hr, c]
theorem ckOk_sq {b : Bool} {ts : List T} (h : ∀ t ∈ ts, StepOk t) (l : ts.length ≤ 63) : ∀ ds, CkOk ds Ycr := fun ds => by
 refine ⟨stOk_sq h Yc, fun us e cs _ => ?_⟩
 have : us = ts := by cases b <;> rcases e with e | e <;> first | cases e; rfl | cases e
 rw [this]
 exact l
theorem ckOk_pl {t : T} (h : plnT t = true) (n : seqB t = false) : ∀ ds, CkOk ds t := fun ds => ⟨stOk_pl h n, fun us e cs _ => by rcases e with e | e <;> rw [e] at n <;> cases n⟩
theorem kdR_no {b : Bool} {ts : List T} {t : T} (h : t ∈ ts) (e : zbp wR t = none) : kdR Ycr = none := by
 have : zcz "read" ["look"] ts = none := by
  unfold zcz
  rw [show allD ["read", "look"] ts = none from allD_mem h e]
 cases b <;> exact this
theorem allC_mem {t : T} : ∀ {ts : List T}, t ∈ ts → chkV ds t = none → allC ds ts = none
 | u :: r, h, e => by
  rcases List.mem_cons.mp h with rfl | h
  ·simp only [allC, e]
  ·have := allC_mem h e
   simp only [allC, this]
   cases chkV ds u <;> rfl
theorem ckR_no {b : Bool} {ts : List T} {t : T} (h : t ∈ ts) (e : chkV ds t = none) : ckR ds Ycr = none := by
 have : chksV ds ts = none := by
  unfold chksV
  rw [allC_mem h e]
 cases b <;> exact this
def gds : List Deed := [("look", "c"), ("read", "a"), ("look", "c"), ("look", "e"), ("read", "b")]
def G5 : List T := [.str "look c", .str "read a", .str "look c", .str "look e", .str "read b"]
theorem G5_ok : ∀ t ∈ G5, stB t = true := by decide +kernel
theorem G5_k : kdR Ydu = some gds ∧ kdR (.tup G5) = some gds ∧ hasR gds = true := by decide +kernel
def oddS : List T := [.str "read", .str "read  a", .str "read a ", .str "Read a", .str "look", .str "bump c", .str "write a", .str "read abcde", .str "look A", .str "read kind", .str "", .str "look same", .str "read a b", .non, .int 3, .bl true, .tup [.str "read", .str "a"], .lst [.str "read a"], .str "read 1", .str "look if"]
theorem oddS_ok : ∀ t ∈ oddS, stB t = true ∧ zbp wR t = none := by decide +kernel
def oddC : List T := [.str "same 0 1", .str "same 2 0", .str "same 0 0", .str "same 0 3", .str "even 1", .str "even 5", .str "even", .str "same 0", .str "even 0 2", .str "same 0 02", .str "even -1", .str "even x", .str "Same 0 2", .str "even  0", .str "even 0 ", .str "", .str "odd 0", .str "same 0 2 3", .str "even 00", .non, .int 0, .bl true, .tup [.str "even", .int 0], .lst [.str "even 0"], .str "same 0 9999999999"]
theorem oddC_ok : ∀ t ∈ oddC, stB t = true ∧ chkV gds t = none := by decide +kernel
/-- a row with one more put in -/
theorem put_one {E : IS} {xs : List T} {n : Nat} {o : T} {h1 h2 : IH} {F : M W} (e1 : E[1]? = some (some (.t Yby))) (e3 : E[3]? = some (some Yap)) (xl : xs.length ≤ 50) (p : F E h1 = .ok (.t o) h2) : ∃ ys : List T, ys.length ≤ 2 * xs.length + 1 ∧ o ∈ ys ∧ (∀ y ∈ ys, y = o ∨ y ∈ xs) ∧
  (mBin wAdd (mBin wAdd (mSl (mVar 1) zbc (zca (mVar 3))) (mApp zaj (zab F (mNil)))) (mSl (mVar 1) (zca (mVar 3)) zbc) : M W) E h1 = .ok (.t (.lst ys)) h2 := by
 let A : List T := cutL xs none (some (n : Int))
 let B : List T := cutL xs (some (n : Int)) none
 have al : A.length ≤ xs.length := cutL_len _ _ _
 have bl : B.length ≤ xs.length := cutL_len _ _ _
 have p2 : (mApp zaj (zab F (mNil)) : M W) E h1 = .ok (.t (.lst [o])) h2 := wpV (zck (zat (Wp.of p (zbz (zct (ts := [o]) Yas ⟨rfl, rfl⟩)))))
 have s1 : (mSl (mVar 1) zbc (zca (mVar 3)) : M W) E h1 = .ok (.t (.lst A)) h1 := wpV (vc_sl (zbw e1 (vc_noPart (vc_part (zbw e3 ⟨_, rfl, vc_slWl ⟨rfl, rfl⟩⟩)))))
 have s2 : (mSl (mVar 1) (zca (mVar 3)) zbc : M W) E h2 = .ok (.t (.lst B)) h2 := wpV (vc_sl (zbw e1 (vc_part (zbw e3 ⟨_, rfl, vc_noPart (vc_slWl ⟨rfl, rfl⟩)⟩))))
 refine ⟨A ++ [o] ++ B, by simp; omega, by simp, fun y hy => ?_, wpV (vc_bin (vc_bin (Wp.of s1 (Wp.of p2 (vc_addL (xs := A) (ys := [o]) rfl rfl Ya2 (Wp.of s2 (vc_addL (xs := A ++ [o]) (ys := B) rfl rfl Ya2 ⟨rfl, rfl⟩)))))))⟩
 simp only [List.append_assoc, List.mem_append, List.mem_singleton] at hy
 rcases hy with hy | hy | hy
 ·exact .inr (List.mem_of_mem_drop (List.mem_of_mem_take hy))
 ·exact .inl hy
 ·exact .inr (List.mem_of_mem_drop (List.mem_of_mem_take hy))
theorem bent_steps_is (d : Deal i j hp) : ∃ (st : T) (hp' : IH), BadR st ∧ zau [.r i, .t Ydu] hp = .ok (.t st) hp' ∧ Deal i j hp' := by
 suffices h : Wp (zau [.r i, .t Ydu] hp) fun w h => ∃ st : T, w = .t st ∧ BadR st ∧ Deal i j h by
  obtain ⟨w, h1, e, t, rfl, a, d⟩ := h.ex
  exact ⟨t, h1, a, e, d⟩
 let S : Option W := some (.t Ydu)
 let E : Option W → Option W → Option W → IS := fun w2 w3 w4 => [some (.r i), S, w2, w3, w4]
 refine vc_fnM (eta := E none none none) rfl rfl ?_
 unfold B_w_bent_steps
 refine zao (zbe (Wp.of (a := .t (.lst (oddS.take 11))) (h := hp) rfl (za6 ?_)))
 obtain ⟨q, h1, e1, q0, q1, d1, _⟩ := draw_is (wide := 6) d Yc Yc
 refine zao (zbe (Wp.of (zal (ws := [.r i, .t (.int 6)]) rfl e1) (za6 ?_)))
 obtain ⟨n, rfl⟩ : ∃ n : Nat, q = (n : Int) := ⟨q.toNat, by omega⟩
 refine zao (zbe (Wp.of (a := .t (.lst oddS)) (h := h1) rfl (za6 ?_)))
 let O : Option W := some (.t (.lst oddS))
 let Q : Option W := some Yap
 show Wp ((mSeq _ _ : M Fl) (E O Q none) h1) _
 obtain ⟨o, h2, ho, e2, d2, _⟩ := pick_is (ts := oddS) d1 Ybd Ybd
 obtain ⟨ob, on⟩ := oddS_ok o ho
 obtain ⟨ys, yl, yo, ym, s3⟩ := put_one (E := E O Q none) (xs := G5) (n := n) (o := o) (F := zan za0 [] (zab (mVar 0) Ym)) (h1 := h1) (h2 := h2) rfl rfl Ybd (zal (ws := [.r i, .t (.lst oddS)]) rfl e2)
 have s4 : (mBin wAdd (mVar 1) (mApp zaj (zab (mC (.str "read q")) (zab (mC (.str "read q")) (mNil)))) : M W) (E O Q none) h2 = .ok (.t (.lst Ycv)) h2 := rfl
 let X : List T := [.lst ys, .lst Ycv, .lst [.str "look c"]]
 have b1 : BadR (.lst ys) := ⟨stOk_sq (b := false) (fun t ht => by
  rcases ym t ht with rfl | ht
  ·exact zc4 ob
  ·exact zc4 (G5_ok t ht)) (by have : G5.length = 5 := rfl; omega), fun ds e => by
  have z : kdR (.lst ys) = none := kdR_no (b := false) yo on
  rw [z] at e
  cases e⟩
 have all : ∀ ts : List T, (ts.all stB) = true → ts.length ≤ 1000 → StOk Yd4 := fun ts a l => stOk_sq (b := false) Ybz l
 have b2 : BadR (.lst Ycv) := ⟨all _ Yv Ybd, fun ds e => by
  have : kdR (.lst Ycv) = none := by decide +kernel
  rw [this] at e
  cases e⟩
 have b3 : BadR (.lst [.str "look c"]) := ⟨all _ Yv Ybd, fun ds e => by
  have : kdR (.lst [.str "look c"]) = some [(("look", "c") : Deed)] := by decide +kernel
  rw [this] at e
  cases e
  decide +kernel⟩
 have s5 : (mApp zaj (zab Yh Yba) : M W) (E O Q none) h1 = .ok (.t (.lst X)) h2 := wpV (zck (zat (Wp.of s3 (zat (Wp.of s4 (zat (Wp.of (a := .t (.lst [.str "look c"])) (h := h2) rfl (zbz (vc_lstE (ts := X) rfl Yas ⟨rfl, rfl⟩)))))))))
 refine zao (zbe (Wp.of s5 (za6 ?_)))
 let F : IS := E O Q (some (.t (.lst X)))
 show Wp ((mRet _ : M Fl) F h2) _
 let P6 : List T := [.non, .str "read a", .int 3, .tup [], .lst [], .str "look c"]
 have b6 : ∀ t ∈ P6, BadR t := fun t ht => by
  simp only [P6, List.mem_cons, List.not_mem_nil, or_false] at ht
  rcases ht with rfl | rfl | rfl | rfl | rfl | rfl
  ·exact ⟨stOk_pl rfl rfl, fun ds e => by cases e⟩
  ·exact ⟨stOk_pl rfl rfl, fun ds e => by cases e⟩
  ·exact ⟨stOk_pl rfl rfl, fun ds e => by cases e⟩
  ·exact ⟨stOk_sq (b := true) (ts := []) Yav Yav, fun ds e => by cases e; rfl⟩
  ·exact ⟨stOk_sq (b := false) (ts := []) Yav Yav, fun ds e => by cases e; rfl⟩
  ·exact ⟨stOk_pl rfl rfl, fun ds e => by cases e⟩
 obtain ⟨u, h3, hu, e3, d3, _⟩ := pick_is (ts := P6) d2 (Nat.succ_pos _) (show 6 < 2 ^ 60 by decide)
 obtain ⟨st, h4, hst, e4, d4, _⟩ := pick_is (ts := X ++ [u]) d3 Yav (show 4 < 2 ^ 60 by decide)
 have x1 : (mApp zaj (zab Yw (zab Yau (zab (mC (.int 3)) (zab (mApp zce (mNil)) (zab (mApp zaj (mNil)) (zab (mBin ixW (mVar 1) Yd) (mNil))))))) : M W) F h2 = .ok (.t (.lst P6)) h2 := rfl
 have x2 : (mApp zaj Ybe : M W) F h2 = .ok (.t (.lst [u])) h3 := wpV (zck (zat (Wp.of (zal (ws := [.r i, .t (.lst P6)]) (zax rfl (zax x1 rfl)) e3) (zbz (zct (ts := [u]) Yas ⟨rfl, rfl⟩)))))
 have x3 : (mBin wAdd (mVar 4) (mApp zaj Ybe) : M W) F h2 = .ok (.t (.lst (X ++ [u]))) h3 := wpV (vc_bin (zbw (w := .t (.lst X)) rfl (Wp.of x2 (vc_addL (xs := X) (ys := [u]) rfl rfl (show 3 + 1 ≤ _ by decide) ⟨rfl, rfl⟩))))
 refine za8 (Wp.of (zal (ws := [.r i, .t (.lst (X ++ [u]))]) (zax rfl (zax x3 rfl)) e4) ⟨_, rfl, st, rfl, ?_, d4⟩)
 simp only [X, List.cons_append, List.nil_append, List.mem_cons, List.not_mem_nil, or_false] at hst
 rcases hst with rfl | rfl | rfl | rfl
 ·exact b1
 ·exact b2
 ·exact b3
 ·exact b6 _ hu
/-- a drawn row of good checks -/
def gcs : List T := [.str "same 0 2", .str "even 0", .str "even 3"]
theorem gcs_ok : ∀ t ∈ gcs, stB t = true := by decide +kernel
theorem zcv {xs : List T} (d : Deal i j hp) (xl : xs.length ≤ 3) (xm : ∀ x ∈ xs, x ∈ gcs) : ∃ (ck : T) (hp' : IH), BadC gds ck ∧ zaq [.r i, .t Yby] hp = .ok (.t ck) hp' ∧ Deal i j hp' := by
 suffices h : Wp (zaq [.r i, .t Yby] hp) fun w h => ∃ st : T, w = .t st ∧ BadC gds st ∧ Deal i j h by
  obtain ⟨w, h1, e, t, rfl, a, d⟩ := h.ex
  exact ⟨t, h1, a, e, d⟩
 let S : Option W := some (.t Yby)
 let E : Option W → Option W → Option W → IS := fun w2 w3 w4 => [some (.r i), S, w2, w3, w4]
 refine vc_fnM (eta := E none none none) rfl rfl ?_
 unfold B_w_bent_checks
 refine zao (zbe (Wp.of (a := .t (.lst (oddC.take 9))) (h := hp) rfl (za6 ?_)))
 refine zao (zbe (Wp.of (a := .t (.lst (oddC.take 18))) (h := hp) rfl (za6 ?_)))
 refine zao (zbe (Wp.of (a := .t (.lst oddC)) (h := hp) rfl (za6 ?_)))
 let O : Option W := some (.t (.lst oddC))
 show Wp ((mSeq _ _ : M Fl) (E O none none) hp) _
 obtain ⟨q, h1, e1, q0, q1, d1, _⟩ := draw_is (wide := (xs.length : Int) + 1) d Yc Yc
 have ol : (mBin wAdd (mApp oLen Yr) Yj : M W) (E O none none) hp = .ok (.t (.int ((xs.length : Int) + 1))) hp := by
  rw [bin_ok (h1 := hp) (h2 := hp) (zcn (a := .t Yby) rfl oLen_l) (b := .t (.int 1)) rfl (r := .ok (.t (.int ((xs.length : Int) + 1))) hp) rfl]
 refine zao (zbe (Wp.of (zal (ws := [.r i, .t (.int ((xs.length : Int) + 1))]) (zax rfl (zax ol rfl)) e1) (za6 ?_)))
 obtain ⟨n, rfl⟩ : ∃ n : Nat, q = (n : Int) := ⟨q.toNat, by omega⟩
 let Q : Option W := some Yap
 show Wp ((mSeq _ _ : M Fl) (E O Q none) h1) _
 obtain ⟨o, h2, ho, e2, d2, _⟩ := pick_is (ts := oddC) d1 Ybd Ybd
 obtain ⟨ob, on⟩ := oddC_ok o ho
 obtain ⟨ys, yl, yo, ym, s3⟩ := put_one (E := E O Q none) (xs := xs) (n := n) (o := o) (F := zan za0 [] (zab (mVar 0) Ym)) (h1 := h1) (h2 := h2) rfl rfl Yc (zal (ws := [.r i, .t (.lst oddC)]) rfl e2)
 have s4 : (mBin wAdd (mVar 1) (mApp zaj (zab (mC (.str "even 2")) (zab (mC (.str "even 2")) (mNil)))) : M W) (E O Q none) h2 = .ok (.t (.lst Ye1)) h2 :=
  wpV (vc_bin (zbw (w := .t Yby) rfl (Wp.of (a := .t (.lst [.str "even 2", .str "even 2"])) rfl (vc_addL (xs := xs) (ys := [.str "even 2", .str "even 2"]) rfl rfl Ya2 ⟨rfl, rfl⟩))))
 let X : List T := [.lst ys, .lst Ye1, .non, .str "even 0", .int 3]
 have xo : ∀ x ∈ xs, StepOk x := fun x hx => zc4 (gcs_ok x (xm x hx))
 have yl2 : ys.length ≤ 63 := by omega
 have b1 : BadC gds (.lst ys) := ⟨ckOk_sq (b := false) (fun t ht => by
  rcases ym t ht with rfl | ht
  ·exact zc4 ob
  ·exact xo t ht) yl2, ckR_no (b := false) yo on⟩
 have b2 : BadC gds (.lst Ye1) := by
  refine ⟨ckOk_sq (b := false) (fun t ht => ?_) Ya2, ?_⟩
  ·rcases List.mem_append.mp ht with ht | ht
   ·exact xo t ht
   ·have : t = .str "even 2" := by simpa using ht
    rw [this]
    exact zc4 Yv
  ·show chksV gds _ = none
   unfold chksV
   cases e : allC gds (xs ++ [.str "even 2", .str "even 2"]) with
   | none => rfl
   | some cs =>
    simp only
    refine if_neg fun nd => ?_
    obtain ⟨e1, ok⟩ := allC_some e
    have e2 : (cs.map chkTx).map T.str = xs ++ [.str "even 2", .str "even 2"] := by rw [e1, List.map_map]; rfl
    have nd2 : ((cs.map chkTx).map T.str).Nodup := by
     rw [List.map_map]
     refine List.pairwise_map.mpr (List.Pairwise.imp_of_mem (fun {a b} ha hb ne e => ne ?_) nd)
     have e : chkTx a = chkTx b := by injection e
     have h1 := chkTx_S (ok a ha)
     rw [e, chkTx_S (ok b hb)] at h1
     exact (Option.some.inj h1).symm
    rw [e2] at nd2
    have := (List.nodup_append.mp nd2).2.1
    simp at this
 have s5 : (mApp zaj Ybm : M W) (E O Q none) h1 = .ok (.t (.lst X)) h2 := wpV (zck (zat (Wp.of s3 (zat (Wp.of s4 (zat (vc_c (zat (vc_c (zat (vc_c (zbz (vc_lstE (ts := X) rfl Yas ⟨rfl, rfl⟩)))))))))))))
 refine zao (zbe (Wp.of s5 (za6 ?_)))
 obtain ⟨st, h4, hst, e4, d4, _⟩ := pick_is (ts := X) d2 (Nat.succ_pos _) (show 5 < 2 ^ 60 by decide)
 refine za8 (Wp.of (zal (ws := [.r i, .t (.lst X)]) rfl e4) ⟨_, rfl, st, rfl, ?_, d4⟩)
 simp only [X, List.mem_cons, List.not_mem_nil, or_false] at hst
 rcases hst with rfl | rfl | rfl | rfl | rfl
 ·exact b1
 ·exact b2
 ·exact ⟨ckOk_pl rfl rfl, rfl⟩
 ·exact ⟨ckOk_pl rfl rfl, rfl⟩
 ·exact ⟨ckOk_pl rfl rfl, rfl⟩
end
section
open TL
variable {h : IH} {i j : Nat}
def odd12 : List T := [.str "kind", .str "if", .str "look", .str "", .str "abcde", .str "A", .non, .int 3, .bl true, .tup [.str "w"], .lst [.str "w"], .str "w "]
theorem odd12_ok : ∀ t ∈ odd12, stB t = true ∧ nmT t = false := by decide +kernel
theorem gcs_val : ∀ t ∈ gcs, (chkV gds t).isSome = true := by decide +kernel
theorem good_cs {xs : List T} (xm : ∀ x ∈ xs, x ∈ gcs) (nd : xs.Nodup) : ∃ cs, chksV gds xs = some cs := by
 have : ∀ xs : List T, (∀ x ∈ xs, x ∈ gcs) → ∃ cs, allC gds xs = some cs := fun xs => by
  induction xs with
  | nil => exact fun _ => ⟨[], rfl⟩
  | cons x r ih =>
   intro h
   obtain ⟨cs, e⟩ := ih fun y hy => h y (List.mem_cons_of_mem _ hy)
   obtain ⟨c, e2⟩ := Option.isSome_iff_exists.mp (gcs_val x (h x Yx))
   exact ⟨c :: cs, by simp only [allC, e, e2]⟩
 obtain ⟨cs, e⟩ := this xs xm
 refine ⟨cs, ?_⟩
 unfold chksV
 rw [e]
 refine if_pos ?_
 rw [(allC_some e).1] at nd
 exact (List.pairwise_map.mp nd).imp fun h e => h (by rw [e])
theorem any_badC {t : T} (a : AnyT t) : BadC gds (.lst [t]) := by
 have st : StepOk t := ⟨a.p, fun x e => by
  have m := a.s x e
  have : ∀ x ∈ anyS, x.length ≤ 1000000 := by decide +kernel
  exact this x m⟩
 refine ⟨ckOk_sq (b := false) (fun u hu => by rw [List.mem_singleton.mp hu]; exact st) Yav, ckR_no (b := false) (t := t) Yav ?_⟩
 cases t with
 | str x =>
  have all : ∀ x ∈ anyS, chkV gds (.str x) = none := by decide +kernel
  exact all x (a.s x rfl)
 | _ => rfl
def F06 (w0 w2 : Option W) (i : Nat) (w4 w5 w6 w7 : Option W) : IS := [w0, some (.t Ydu), w2, some (.r i), w4, w5, w6, w7]
theorem nodup_gcs : gcs.Nodup := by
 have d : (["same 0 2", "even 0", "even 3"] : List Str).Nodup := by decide +kernel
 show ((["same 0 2", "even 0", "even 3"] : List Str).map T.str).Nodup
 exact List.pairwise_map.mpr (d.imp fun h e => h (by injection e))
theorem turn06 (d : Deal i j h) {w0 w2 w4 w5 w6 w7 : Option W} :
  Wp (f_law_l1 (F06 w0 w2 i w4 w5 w6 w7) h) fun fl h' => ∃ w5 w6 w7, fl = .nx (F06 w0 w2 i w4 w5 w6 w7) ∧ Deal i j h' := by
 unfold f_law_l1
 let E := F06 w0 w2 i w4
 obtain ⟨n, h1, hn, e1, d1⟩ := titles_is d
 have nn : nmT (.str n) = true := nam_to (nam_ok (ttl_nam n hn))
 have nl : n.length ≤ 4 := (nam_ok (ttl_nam n hn)).ln
 have np : ∀ x, T.str n = .str x → x.length ≤ 1000000 := fun x e => by cases e; omega
 have tt : (mBin ixW (zan zcx [] (zab (mVar 3) (zab Yj (mNil)))) Yd : M W) (E w5 w6 w7) h = .ok Yf4 h1 := by
  rw [bin_ok (h1 := h1) (h2 := h1) (zal (ws := [.r i, .t (.int 1)]) rfl e1) rfl ev_ixl0]
 refine zao (zbe (Wp.of tt (za6 ?_)))
 let N : Option W := some Yf4
 show Wp ((mSeq _ _ : M Fl) (E N w6 w7) h1) _
 obtain ⟨zs, h2, pz, e2, d2, _⟩ := mixed_is (ts := gcs) d1 Ybd Yv
 obtain ⟨q, h3, e3, q0, q1, d3, _⟩ := draw_is (wide := 4) d2 Yc Yc
 obtain ⟨m, rfl⟩ : ∃ m : Nat, q = (m : Int) := ⟨q.toNat, by omega⟩
 let xs : List T := zs.take m
 have xl : xs.length ≤ 3 := by
  have a : xs.length ≤ zs.length := List.length_take_le' ..
  have b := pz.length_eq
  have c : gcs.length = 3 := rfl
  omega
 have xm : ∀ x ∈ xs, x ∈ gcs := fun x hx => pz.mem_iff.mp (List.mem_of_mem_take hx)
 have xn : xs.Nodup := ((pz.nodup_iff).mpr nodup_gcs).sublist (List.take_sublist _ _)
 have c6 : (mSl (zan zbx [] Y4) zbc Ygf : M W) (E N w6 w7) h1 = .ok (.t Yby) h3 := by
  have mx : (zan zbx [] Y4 : M W) (E N w6 w7) h1 = .ok (.t (.lst zs)) h2 := zal (ws := [.r i, .t (.lst gcs)]) rfl e2
  refine wpV (vc_sl (Wp.of mx (vc_noPart (vc_part (Wp.of (zal (ws := [.r i, .t (.int 4)]) rfl e3) ⟨_, rfl, vc_slWl ⟨?_, rfl⟩⟩)))))
  rw [cutL_to]
 refine zao (zbe (Wp.of c6 (za6 ?_)))
 let C : Option W := some (.t Yby)
 show Wp ((mSeq _ _ : M Fl) (E N C w7) h3) _
 obtain ⟨w, h4, hw, e4, d4, _⟩ := pick_is (ts := odd12) d3 Ybd Ybd
 obtain ⟨wb, wn⟩ := odd12_ok w hw
 have wS := zc4 wb
 refine zao (zbe (Wp.of (zal (ws := [.r i, .t (.lst odd12)]) (h1 := h3) rfl e4) (za6 ?_)))
 let G : IS := E N C (some (.t w))
 show Wp ((mSeq _ _ : M Fl) G h4) _
 obtain ⟨cs, ce⟩ := good_cs xm xn
 have gS : ∀ b, StOk (sqT b G5) := fun b => stOk_sq (fun t ht => zc4 (G5_ok t ht)) Ybd
 have cS : ∀ b ds, CkOk ds (sqT b xs) := fun b => ckOk_sq (fun x hx => zc4 (gcs_ok x (xm x hx))) Yc
 have hd1 : ∀ {h : IH}, zam [.t (.str n), .t Ydu, .t Yby] h = .ok Yar h := fun {h} => by
  rw [zb7 (st := .lst G5) (ck := .lst xs) rfl np (gS false) (cS false), hRd_good (st := .lst G5) (ck := .lst xs) nn G5_k.1 G5_k.2.2 ce]
 have hd2 : ∀ {h : IH}, zam [.t (.str n), .t (.tup G5), .t (.tup xs)] h = .ok Yar h := fun {h} => by
  rw [zb7 (st := .tup G5) (ck := .tup xs) rfl np (gS true) (cS true), hRd_good (st := .tup G5) (ck := .tup xs) nn G5_k.2.1 G5_k.2.2 ce]
 have tu1 : (mApp oTup Yr : M W) G h4 = .ok (.t (.tup G5)) h4 := zcn (a := .t Ydu) rfl oTup_l
 have tu2 : (mApp oTup (zab (mVar 6) (mNil)) : M W) G h4 = .ok (.t (.tup xs)) h4 := zcn (a := .t Yby) rfl oTup_l
 have t1 : (mOr Ydi Yb7 : M Bool) G h4 = .ok false h4 := orE (a := false) (b := false) (zbn (binP (a := .t .non) (zal (ws := [.t (.str n), .t Ydu, .t Yby]) rfl hd1) rfl rfl)) fun _ =>
  zbn (binP (a := .t .non) (zal (ws := [.t (.str n), .t (.tup G5), .t (.tup xs)]) (zax rfl (zax tu1 (zax tu2 rfl))) hd2) rfl rfl)
 refine zao (za7 t1 Ydm fun _ => zbf (za6 ?_))
 have bS : ∀ {h h' : IH} {s : T}, zau [.r i, .t Ydu] h = .ok (.t s) h' → (zan zau [] (zab (mVar 3) Yr) : M W) G h = .ok (.t s) h' := fun e => zal (ws := [.r i, .t Ydu]) rfl e
 have bC : ∀ {h h' : IH} {s : T}, zaq [.r i, .t Yby] h = .ok (.t s) h' → (zan zaq [] (zab (mVar 3) (zab (mVar 6) (mNil))) : M W) G h = .ok (.t s) h' := fun e => zal (ws := [.r i, .t Yby]) rfl e
 -- a wrong name
 obtain ⟨s1, h5, b1, e5, d5⟩ := bent_steps_is d4
 obtain ⟨k1, h6, c1, e6, d6⟩ := zcv d5 xl xm
 have n1 : zam [.t w, .t s1, .t k1] h6 = .ok (.t (.str "name")) h6 := by
  rw [zb7 wS.p wS.l b1.o c1.o, hRd_name wn]
 have t2 : (zaf asB Ygg : M Bool) G h4 = .ok false h6 := by
  show ((mBin _ _ _ : M W) G h4).bind _ = _
  rw [bin_ok (h1 := h6) (h2 := h6) (zal (ws := [.t w, .t s1, .t k1]) (zax rfl (zax (bS e5) (zax (bC e6) rfl))) n1) rfl Ybr]
  rfl
 refine zao (vc_if (Wp.of t2 (Wp.itf Ybd (zbf (za6 ?_)))))
 -- bent steps
 obtain ⟨s2, h7, b2, e7, d7⟩ := bent_steps_is d6
 obtain ⟨k2, h8, c2, e8, d8⟩ := zcv d7 xl xm
 have n2 : zam [.t (.str n), .t s2, .t k2] h8 = .ok (.t (.str "steps")) h8 := by
  rw [zb7 rfl np b2.o c2.o, hRd_steps nn b2]
 have t3 : (zaf asB Yf9 : M Bool) G h6 = .ok false h8 := by
  show ((mBin _ _ _ : M W) G h6).bind _ = _
  rw [bin_ok (h1 := h8) (h2 := h8) (zal (ws := [.t (.str n), .t s2, .t k2]) (zax rfl (zax (bS e7) (zax (bC e8) rfl))) n2) rfl Ybr]
  rfl
 refine zao (vc_if (Wp.of t3 (Wp.itf Ybd (zbf (za6 ?_)))))
 -- bent checks
 obtain ⟨k3, h9, c3, e9, d9⟩ := zcv d8 xl xm
 have n3 : ∀ {k : T} {h : IH}, BadC gds k → zam [.t (.str n), .t Ydu, .t k] h = .ok (.t (.str "checks")) h := fun {k h} c => by
  rw [zb7 (st := .lst G5) rfl np (gS false) c.o, hRd_checks nn G5_k.1 G5_k.2.2 c]
 have t4 : (zaf asB Ybx : M Bool) G h8 = .ok false h9 := by
  show ((mBin _ _ _ : M W) G h8).bind _ = _
  rw [bin_ok (h1 := h9) (h2 := h9) (zal (ws := [.t (.str n), .t Ydu, .t k3]) (zax rfl (zax rfl (zax (bC e9) rfl))) (n3 c3)) rfl Ybr]
  rfl
 refine zao (vc_if (Wp.of t4 (Wp.itf Ybd (zbf (za6 ?_)))))
 -- any value
 obtain ⟨t, h10, at_, e10, d10⟩ := any_is (n := 12) (k := 6) Ybd d9
 have an : (mApp zaj (zab (zan F_w_any [] (zab (mVar 3) (zab (mC (.int 6)) (mNil)))) (mNil)) : M W) G h9 = .ok (.t (.lst [t])) h10 := wpV (zck (zat (Wp.of (zal (ws := [.r i, .t (.int 6)]) rfl e10) (zbz (zct (ts := [t]) Yas ⟨rfl, rfl⟩)))))
 have t5 : (zaf asB Ybn : M Bool) G h9 = .ok false h10 := by
  show ((mBin _ _ _ : M W) G h9).bind _ = _
  rw [bin_ok (h1 := h10) (h2 := h10) (zal (ws := [.t (.str n), .t Ydu, .t (.lst [t])]) (zax rfl (zax rfl (zax an rfl))) (n3 (any_badC at_))) rfl Ybr]
  rfl
 refine zao (vc_if (Wp.of t5 (Wp.itf Ybd (zbf (za6 ?_)))))
 have so : ∀ ts : List T, (ts.all stB) = true → ts.length ≤ 1000 → StOk Yd4 := fun ts a l => stOk_sq (b := false) Ybz l
 have n6 : zam [.t (.str n), .t Ydg, .t Ygh] h10 = .ok (.t (.str "checks")) h10 := by
  have k : kdR Ydg = some [Ya1] ∧ hasR [Ya1] = true ∧ ckR [Ya1] Ygh = none := by decide +kernel
  have c : BadC [Ya1] Ygh := ⟨ckOk_sq (b := false) (fun x hx => by rw [List.mem_singleton.mp hx]; exact zc4 Yv) Ybd, k.2.2⟩
  rw [zb7 (st := .lst [.str "read a"]) rfl np (so _ Yv Ybd) c.o, hRd_checks nn k.1 k.2.1 c]
 have t6 : (zaf asB Ybs : M Bool) G h10 = .ok false h10 := zbn (binP (a := .t (.str "checks")) (zal (ws := [.t (.str n), .t Ydg, .t Ygh]) rfl n6) rfl Ybr)
 exact za7 t6 Ydm fun _ => zbf ⟨_, _, _, rfl, d10⟩
theorem law_is {ns : List Int} (hn : ns.length ≤ 63) : ∃ hp', F_law [.t Y9] [] = .ok (.t Ycq) hp' := by
 suffices h : Wp (F_law [.t Y9] []) fun w _ => w = .t Ycq by
  obtain ⟨w, h1, e, rfl⟩ := h.ex
  exact ⟨h1, e⟩
 refine vc_fnM (eta := some (.t Y9) :: List.replicate 7 none) rfl rfl ?_
 unfold B_law
 let P : Option W := some (.t Y9)
 have kl : ∀ {h : IH}, oLen [.t Y9] h = .ok (.t (.int (ns.length : Nat))) h := fun {h} => by simp only [oLen, items_s, List.length_map]
 obtain ⟨m, em, hm⟩ : ∃ m : Nat, (if (1 : Int) < (if ((ns.length : Nat) : Int) < 3 then ((ns.length : Nat) : Int) else 3) then (if ((ns.length : Nat) : Int) < 3 then ((ns.length : Nat) : Int) else 3) else 1) = (m : Int) ∧ m < 4 := by
  refine ⟨(if (1 : Int) < (if ((ns.length : Nat) : Int) < 3 then ((ns.length : Nat) : Int) else 3) then (if ((ns.length : Nat) : Int) < 3 then ((ns.length : Nat) : Int) else 3) else 1).toNat, ?_, ?_⟩
  all_goals split <;> split <;> omega
 refine zao (zbe (Wp.of (a := .t Ydu) (h := []) rfl (za6 ?_)))
 let O : Option W := some (.t Ydu)
 show Wp ((mSeq _ _ : M Fl) (P :: O :: List.replicate 6 none) []) _
 refine zao (vc_for (vc_src (zat (zck (zat (vc_c (zat (zck (zat (vc_c (zat (zck (zat (zbw rfl (zbz (Wp.rw kl (Wp.ok (zbz (Wp.rw oMin2_i (Wp.ok (zbz (Wp.rw oMax2_i (Wp.ok (zbz ?_))))))))))))))))))))))))
 rw [em]
 refine Wp.rw (rng_is (n := m) Yc) (Wp.ok ?_)
 refine vc_loop (G := gN 2) (S := f_law_l2) (fun ws eta h => (∃ ks : List Nat, ws = ks.map natW ∧ ∀ k ∈ ks, k < 10) ∧ ∃ r : IS, eta = P :: O :: r ∧ r.length = 6) ?_ _ _ _ ⟨⟨List.range m, rfl, fun k hk => by have := List.mem_range.mp hk; omega⟩, List.replicate 6 none, rfl, rfl⟩ ?_
 ·rintro w ws eta h ⟨⟨ks, ew, hk⟩, r, rfl, rl⟩
  cases ks with
  | nil => simp at ew
  | cons k ks =>
   rw [List.map_cons] at ew
   simp only [List.cons.injEq] at ew
   obtain ⟨rfl, rfl⟩ := ew
   match r, rl with
   | [w2, w3, w4, w5, w6, w7], _ =>
    refine ⟨_, rfl, ?_⟩
    unfold f_law_l2
    have kb := hk k Yx
    obtain ⟨a, h1, e1, d1, _⟩ := deal_is (hp := h) (b := (k : Int)) hn ⟨by omega, by omega⟩
    have ek : natW k = W.t Yfj := by unfold natW; rw [Int.zero_add]
    rw [ek]
    refine zao (zbe (vc_call (zat (zbw rfl (zat (zbw rfl (zbz (Wp.of e1 (za6 ?_)))))))))
    refine vc_for (vc_src (zat (vc_c (zbz (Wp.rw (rng_is (n := 6) Yc) (Wp.ok ?_))))))
    refine vc_loop (G := gN 4) (S := f_law_l1) (fun ws eta h => Deal a (a - 1) h ∧ ∃ w4 w5 w6 w7, eta = F06 P (some (.t Yfj)) a w4 w5 w6 w7) ?_ _ _ _ ⟨d1, _, _, _, _, rfl⟩ ?_
    ·rintro w ws eta h ⟨d, w4, w5, w6, w7, rfl⟩
     exact ⟨_, rfl, (turn06 d (w4 := some w)).mono fun fl h2 ⟨w5, w6, w7, e, d2⟩ => ⟨_, e, d2, _, _, _, _, rfl⟩⟩
    ·rintro e h ⟨d, w4, w5, w6, w7, rfl⟩
     exact ⟨_, rfl, ⟨ks, rfl, fun k hk' => hk k (List.mem_cons_of_mem _ hk')⟩, _, rfl, rfl⟩
 ·rintro e h ⟨-, r, rfl, rl⟩
  refine za6 (za8 ?_)
  have so : ∀ ts : List T, (ts.all stB) = true → ts.length ≤ 1000 → StOk Yd4 := fun ts a l => stOk_sq (b := false) Ybz l
  have cso : ∀ (b : Bool) (ts : List T), (ts.all stB) = true → ts.length ≤ 63 → ∀ ds, CkOk ds Ycr := fun b ts a l => ckOk_sq Ybz l
  have k1 : nmT (.str "r") = true ∧ kdR Ye8 = some [Ya1, ("look", "a")] ∧ hasR [Ya1, ("look", "a")] = true ∧ ckR [Ya1, ("look", "a")] (.lst [.str "even 1"]) = some [.even 1] := by decide +kernel
  have k2 : kdR Ydg = some [Ya1] ∧ hasR [Ya1] = true ∧ ckR [Ya1] (.tup []) = some [] := by decide +kernel
  have q1 : zam [.t (.str "r"), .t Ye8, .t (.lst [.str "even 1"])] h = .ok Yar h := by
   rw [zb7 (st := .lst [.str "read a", .str "look a"]) (ck := .lst [.str "even 1"]) rfl (fun x e => by cases e; decide) (so _ Yv Ybd) (cso false _ Yv Ybd), hRd_good k1.1 k1.2.1 k1.2.2.1 k1.2.2.2]
  have q2 : zam [.t (.str "r"), .t Ydg, .t (.tup [])] h = .ok Yar h := by
   rw [zb7 (st := .lst [.str "read a"]) (ck := .tup []) rfl (fun x e => by cases e; decide) (so _ Yv Ybd) (cso true _ Yv Ybd), hRd_good k1.1 k2.1 k2.2.1 k2.2.2]
  have a1 : (mBin Ydy Ybq Yw : M W) (P :: O :: r) h = .ok (.t Ycq) h := binP (a := .t .non) (zal (ws := [.t (.str "r"), .t Ye8, .t (.lst [.str "even 1"])]) rfl q1) rfl rfl
  have a2 : (mBin Ydy Ydd Yw : M W) (P :: O :: r) h = .ok (.t Ycq) h := binP (a := .t .non) (zal (ws := [.t (.str "r"), .t Ydg, .t (.tup [])]) rfl q2) rfl rfl
  exact vc_andV (Wp.of a1 ⟨true, rfl, Wp.of a2 ⟨_, rfl, rfl⟩⟩)
end
section
variable {P : Program} {w : World} {K : PySem.W.Frag} {mg : Str → Option Value} {base : Heap} {f : Addr} {fd : FuncData} {dfs : List V} {kws : List Yea}
abbrev DG (K : PySem.W.Frag) (x q : Str) (s : Stmt) (l : List V) (k : List Yea) (a : Addr) (d : FuncData) : Prop := FunD K x q (defArgs s) (defBody s) (defScope s) l k a d
local macro_rules | `(tactic| simp_all_arith) => `(tactic| exact ⟨rfl, rfl, rfl, by decide +kernel, rfl, by decide +kernel, by decide +kernel⟩)
local macro_rules | `(tactic| simp_all_arith!) => `(tactic| first | exact .inl rfl | exact .inr rfl)
abbrev N_w_deal : List Str := ["_law_script", "_law_base", "_law_cells", "_law_blended", "_law_cell"]
theorem sc_w_deal : FnScope N_w_deal ["_law_script", "_law_base"] (defScope s_w_deal) := by simp_all_arith
theorem yjz (F : DG K "_law_deal" "_law_deal" s_w_deal dfs kws f fd)
  (ycg : mg "int" = none)
  (yjh : mg "abs" = none) :
  FnG P w K mg base Yk 1 f fd ["_law_script", "_law_base"] (spM K w F_w_deal 2) :=
 okM (k := 0) F sc_w_deal fun cdv A outer s H E hr hgd => by
  have hN := sc_w_deal.nd
  have hu := hr.units
  exact zai (by first | exact st_comp (i := 2) (own := [("_law_cell", 4)]) (T := mYes) (E := zc5) rfl hN rfl rfl rfl (ii_sq (zb4 (zac 0) (zcb (zac 1)) (zcb (zah)))) (by first | exact blkOk_by (N := N_w_deal) (sc := defScope s_w_deal) (by decide +kernel) | exact blkOk_by (by with_unfolding_all rfl) | exact blkOk_by (by decide +kernel +revert)) (fun _ _ _ _ _ => pg_name (i := 4) hN rfl Ys) (zbd 4) Yae Yc7 zbo | exact za5 2 hN (zcw (own := [("_law_cell", 4)]) (T := mYes) (E := zc5) rfl hN (ii_sq (zb4 (zac 0) (zcb (zac 1)) (zcb (zah)))) (by first | exact blkOk_by (N := N_w_deal) (sc := defScope s_w_deal) (by decide +kernel) | exact blkOk_by (by with_unfolding_all rfl) | exact blkOk_by (by decide +kernel +revert)) (fun _ _ _ _ _ => pg_name (i := 4) hN rfl Ys) (zbd 4) Yae Yc7 zbo)) (zai (za5 3 hN (zbk (zah) (ie_mulA (zah) (zac 1)))) (zai (st_for (B := zci) PassesOwn.never rfl (ii_sq (zac 2)) (pg_name (i := 4) hN rfl Ys) (zbd 4) (zar (za5 3 hN (ie_mod (ie_bt call_int1 ok_int (zaa (zbk (zbk (ie_mulA (zac 3) (zah)) (ie_mod (ie_bt call_int1 ok_int (zaa (zac 4) (zad)) ycg) (zah))) (zah)) (zad)) ycg) (zah))))) (zar (zay (ie_lstL (zaa (ie_revL (zcw (own := [("_law_cell", 4)]) (T := zch) (E := zc8) rfl hN (ii_sq (zac 2)) (by first | exact blkOk_by (N := N_w_deal) (sc := defScope s_w_deal) (by decide +kernel) | exact blkOk_by (by with_unfolding_all rfl) | exact blkOk_by (by decide +kernel +revert)) (fun _ _ _ _ _ => pg_name (i := 4) hN rfl Ys) (zbd 4) (fun _ _ _ _ _ => its_one (it_ge (zac 4) (ie_pow (zah) (zah)))) (fun _ _ _ _ _ => zac 4) zbo)) Yd0))))))
abbrev ykc : List Str := ["_law_deal_here", "_law_wide", "_law_left"]
theorem yiu : FnScope ykc ["_law_deal_here", "_law_wide"] (defScope yht) := by simp_all_arith
theorem yj0 (F : DG K "_law_draw" "_law_draw" yht dfs kws f fd)
  (ycg : mg "int" = none) :
  FnG P w K mg base Yk 1 f fd ["_law_deal_here", "_law_wide"] Yex :=
 okM (k := 0) F yiu fun cdv A outer s H E hr hgd => by
  have hN := yiu.nd
  have hu := hr.units
  exact zai (st_while (B := zb2) 4096 PassesOwn.never ((iw_and (it_ne hu Yb2 (zas (zad))) (iw_and1 (it_eq hu (zap Yb2 (ie_neg (zah))) (zah)))).it) (zar (st_expr (ie_pop Yb2)))) (zai (zcs (it_ne hu Yb2 (zas (zad))) (zai (za5 2 hN (ie_pop Yb2)) (zai (st_expr (ie_append Yb2 (zaa (ie_div (zac 2) (zac 1)) (zad)))) (zar (zay (ie_mod (ie_bt call_int1 ok_int Ya8 ycg) (zac 1)))))) (zbr)) (zai (st_iput (zac 0) (zah) (ie_mod (ie_bt call_int1 ok_int (zaa (zbk (ie_mulA Yb2 (zah)) (zah)) (zad)) ycg) (zah))) (zar (zay (ie_mod (ie_bt call_int1 ok_int (zaa (ie_div Yb2 (zah)) (zad)) ycg) (zac 1))))))
abbrev yj6 : List Str := ["_law_deal_here", "_law_some", "_law_left", "_law_found"]
theorem yia : FnScope yj6 ["_law_deal_here", "_law_some"] (defScope yg1) := by simp_all_arith
theorem yjr (F : DG K "_law_mixed" "_law_mixed" yg1 dfs kws f fd)
  (ye : mg "len" = none)
  (ygc : mg "list" = none)
  {yf : Addr} {yy : FuncData} (yg : FnG P w K mg base Yk 1 yf yy ["_law_deal_here", "_law_wide"] Yex)
  (yj : mg "_law_draw" = some Yff) (yk : PySem.W.keepIn K Yff = true)
  (yh : Binds K yy ["_law_deal_here", "_law_wide"] []) :
  FnG P w K mg base Yk 2 f fd ["_law_deal_here", "_law_some"] (spM K w zbx 2) :=
 okM (k := 1) F yia fun cdv A outer s H E hr hgd => by
  have hN := yia.nd
  have hu := hr.units
  exact zai (st_par2 rfl hN (zaa (ie_bt call_list_of ok_listL Yai ygc) (zaa (ie_lstL (zad)) (zad)))) (zai (st_while (B := zb5) 4096 PassesOwn.never (it_ne hu (zac 2) (zas (zad))) (zar (st_expr (ie_append (zac 3) (zaa (ie_popAt (zac 2) (zaa (zak (dts := []) (dvs := []) yg Ya hgd (by rfl) yj yk yh .nil Yf zaz (zaa (zac 0) (zaa (zcl call_len zc3 Ya8 ye) (zad)))) (zad))) (zad)))))) (is_fz 3 (zar (zay (zac 3)))))
abbrev yj1 : List Str := ["_law_deal_here", "_law_size"]
theorem yhn : FnScope yj1 ["_law_deal_here", "_law_size"] (defScope ygi) := by simp_all_arith
theorem yjj (F : DG K "_law_titles" "_law_titles" ygi dfs kws f fd)
  {ycj : Addr} {yea : FuncData} (ycu : FnG P w K mg base Yk 2 ycj yea ["_law_deal_here", "_law_some"] (spM K w zbx 2))
  (ydg : mg "_law_mixed" = some (.ref ycj)) (ydh : PySem.W.keepIn K (.ref ycj) = true)
  (ycv : Binds K yea ["_law_deal_here", "_law_some"] []) :
  FnG P w K mg base Yk 3 f fd ["_law_deal_here", "_law_size"] (spM K w zcx 2) :=
 okM (k := 2) F yhn fun cdv A outer s H E hr hgd => by
  have hN := yhn.nd
  have hu := hr.units
  exact zar (zay (zb4 (zak (dts := []) (dvs := []) ycu Ya hgd (by rfl) ydg ydh ycv .nil Yf zaz (zaa (zac 0) (zaa (zas Ybf) (zad)))) io_none (zcb (zac 1))))
abbrev ykd : List Str := ["_law_deal_here", "_law_some"]
theorem yiv : FnScope ykd ["_law_deal_here", "_law_some"] (defScope yhu) := by simp_all_arith
theorem yj2 (F : DG K "_law_pick" "_law_pick" yhu dfs kws f fd)
  (ye : mg "len" = none)
  {yf : Addr} {yy : FuncData} (yg : FnG P w K mg base Yk 1 yf yy ["_law_deal_here", "_law_wide"] Yex)
  (yj : mg "_law_draw" = some Yff) (yk : PySem.W.keepIn K Yff = true)
  (yh : Binds K yy ["_law_deal_here", "_law_wide"] []) :
  FnG P w K mg base Yk 2 f fd ["_law_deal_here", "_law_some"] (spM K w za0 2) :=
 okM (k := 1) F yiv fun cdv A outer s H E hr hgd => by
  have hN := yiv.nd
  have hu := hr.units
  exact zar (zay (zap (zac 1) (zak (dts := []) (dvs := []) yg Ya hgd (by rfl) yj yk yh .nil Yf zaz (zaa (zac 0) (zaa (zcl call_len zc3 Yai ye) (zad))))))
abbrev yiw : List Str := ["value", "letter"]
theorem yib : FnScope yiw ["value"] (defScope yfh) := by simp_all_arith
theorem yjs (F : DG K "is_name" "is_name" yfh dfs kws f fd)
  (yhh : mg "all" = none)
  (yd : mg "isinstance" = none)
  (yee : mg "str" = none)
  (ye : mg "len" = none)
  {t_MOST_LETTERS : Tok} (ydy : mg "MOST_LETTERS" = some (.int (4) t_MOST_LETTERS))
  {t_LETTERS : Tok} (yg6 : mg "LETTERS" = some (.str "abcdefghijklmnopqrstuvwxyz" t_LETTERS))
  (hT : IsTab K zc1)
  {yds : Addr} {o_BARRED : Obj} {us_BARRED : List Value} {ygj : Nat} (yhv : mg "BARRED" = some (.ref yds)) (lk_BARRED : K.lookup yds = some o_BARRED) (yc8 : o_BARRED.cls = .type "tuple") (yc9 : o_BARRED.dict = none) (oa_BARRED : o_BARRED.data = .seq us_BARRED.toArray ygj) (or_BARRED : Vals Yef us_BARRED) (oz_BARRED : us_BARRED.length ≤ 1000) :
  FnG P w K mg base Yk 1 f fd ["value"] (spM K w zbb 1) :=
 okP (k := 0) F yib fun cdv A outer s H E hr hgd => by
  have hN := yib.nd
  have hu := hr.units
  exact zai (zcs ((iw_or Yak (iw_or (it_in hu (zac 0) (ie_globT yhv lk_BARRED yc8 yc9 oa_BARRED or_BARRED oz_BARRED)) (iw_or1 (it_not (it_chain op_le ok_opC op_le ok_opC (zah) Yei (ie_glob (v := .int (4)) (by rfl) ydy ⟨_, rfl⟩ (fun s => by simp [Rw, Rf]))))))).it) Yde (zbr)) (zar (zay (zcl (cr_all rfl) ok_all (zaa (zcw (own := [("letter", 1)]) (T := mYes) (E := zcr) rfl hN (ii_str (zac 0)) (by first | exact blkOk_by (N := yiw) (sc := defScope yfh) (by decide +kernel) | exact blkOk_by (by with_unfolding_all rfl) | exact blkOk_by (by decide +kernel +revert)) (fun _ _ _ _ _ => pg_name (i := 1) hN rfl Ys) (zbd 1) Yae (fun _ _ _ _ _ => ie_inS (zac 1) (ie_globS yg6)) zbo) (zad)) yhh)))
abbrev yi7 : List Str := ["value"]
theorem ygd : FnScope yi7 ["value"] (defScope yec) := by simp_all_arith
theorem yic (F : DG K "is_sequence" "is_sequence" yec dfs kws f fd)
  (yd : mg "isinstance" = none)
  (yt : mg "tuple" = none)
  (ygc : mg "list" = none)
  (hT : IsTab K zc1) :
  FnG P w K mg base Yk 1 f fd ["value"] (spM K w zav 1) :=
 okP (k := 0) F ygd fun cdv A outer s H E hr hgd => by
  have hN := ygd.nd
  have hu := hr.units
  exact zar (zay (zcl call_isiA (ok_isi hT) (zaa (zac 0) (zaa (ie_tup (zaa (ie_ty ygc Yeq) (zaa (ie_ty yt Yeq) (zad)))) (zad))) yd))
abbrev yj7 : List Str := ["value", "words", "parts"]
theorem yid : FnScope yj7 ["value", "words"] (defScope yg2) := by simp_all_arith
theorem yjt (F : DG K "deed_in" "deed_in" yg2 dfs kws f fd)
  (ye : mg "len" = none)
  (yd : mg "isinstance" = none)
  (yee : mg "str" = none)
  {yck : Addr} {yeb : FuncData} (ycw : FnG P w K mg base Yk 1 yck yeb ["value"] (spM K w zbb 1))
  (ydi : mg "is_name" = some (.ref yck)) (ydj : PySem.W.keepIn K (.ref yck) = true)
  (ycx : Binds K yeb ["value"] [])
  (hT : IsTab K zc1) :
  FnG P w K mg base Yk 2 f fd ["value", "words"] (spM K w zc2 2) :=
 okP (k := 1) F yid fun cdv A outer s H E hr hgd => by
  have hN := yid.nd
  have hu := hr.units
  exact zai (zcs Yak Ye2 (zbr)) (zai (za5 2 hN (ie_split (zac 0) (zae))) (zai (zcs ((iw_or (it_ne hu (zcl call_len zc3 Ya8 ye) (zah)) (iw_or (it_nin hu Yd1 (zac 1)) (iw_or1 (it_not (it_tru (zak (dts := []) (dvs := []) ycw Ya hgd (by rfl) ydi ydj ycx .nil Yf za9 (zaa Yd1 (zad)))))))).it) Ye2 (zbr)) (zar (zay (ie_tup (zaa Yd1 (zaa Yd1 (zad))))))))
abbrev ydo : List Str := ["value", "words", "found", "parts", "step", "deed"]
theorem yho : FnScope ydo ["value", "words"] (defScope ybp) := by simp_all_arith
theorem yjk (F : DG K "deeds_in" "deeds_in" ybp dfs kws f fd)
  (ye : mg "len" = none)
  (yhi : mg "set" = none)
  (yt : mg "tuple" = none)
  {yg7 : Addr} {yix : FuncData} (yef : FnG P w K mg base Yk 2 yg7 yix ["value", "words"] (spM K w zc2 2))
  (yfp : mg "deed_in" = some (.ref yg7)) (yfq : PySem.W.keepIn K (.ref yg7) = true)
  (yeg : Binds K yix ["value", "words"] [])
  {yaq : Addr} {yb9 : FuncData} (yav : FnG P w K mg base Yk 1 yaq yb9 ["value"] (spM K w zav 1))
  (ya6 : mg "is_sequence" = some (.ref yaq)) (ya7 : PySem.W.keepIn K (.ref yaq) = true)
  (yaw : Binds K yb9 ["value"] []) :
  FnG P w K mg base Yk 3 f fd ["value", "words"] (spM K w zbi 2) :=
 okP (k := 2) F yho fun cdv A outer s H E hr hgd => by
  have hN := yho.nd
  have hu := hr.units
  exact zai Ybw (zai (by first | exact st_comp (i := 2) (own := [("step", 4)]) (T := mYes) (E := zbg) rfl hN rfl rfl rfl (ii_sq (zac 0)) (by first | exact blkOk_by (N := ydo) (sc := defScope ybp) (by decide +kernel) | exact blkOk_by (by with_unfolding_all rfl) | exact blkOk_by (by decide +kernel +revert)) (fun _ _ _ _ _ => pg_name (i := 4) hN rfl Ys) (zbd 4) Yae Ycw zbo | exact za5 2 hN (zcw (own := [("step", 4)]) (T := mYes) (E := zbg) rfl hN (ii_sq (zac 0)) (by first | exact blkOk_by (N := ydo) (sc := defScope ybp) (by decide +kernel) | exact blkOk_by (by with_unfolding_all rfl) | exact blkOk_by (by decide +kernel +revert)) (fun _ _ _ _ _ => pg_name (i := 4) hN rfl Ys) (zbd 4) Yae Ycw zbo)) (zai (by first | exact st_comp (i := 3) (own := [("deed", 5)]) (T := za1) (E := zba) rfl hN rfl rfl rfl (ii_sq (zac 2)) (by first | exact blkOk_by (N := ydo) (sc := defScope ybp) (by decide +kernel) | exact blkOk_by (by with_unfolding_all rfl) | exact blkOk_by (by decide +kernel +revert)) (fun _ _ _ _ _ => pg_name (i := 5) hN rfl Ys) (zbd 5) Yb8 (fun _ _ _ _ _ => zap (zac 5) (zah)) zbo | exact za5 3 hN (zcw (own := [("deed", 5)]) (T := za1) (E := zba) rfl hN (ii_sq (zac 2)) (by first | exact blkOk_by (N := ydo) (sc := defScope ybp) (by decide +kernel) | exact blkOk_by (by with_unfolding_all rfl) | exact blkOk_by (by decide +kernel +revert)) (fun _ _ _ _ _ => pg_name (i := 5) hN rfl Ys) (zbd 5) Yb8 (fun _ _ _ _ _ => zap (zac 5) (zah)) zbo)) (zar (zay (ie_if ((iw_or (it_in hu (za4) (zac 2)) (iw_or1 (it_ne hu (ie_lenSet rfl ye yhi (zac 3)) (zcl call_len zc3 Yd0 ye)))).it) (za4) (ie_bt zcj ok_tup Ya8 yt))))))
abbrev yhp : List Str := ["word", "digits", "sign"]
theorem yg8 : FnScope yhp ["word", "digits"] (defScope yd8) := by simp_all_arith
theorem yi8 (F : DG K "number_in" "number_in" yd8 dfs kws f fd)
  (ycg : mg "int" = none)
  (ye : mg "len" = none)
  (yhh : mg "all" = none)
  {t_DIGITS : Tok} (yhw : mg "DIGITS" = some (.str "0123456789" t_DIGITS)) :
  FnG P w K mg base Yk 1 f fd ["word", "digits"] (spM K w zcm 2) :=
 okP (k := 0) F yg8 fun cdv A outer s H E hr hgd => by
  have hN := yg8.nd
  have hu := hr.units
  exact zai (zcs ((iw_or (it_not (it_chain op_le ok_opC op_le ok_opC (zah) Yei (zac 1))) (iw_or1 (it_not (it_tru (zcl (cr_all rfl) ok_all (zaa (zcw (own := [("sign", 2)]) (T := mYes) (E := zbh) rfl hN (ii_str (zac 0)) (by first | exact blkOk_by (N := yhp) (sc := defScope yd8) (by decide +kernel) | exact blkOk_by (by with_unfolding_all rfl) | exact blkOk_by (by decide +kernel +revert)) (fun _ _ _ _ _ => pg_name (i := 2) hN rfl Ys) (zbd 2) Yae (fun _ _ _ _ _ => ie_inS (zac 2) (ie_globS yhw)) zbo) (zad)) yhh))))).it) Ye2 (zbr)) (zar (zay (ie_if ((iw_and (it_eq hu Yb2 (zae)) (iw_and1 (it_ne hu (zac 0) (zae)))).it) (za4) (ie_bt call_int_str ok_intS (zaa (zac 0) (zad)) ycg))))
abbrev yj8 : List Str := ["word", "deeds", "at"]
theorem yie : FnScope yj8 ["word", "deeds"] (defScope yg3) := by simp_all_arith
theorem yju (F : DG K "spot_in" "spot_in" yg3 dfs kws f fd)
  (ye : mg "len" = none)
  {t_MOST_DIGITS : Tok} (yed : mg "MOST_DIGITS" = some (.int (9) t_MOST_DIGITS))
  {yfy : Addr} {yhq : FuncData} (yfb : FnG P w K mg base Yk 1 yfy yhq ["word", "digits"] (spM K w zcm 2))
  (yfz : mg "number_in" = some (.ref yfy)) (yf0 : PySem.W.keepIn K (.ref yfy) = true)
  (yfc : Binds K yhq ["word", "digits"] []) :
  FnG P w K mg base Yk 2 f fd ["word", "deeds"] (spM K w F_spot_in 2) :=
 okP (k := 1) F yie fun cdv A outer s H E hr hgd => by
  have hN := yie.nd
  have hu := hr.units
  exact zai (za5 2 hN (zak (dts := []) (dvs := []) yfb Ya hgd (by rfl) yfz yf0 yfc .nil Yf za9 (zaa (zac 0) (zaa (ie_glob (v := .int (9)) (by rfl) yed ⟨_, rfl⟩ (fun s => by simp [Rw, Rf])) (zad))))) (zar (zay (ie_if ((iw_and (it_notN (zac 2) (za4)) (iw_and (it_ltA (zac 2) (zcl call_len zc3 Yai ye)) (iw_and1 (it_eq hu (zap (zap (zac 1) (zac 2)) (zah)) (zae))))).it) (zac 2) (za4))))
abbrev yg9 : List Str := ["value", "deeds", "parts", "spots", "part"]
theorem yif : FnScope yg9 ["value", "deeds"] (defScope yd9) := by simp_all_arith
theorem yjv (F : DG K "test_in" "test_in" yd9 dfs kws f fd)
  (ye : mg "len" = none)
  (yd : mg "isinstance" = none)
  (yee : mg "str" = none)
  {yha : Addr} {yiy : FuncData} (yeh : FnG P w K mg base Yk 2 yha yiy ["word", "deeds"] (spM K w F_spot_in 2))
  (yfr : mg "spot_in" = some (.ref yha)) (yfs : PySem.W.keepIn K (.ref yha) = true)
  (yei : Binds K yiy ["word", "deeds"] [])
  (hT : IsTab K zc1) :
  FnG P w K mg base Yk 3 f fd ["value", "deeds"] (spM K w F_test_in 2) :=
 okP (k := 2) F yif fun cdv A outer s H E hr hgd => by
  have hN := yif.nd
  have hu := hr.units
  exact zai (zcs Yak Ye2 (zbr)) (zai (za5 2 hN (ie_split (zac 0) (zae))) (zai (by first | exact st_comp (i := 3) (own := [("part", 4)]) (T := mYes) (E := zb6) rfl hN rfl rfl rfl (ii_sq (zb4 (zac 2) (zcb (zah)) io_none)) (by first | exact blkOk_by (N := yg9) (sc := defScope yd9) (by decide +kernel) | exact blkOk_by (by with_unfolding_all rfl) | exact blkOk_by (by decide +kernel +revert)) (fun _ _ _ _ _ => pg_name (i := 4) hN rfl Ys) (zbd 4) Yae Ycx zbo | exact za5 3 hN (zcw (own := [("part", 4)]) (T := mYes) (E := zb6) rfl hN (ii_sq (zb4 (zac 2) (zcb (zah)) io_none)) (by first | exact blkOk_by (N := yg9) (sc := defScope yd9) (by decide +kernel) | exact blkOk_by (by with_unfolding_all rfl) | exact blkOk_by (by decide +kernel +revert)) (fun _ _ _ _ _ => pg_name (i := 4) hN rfl Ys) (zbd 4) Yae Ycx zbo)) (zai (zcs (it_in hu (za4) (zac 3)) Ye2 (zbr)) (zai (zcs ((iw_and (it_eq hu Yd1 (zae)) (iw_and1 (it_eq hu (zcl call_len zc3 Yd0 ye) (zah)))).it) (zar (zay (ie_tup (zaa (zae) (zaa Ydf (zad)))))) (zbr)) (zai (zcs ((iw_or (it_ne hu Yd1 (zae)) (iw_or (it_ne hu (zcl call_len zc3 Yd0 ye) (zah)) (iw_or1 (it_ge Ydf Ydf)))).it) Ye2 (zbr)) (zar (zay (ie_if (it_eq hu (zap (zap (zac 1) Ydf) (zah)) (zap (zap (zac 1) Ydf) (zah))) (ie_tup (zaa (zae) (zaa Ydf (zaa Ydf (zad))))) (za4)))))))))
abbrev ygk : List Str := ["value", "deeds", "found", "check"]
theorem yhr : FnScope ygk ["value", "deeds"] (defScope ydl) := by simp_all_arith
theorem yjl (F : DG K "tests_in" "tests_in" ydl dfs kws f fd)
  (ye : mg "len" = none)
  (yhi : mg "set" = none)
  (yt : mg "tuple" = none)
  {yhb : Addr} {yiz : FuncData} (yej : FnG P w K mg base Yk 3 yhb yiz ["value", "deeds"] (spM K w F_test_in 2))
  (yft : mg "test_in" = some (.ref yhb)) (yfu : PySem.W.keepIn K (.ref yhb) = true)
  (yek : Binds K yiz ["value", "deeds"] [])
  {yaq : Addr} {yb9 : FuncData} (yav : FnG P w K mg base Yk 1 yaq yb9 ["value"] (spM K w zav 1))
  (ya6 : mg "is_sequence" = some (.ref yaq)) (ya7 : PySem.W.keepIn K (.ref yaq) = true)
  (yaw : Binds K yb9 ["value"] []) :
  FnG P w K mg base Yk 4 f fd ["value", "deeds"] (spM K w zbm 2) :=
 okP (k := 3) F yhr fun cdv A outer s H E hr hgd => by
  have hN := yhr.nd
  have hu := hr.units
  exact zai Ybw (zai (by first | exact st_comp (i := 2) (own := [("check", 3)]) (T := mYes) (E := zb0) rfl hN rfl rfl rfl (ii_sq (zac 0)) (by first | exact blkOk_by (N := ygk) (sc := defScope ydl) (by decide +kernel) | exact blkOk_by (by with_unfolding_all rfl) | exact blkOk_by (by decide +kernel +revert)) (fun _ _ _ _ _ => pg_name (i := 3) hN rfl Ys) (zbd 3) Yae Ycy zbo | exact za5 2 hN (zcw (own := [("check", 3)]) (T := mYes) (E := zb0) rfl hN (ii_sq (zac 0)) (by first | exact blkOk_by (N := ygk) (sc := defScope ydl) (by decide +kernel) | exact blkOk_by (by with_unfolding_all rfl) | exact blkOk_by (by decide +kernel +revert)) (fun _ _ _ _ _ => pg_name (i := 3) hN rfl Ys) (zbd 3) Yae Ycy zbo)) (zar (zay (ie_if ((iw_or (it_in hu (za4) (zac 2)) (iw_or1 (it_ne hu (ie_lenSetGr rfl hu ye yhi (zac 2)) (zcl call_len zc3 Ya8 ye)))).it) (za4) (ie_bt zcj ok_tup Ya8 yt)))))
abbrev ygw : List Str := ["self", "name", "steps", "checks", "deeds", "tests", "word", "part"]
theorem yge : FnScope ygw ["self", "name", "steps", "checks"] (defScope yc) := by simp_all_arith
theorem yig (F : DG K "__init__" "Reader.__init__" yc dfs kws f fd)
  (yt : mg "tuple" = none)
  {ygl : Addr} {yih : FuncData} (yf1 : FnG P w K mg base Yk 4 ygl yih ["value", "deeds"] (spM K w zbm 2))
  (ygm : mg "tests_in" = some (.ref ygl)) (ygn : PySem.W.keepIn K (.ref ygl) = true)
  (yf2 : Binds K yih ["value", "deeds"] [])
  {ygo : Addr} {yii : FuncData} (yf3 : FnG P w K mg base Yk 3 ygo yii ["value", "words"] (spM K w zbi 2))
  (ygp : mg "deeds_in" = some (.ref ygo)) (ygq : PySem.W.keepIn K (.ref ygo) = true)
  (yf4 : Binds K yii ["value", "words"] [])
  {yck : Addr} {yeb : FuncData} (ycw : FnG P w K mg base Yk 1 yck yeb ["value"] (spM K w zbb 1))
  (ydi : mg "is_name" = some (.ref yck)) (ydj : PySem.W.keepIn K (.ref yck) = true)
  (ycx : Binds K yeb ["value"] [])
  (yf5 : ∀ c ∈ (["Reader"] : List Str), FldOk K c "tests")
  (yf6 : ∀ c ∈ (["Reader"] : List Str), FldOk K c "deeds")
  (yfd : ∀ c ∈ (["Reader"] : List Str), FldOk K c "checks")
  (yf7 : ∀ c ∈ (["Reader"] : List Str), FldOk K c "steps")
  (ygr : ∀ c ∈ (["Reader"] : List Str), FldOk K c "name")
  {ya yn : Addr} {ydp : FuncData} (yb : XF P w K mg base "InvalidReader" ya yn ydp ["self", "word"] "word")
  {yas : Addr} {o_READER_WORDS : Obj} {us_READER_WORDS : List Value} {ycq : Nat} (ydz : mg "READER_WORDS" = some (.ref yas)) (lk_READER_WORDS : K.lookup yas = some o_READER_WORDS) (yam : o_READER_WORDS.cls = .type "tuple") (yan : o_READER_WORDS.dict = none) (oa_READER_WORDS : o_READER_WORDS.data = .seq us_READER_WORDS.toArray ycq) (or_READER_WORDS : Vals ((["read", "look"] : List Str).map V.str) us_READER_WORDS) (oz_READER_WORDS : us_READER_WORDS.length ≤ 1000) :
  FnG P w K mg base (L2N.CX P w) 5 f fd ["self", "name", "steps", "checks"] (spX K w za2 4) :=
 okX (k := 4) F yge fun cdv A outer s H E hr hgd => by
  have hN := yge.nd
  have hu := hr.units
  exact zai (zcs (it_not (it_tru (zak (dts := []) (dvs := []) ycw Ya hgd (by rfl) ydi ydj ycx .nil Yf za9 Yai))) Ybi (zbr)) (zai (za5 4 hN (zak (dts := []) (dvs := []) yf3 Ya hgd (by rfl) ygp ygq yf4 .nil Yf za9 (zaa (zac 2) (zaa (ie_globT ydz lk_READER_WORDS yam yan oa_READER_WORDS or_READER_WORDS oz_READER_WORDS) (zad))))) (zai (zcs ((iw_or (it_isN (zac 4) (za4)) (iw_or1 (it_nin hu (zae) (zcw (own := [("word", 6), ("part", 7)]) (T := mYes) (E := zaw) rfl hN (ii_sq (zac 4)) (by first | exact blkOk_by (N := ygw) (sc := defScope yc) (by decide +kernel) | exact blkOk_by (by with_unfolding_all rfl) | exact blkOk_by (by decide +kernel +revert)) (fun _ _ _ _ _ => pg_tup rfl (pgs_cons (pg_name (i := 6) hN rfl Ys) (pgs_cons (pg_name (i := 7) hN rfl Ys) (pgs_nil)))) (tg_tup (tgs_cons (zbd 6) (tgs_cons (zbd 7) (tgs_nil)))) Yae (fun _ _ _ _ _ => zac 6) zbo)))).it) Ybi (zbr)) (zai (za5 5 hN (zak (dts := []) (dvs := []) yf1 Ya hgd (by rfl) ygm ygn yf2 .nil Yf za9 (zaa (zac 3) (zaa (zac 4) (zad))))) (zai (zcs (it_isN (zac 5) (za4)) Ybi (zbr)) (zai (st_fld ygr (zac 0) (zac 1)) (zai (st_fld yf7 (zac 0) (ie_bt zcj ok_tup Ya8 yt)) (zai (st_fld yfd (zac 0) (ie_bt zcj ok_tup Yd0 yt)) (zai (st_fld yf6 (zac 0) (zac 4)) (zar (st_fld yf5 (zac 0) (zac 5)))))))))))
abbrev yj9 : List Str := ["_law_title", "_law_steps", "_law_checks", "_law_found", "e"]
theorem yij : FnScope yj9 ["_law_title", "_law_steps", "_law_checks"] (defScope yg4) := by simp_all_arith
theorem yjw (F : DG K "_law_heard" "_law_heard" yg4 dfs kws f fd)
  (yd : mg "isinstance" = none)
  {yi : Addr} (ygs : ClsF K mg "Reader" yi)
  {ygx : Addr} {ygy : FuncData} (yd0 : FnG P w K mg base (L2N.CX P w) 5 ygx ygy ["self", "name", "steps", "checks"] (spX K w za2 4))
  (yhx : Mk K yi ygx)
  {ya yn : Addr} {ydp : FuncData} (yb : XF P w K mg base "InvalidReader" ya yn ydp ["self", "word"] "word")
  (yu : XcF K ya)
  {yp : Addr} (yx : CN K "InvalidDesign" yp) (yc6 : mg "InvalidDesign" = some (.ref yp))
  (yac : PySem.W.kitOne K Yb5 (.ref yp) = some false)
  {y1 : Addr} (yaa : CN K "InvalidKind" y1) (yd1 : mg "InvalidKind" = some (.ref y1))
  (yai : PySem.W.kitOne K Yb5 (.ref y1) = some false)
  {y2 : Addr} (yab : CN K "RecordError" y2) (yd2 : mg "RecordError" = some (.ref y2))
  (yaj : PySem.W.kitOne K Yb5 (.ref y2) = some true)
  (ybo : PySem.W.findIn K Yb5 "word" = some none)
  (yd3 : Binds K ygy ["self", "name", "steps", "checks"] []) :
  FnG P w K mg base Yk 7 f fd ["_law_title", "_law_steps", "_law_checks"] (spM K w zam 3) :=
 okP (k := 6) F yij fun cdv A outer s H E hr hgd => by
  have hN := yij.nd
  have hu := hr.units
  exact zai (za5 3 hN (za4)) (zai (st_tryAs (i := 4) (B := zcp) rfl rfl hN rfl rfl takes_nox (fun W pn xe tkB hpB => zar (st_expr (ie_frzI (ie_makeX yhx ygs.cn yd0 Ya hgd (by rfl) ygs.mg yd3 .nil (fun s => by rfl) fnX_len (fun σ => L2N.passAt (takesN tkB) σ) (zaa (zac 0) (zaa (zac 1) Ya8)))))) (.cons (S := f_w_heard_l2) ⟨rfl, by decide, .inl yb.mg⟩ yb.hit (fun a oe cls d pn hz hf => xss_set 3 Ybd hN (xe_if ((xw_and (xt_val (xe_isi (t := .cls "RecordError") yb.cn yu hz hf rfl (cv_cls yab yaj) (ie_cls yab yd2) yd)) (xw_and1 (xt_not (xt_val (xe_isiT yb.cn yu hz hf (kx_f (cv_cls yaa yai) (kx_f (cv_cls yx yac) (kx_nil))) (ie_tup (zaa (ie_cls yaa yd1) (zaa (ie_cls yx yc6) (zad)))) yd))))).t) (xe_fld yb.cn yu ybo hz hf) (xe_of (zae))) (xss_nil)) .nil)) (zar (zay (zac 3))))
abbrev yip : List Str := ["_law_deal_here", "_law_steps", "_law_odd", "_law_at", "_law_found"]
theorem yfv : FnScope yip ["_law_deal_here", "_law_steps"] (defScope ydr) := by simp_all_arith
theorem yhy (F : DG K "_law_bent_steps" "_law_bent_steps" ydr dfs kws f fd)
  (ye : mg "len" = none)
  {y7 : Addr} {ya2 : FuncData} (yz : FnG P w K mg base Yk 2 y7 ya2 ["_law_deal_here", "_law_some"] (spM K w za0 2))
  (y8 : mg "_law_pick" = some (.ref y7)) (y9 : PySem.W.keepIn K (.ref y7) = true)
  (y0 : Binds K ya2 ["_law_deal_here", "_law_some"] [])
  {yf : Addr} {yy : FuncData} (yg : FnG P w K mg base Yk 1 yf yy ["_law_deal_here", "_law_wide"] Yex)
  (yj : mg "_law_draw" = some Yff) (yk : PySem.W.keepIn K Yff = true)
  (yh : Binds K yy ["_law_deal_here", "_law_wide"] []) :
  FnG P w K mg base Yk 3 f fd ["_law_deal_here", "_law_steps"] (spM K w zau 2) :=
 okM (k := 2) F yfv fun cdv A outer s H E hr hgd => by
  have hN := yfv.nd
  have hu := hr.units
  exact zai (za5 2 hN (zas (zaa (zae) (zaa (zae) (zaa (zae) (zaa (zae) Ybf)))))) (zai Ybv (zai (za5 2 hN (zbk (zac 2) (zas (zaa (zae) (zaa (zae) (zaa (za4) (zaa (zah) (zaa (ie_bl) (zaa (ie_tup Yfg) (zaa (zas Yp) Yfg)))))))))) (zai (za5 4 hN (zas (zaa Ybl (zaa (zbk (zac 1) (zas Yfg)) (zaa (zas Yp) (zad)))))) (zar (zay (zak (dts := []) (dvs := []) yz Ya hgd (by rfl) y8 y9 y0 .nil Yf zaz (zaa (zac 0) (zaa (zbk (zac 4) (zas (zaa (zak (dts := []) (dvs := []) yz Ya hgd (by rfl) y8 y9 y0 .nil Yf zaz (zaa (zac 0) (zaa (zas (zaa (za4) (zaa (zae) (zaa (zah) (zaa (ie_tup (zad)) (zaa (zas (zad)) (zaa (zap (zac 1) (zah)) (zad)))))))) (zad)))) (zad)))) (zad)))))))))
abbrev yik : List Str := ["_law_deal_here", "_law_checks", "_law_odd", "_law_at", "_law_found"]
theorem yfe : FnScope yik ["_law_deal_here", "_law_checks"] (defScope ydm) := by simp_all_arith
theorem yhj (F : DG K "_law_bent_checks" "_law_bent_checks" ydm dfs kws f fd)
  (ye : mg "len" = none)
  {y7 : Addr} {ya2 : FuncData} (yz : FnG P w K mg base Yk 2 y7 ya2 ["_law_deal_here", "_law_some"] (spM K w za0 2))
  (y8 : mg "_law_pick" = some (.ref y7)) (y9 : PySem.W.keepIn K (.ref y7) = true)
  (y0 : Binds K ya2 ["_law_deal_here", "_law_some"] [])
  {yf : Addr} {yy : FuncData} (yg : FnG P w K mg base Yk 1 yf yy ["_law_deal_here", "_law_wide"] Yex)
  (yj : mg "_law_draw" = some Yff) (yk : PySem.W.keepIn K Yff = true)
  (yh : Binds K yy ["_law_deal_here", "_law_wide"] []) :
  FnG P w K mg base Yk 3 f fd ["_law_deal_here", "_law_checks"] (spM K w zaq 2) :=
 okM (k := 2) F yfe fun cdv A outer s H E hr hgd => by
  have hN := yfe.nd
  have hu := hr.units
  exact zai (za5 2 hN (zas (zaa (zae) (zaa (zae) Ybf)))) (zai (za5 2 hN (zbk (zac 2) (zas (zaa (zae) (zaa (zae) Ybf))))) (zai (za5 2 hN (zbk (zac 2) (zas (zaa (zae) (zaa (za4) (zaa (zah) (zaa (ie_bl) (zaa (ie_tup (zaa (zae) Yb6)) (zaa (zas Yp) Yp))))))))) (zai Ybv (zai (za5 4 hN (zas (zaa Ybl (zaa (zbk (zac 1) (zas Yfg)) (zaa (za4) (zaa (zae) Yb6)))))) (zar (zay (zak (dts := []) (dvs := []) yz Ya hgd (by rfl) y8 y9 y0 .nil Yf zaz (zaa (zac 0) (zaa (zac 4) (zad))))))))))
abbrev yiq : List Str := ["_law_deal_here", "_law_deep", "_law_form", "_law_inner", "_law_some", "_law_turn"]
theorem yjm : FnScope yiq ["_law_deal_here", "_law_deep"] (defScope yga) := by simp_all_arith
theorem yka (F : DG K "_law_any" "_law_any" yga dfs kws f fd)
  {G : OpN} {r : Nat} (hG : ∀ ws hp, ws.length ≠ 2 → G ws hp = .bad)
  (yt : mg "tuple" = none)
  (ydk : mg "range" = none)
  {y7 : Addr} {ya2 : FuncData} (yz : FnG P w K mg base Yk 2 y7 ya2 ["_law_deal_here", "_law_some"] (spM K w za0 2))
  (y8 : mg "_law_pick" = some (.ref y7)) (y9 : PySem.W.keepIn K (.ref y7) = true)
  (y0 : Binds K ya2 ["_law_deal_here", "_law_some"] [])
  {yf : Addr} {yy : FuncData} (yg : FnG P w K mg base Yk 1 yf yy ["_law_deal_here", "_law_wide"] Yex)
  (yj : mg "_law_draw" = some Yff) (yk : PySem.W.keepIn K Yff = true)
  (yh : Binds K yy ["_law_deal_here", "_law_wide"] [])
  {yd4 : Addr} {ygf : FuncData} (ycl : FnG P w K mg base Yk (4 + r) yd4 ygf ["_law_deal_here", "_law_deep"] (spM K w G 2))
  (yd5 : mg "_law_any" = some (.ref yd4)) (yd6 : PySem.W.keepIn K (.ref yd4) = true)
  (yc7 : Binds K ygf ["_law_deal_here", "_law_deep"] []) :
  FnG P w K mg base Yk (4 + r + 1) f fd ["_law_deal_here", "_law_deep"] (spM K w (S_w_any G) 2) :=
 okM (k := 4 + r) F yjm fun cdv A outer s H E hr hgd => by
  have hN := yjm.nd
  have hu := hr.units
  exact zai (za5 2 hN (ie_if (it_gt (zac 1) (zah)) (zak (dts := []) (dvs := []) yg (hr.mono (Nat.le_add_right_of_le Ybd)) hgd (by rfl) yj yk yh .nil Yf zaz (zaa (zac 0) Yb6)) (zah))) (zai (zcs (it_ltA (zac 2) (zah)) (zai (by first | exact st_comp (i := 3) (own := [("_law_turn", 5)]) (T := mYes) (E := (f_w_any_c1 G)) rfl hN rfl rfl rfl (ii_rng1 (by rfl) ydk (zaa (zak (dts := []) (dvs := []) yg (hr.mono (Nat.le_add_right_of_le (by decide))) hgd (by rfl) yj yk yh .nil (fun s => rfl) zaz (zaa (zac 0) Yb6)) (zad))) Ya4 (fun _ _ _ _ _ => pg_name (i := 5) hN rfl Ys) (zbd 5) Yae Ybo zbo | exact za5 3 hN (zcw (own := [("_law_turn", 5)]) (T := mYes) (E := (f_w_any_c1 G)) rfl hN (ii_rng1 (by rfl) ydk (zaa (zak (dts := []) (dvs := []) yg (hr.mono (Nat.le_add_right_of_le (by decide))) hgd (by rfl) yj yk yh .nil (fun s => rfl) zaz (zaa (zac 0) Yb6)) (zad))) Ya4 (fun _ _ _ _ _ => pg_name (i := 5) hN rfl Ys) (zbd 5) Yae Ybo zbo)) (zar (zay (ie_if (it_eq hu (zac 2) (zah)) (zac 3) (ie_bt zcj ok_tup Yd0 yt))))) (zbr)) (zai (za5 4 hN (zas (zaa (za4) (zaa (ie_bl) (zaa (ie_bl) (zaa (zah) (zaa (zah) (zaa (zah) (zaa (ie_sub (zah) (zah)) (zaa (ie_pow (zah) (zah)) Ybf)))))))))) (zar (zay (zak (dts := []) (dvs := []) yz (hr.mono (Nat.le_add_right_of_le Ybd)) hgd (by rfl) y8 y9 y0 .nil Yf zaz (zaa (zac 0) (zaa (zbk (zac 4) (zas (zaa (ie_tup (zaa (zae) Yb6)) (zad)))) (zad))))))))
abbrev ykg : List Str := ["_law_script", "_law_good", "_law_spot", "_law_deal_here", "_law_turn", "_law_title", "_law_checks", "_law_wrong"]
theorem ykb : FnScope ykg ["_law_script"] (defScope yjy) := by simp_all_arith
theorem ykf (F : DG K "law" "law" yjy dfs kws f fd)
  (ydk : mg "range" = none)
  (yj3 : mg "max" = none)
  (yj4 : mg "min" = none)
  (ye : mg "len" = none)
  (yt : mg "tuple" = none)
  {yhc : Addr} {yi0 : FuncData} (yad : FnG P w K mg base Yk 7 yhc yi0 ["_law_title", "_law_steps", "_law_checks"] (spM K w zam 3))
  (yak : mg "_law_heard" = some (.ref yhc)) (yal : PySem.W.keepIn K (.ref yhc) = true)
  (yae : Binds K yi0 ["_law_title", "_law_steps", "_law_checks"] [])
  {yd4 : Addr} {ygf : FuncData} (ycl : FnG P w K mg base Yk 16 yd4 ygf ["_law_deal_here", "_law_deep"] (spM K w F_w_any 2))
  (yd5 : mg "_law_any" = some (.ref yd4)) (yd6 : PySem.W.keepIn K (.ref yd4) = true)
  (yc7 : Binds K ygf ["_law_deal_here", "_law_deep"] [])
  {ydq : Addr} {yfw : FuncData} (ya3 : FnG P w K mg base Yk 3 ydq yfw ["_law_deal_here", "_law_checks"] (spM K w zaq 2))
  (ya8 : mg "_law_bent_checks" = some (.ref ydq)) (ya9 : PySem.W.keepIn K (.ref ydq) = true)
  (ya4 : Binds K yfw ["_law_deal_here", "_law_checks"] [])
  {yd7 : Addr} {ygg : FuncData} (ych : FnG P w K mg base Yk 3 yd7 ygg ["_law_deal_here", "_law_steps"] (spM K w zau 2))
  (ycy : mg "_law_bent_steps" = some (.ref yd7)) (ycz : PySem.W.keepIn K (.ref yd7) = true)
  (yci : Binds K ygg ["_law_deal_here", "_law_steps"] [])
  {y7 : Addr} {ya2 : FuncData} (yz : FnG P w K mg base Yk 2 y7 ya2 ["_law_deal_here", "_law_some"] (spM K w za0 2))
  (y8 : mg "_law_pick" = some (.ref y7)) (y9 : PySem.W.keepIn K (.ref y7) = true)
  (y0 : Binds K ya2 ["_law_deal_here", "_law_some"] [])
  {ycj : Addr} {yea : FuncData} (ycu : FnG P w K mg base Yk 2 ycj yea ["_law_deal_here", "_law_some"] (spM K w zbx 2))
  (ydg : mg "_law_mixed" = some (.ref ycj)) (ydh : PySem.W.keepIn K (.ref ycj) = true)
  (ycv : Binds K yea ["_law_deal_here", "_law_some"] [])
  {yf : Addr} {yy : FuncData} (yg : FnG P w K mg base Yk 1 yf yy ["_law_deal_here", "_law_wide"] Yex)
  (yj : mg "_law_draw" = some Yff) (yk : PySem.W.keepIn K Yff = true)
  (yh : Binds K yy ["_law_deal_here", "_law_wide"] [])
  {ygt : Addr} {yil : FuncData} (yf8 : FnG P w K mg base Yk 3 ygt yil ["_law_deal_here", "_law_size"] (spM K w zcx 2))
  (ygu : mg "_law_titles" = some (.ref ygt)) (ygv : PySem.W.keepIn K (.ref ygt) = true)
  (yf9 : Binds K yil ["_law_deal_here", "_law_size"] [])
  {yhz : Addr} {yjn : FuncData} (yhd : FnG P w K mg base Yk 1 yhz yjn ["_law_script", "_law_base"] (spM K w F_w_deal 2))
  (yh0 : mg "_law_deal" = some (.ref yhz)) (yh1 : PySem.W.keepIn K (.ref yhz) = true)
  (yhe : Binds K yjn ["_law_script", "_law_base"] []) :
  FnG P w K mg base Yk 17 f fd ["_law_script"] (spM K w F_law 1) :=
 okM (k := 16) F ykb fun cdv A outer s H E hr hgd => by
  have hN := ykb.nd
  have hu := hr.units
  exact zai (za5 1 hN (zas (zaa (zae) (zaa (zae) (zaa (zae) Yfg))))) (zai (st_for (B := f_law_l2) PassesOwn.never rfl (ii_rng1 (by rfl) ydk (zaa (zcl (call_max2 rfl) ok_max2 (zaa (zah) (zaa (zcl (call_min2 rfl) ok_min2 (zaa (zah) (zaa Yei (zad))) yj4) (zad))) yj3) (zad))) (pg_name (i := 2) hN rfl Ys) (zbd 2) (zai (za5 3 hN (zak (dts := []) (dvs := []) yhd Ya hgd (by rfl) yh0 yh1 yhe .nil Yf zaz (zaa (zac 0) Ya8))) (zar (st_for (B := f_law_l1) PassesOwn.never rfl (ii_rng1 (by rfl) ydk Yb6) (pg_name (i := 4) hN rfl Ys) (zbd 4) (zai (za5 5 hN (zap (zak (dts := []) (dvs := []) yf8 Ya hgd (by rfl) ygu ygv yf9 .nil Yf zaz (zaa (zac 3) Yb6)) (zah))) (zai (za5 6 hN (zb4 (zak (dts := []) (dvs := []) ycu Ya hgd (by rfl) ydg ydh ycv .nil Yf zaz (zaa (zac 3) (zaa (zas (zaa (zae) Yfg)) (zad)))) io_none (zcb (zak (dts := []) (dvs := []) yg Ya hgd (by rfl) yj yk yh .nil Yf zaz (zaa (zac 3) Yb6))))) (zai (za5 7 hN (zak (dts := []) (dvs := []) yz Ya hgd (by rfl) y8 y9 y0 .nil Yf zaz (zaa (zac 3) (zaa (zas (zaa (zae) (zaa (zae) (zaa (zae) (zaa (zae) (zaa (zae) (zaa (zae) (zaa (za4) (zaa (zah) (zaa (ie_bl) (zaa (ie_tup Yp) (zaa (zas Yp) Yp)))))))))))) (zad))))) (zai (zcs ((iw_or (it_notN (zak (dts := []) (dvs := []) yad Ya hgd (by rfl) yak yal yae .nil Yf za9 (zaa (zac 5) (zaa (zac 1) (zaa (zac 6) (zad))))) (za4)) (iw_or1 (it_notN (zak (dts := []) (dvs := []) yad Ya hgd (by rfl) yak yal yae .nil Yf za9 (zaa (zac 5) (zaa (ie_bt zcj ok_tup Yai yt) (zaa (ie_bt zcj ok_tup (zaa (zac 6) (zad)) yt) (zad))))) (za4)))).it) Yde (zbr)) (zai (zcs (it_ne hu (zak (dts := []) (dvs := []) yad Ya hgd (by rfl) yak yal yae .nil Yf za9 (zaa (zac 7) Yc9)) (zae)) Yde (zbr)) (zai (zcs (it_ne hu (zak (dts := []) (dvs := []) yad Ya hgd (by rfl) yak yal yae .nil Yf za9 (zaa (zac 5) Yc9)) (zae)) Yde (zbr)) (zai (zcs (it_ne hu (zak (dts := []) (dvs := []) yad Ya hgd (by rfl) yak yal yae .nil Yf za9 (zaa (zac 5) (zaa (zac 1) Ybg))) (zae)) Yde (zbr)) (zai (zcs (it_ne hu (zak (dts := []) (dvs := []) yad Ya hgd (by rfl) yak yal yae .nil Yf za9 (zaa (zac 5) (zaa (zac 1) (zaa (zas (zaa (zak (dts := []) (dvs := []) ycl Ya hgd (by rfl) yd5 yd6 yc7 .nil Yf (recN_len (fun _ => zaz) _) (zaa (zac 3) Yb6)) (zad))) (zad))))) (zae)) Yde (zbr)) (zar (zcs (it_ne hu (zak (dts := []) (dvs := []) yad Ya hgd (by rfl) yak yal yae .nil Yf za9 (zaa (zac 5) (zaa (zas Yp) (zaa (zas Yp) (zad))))) (zae)) Yde (zbr))))))))))))))) (zar (zay (ie_and (ie_isN (zak (dts := []) (dvs := []) yad Ya hgd (by rfl) yak yal yae .nil Yf za9 (zaa (zae) (zaa (zas Yfg) (zaa (zas Yp) (zad))))) (za4)) (ie_one (ie_isN (zak (dts := []) (dvs := []) yad Ya hgd (by rfl) yak yal yae .nil Yf za9 (zaa (zae) (zaa (zas Yp) (zaa (ie_tup (zad)) (zad))))) (za4)))))))
end
theorem all_mk : AllMk F_law := by
 intro l w K h mg fa KX G hfa yi yaf yfi yfj yfk yfl yfm yfn ycb ycc ybq ycd ycn ih it ia_Reader im_Reader ya yax yem yen yeo yep yc3 yeq yer yet yu yeu yev yew yex yey yez ybr ybs yba yag yay ybt yn yaz ya0 ye0 ybu ybv ybw ybx ye1 yby yah ya1 ye2 ybz yb0 ye3 ye4 yc4 ye5 yc5 ye6 yb1 yb2 yb3 ye7 ye8 ye9 yb4 yb5 yb6 yb7 yar ybb ybc ybd ybe ybf ybg ybh yp yx ybi yb8 y1 yaa yce yco y2 yab ycf ycp yq yr y3 y4 y5 y6 xsup xany xtop v_MOST_LETTERS w_MOST_LETTERS v_MOST_DIGITS w_MOST_DIGITS v_LETTERS w_LETTERS v_DIGITS w_DIGITS yds o_BARRED us_BARRED ygj w_BARRED lk_BARRED yc8 yc9 oa_BARRED or_BARRED oz_BARRED yas o_READER_WORDS us_READER_WORDS ycq w_READER_WORDS lk_READER_WORDS yam yan oa_READER_WORDS or_READER_WORDS oz_READER_WORDS yi9 yja yjb yh2 yjc ydn yjd yhf yje yhg yjf yjg ad_w_deal yir ydt ad_w_draw yis ydu ad_w_mixed yh3 yda ad_w_titles yhk ycr ad_w_pick yit ydv ad_is_name yh4 ydb ad_is_sequence ygb ya5 ad_deed_in yh5 ydc ad_deeds_in yhl ycs ad_number_in yg5 yca ad_spot_in yh6 ydd ad_test_in yh7 yde ad_tests_in yhm yct ad_Reader_init ydw ybj ybk ybl yat ybm ydx ybn sl_Reader_init yap to_Reader_init tn_Reader_init at_Reader_init fn_Reader_init yc0 yc1 yc2 e_Reader_init eo_Reader_init en_Reader_init t_Reader_init u_Reader_init el_Reader_init ec_Reader_init ed_Reader_init ea_Reader_init ad_w_heard yh8 ydf ad_w_bent_steps yfo yau ad_w_bent_checks yfa yao ad_w_any yji yel ad_law yj5 yh9
 have e0 := hfa.symm.trans (PySem.W.mg_of KX G yh9.1)
 obtain rfl : fa = ad_law := by cases e0; rfl
 have ycm : Cls K yi := ⟨yfi, yfj, yfk, yfl⟩
 have ygs : ClsF K mg "Reader" yi := ⟨yaf, PySem.W.mg_of KX G yaf, ycm⟩
 have yf5 : ∀ c ∈ (["Reader"] : List Str), FldOk K c "tests" := by
  intro c hc
  simp only [List.mem_cons, List.not_mem_nil, or_false] at hc
  subst hc
  ·exact ⟨_, yaf, ycm, ycb⟩
 have yf6 : ∀ c ∈ (["Reader"] : List Str), FldOk K c "deeds" := by
  intro c hc
  simp only [List.mem_cons, List.not_mem_nil, or_false] at hc
  subst hc
  ·exact ⟨_, yaf, ycm, ycc⟩
 have yfd : ∀ c ∈ (["Reader"] : List Str), FldOk K c "checks" := by
  intro c hc
  simp only [List.mem_cons, List.not_mem_nil, or_false] at hc
  subst hc
  ·exact ⟨_, yaf, ycm, ybq⟩
 have yf7 : ∀ c ∈ (["Reader"] : List Str), FldOk K c "steps" := by
  intro c hc
  simp only [List.mem_cons, List.not_mem_nil, or_false] at hc
  subst hc
  ·exact ⟨_, yaf, ycm, ycd⟩
 have ygr : ∀ c ∈ (["Reader"] : List Str), FldOk K c "name" := by
  intro c hc
  simp only [List.mem_cons, List.not_mem_nil, or_false] at hc
  subst hc
  ·exact ⟨_, yaf, ycm, ycn⟩
 have hT : IsTab K zc1 := by
  refine ⟨fun t c b tv cv h ht hc => ?_, fun c d b C h n => ?_⟩
  ·unfold zc1 at h
   split at h
   ·cases ht
    cases hc
    exact kit_ty h
   ·split at h
    ·rename_i a a2 e
     cases h
     obtain ⟨rfl, e⟩ := e
     obtain ⟨C1, rfl, n1⟩ := ht
     obtain ⟨C2, rfl, n2⟩ := hc
     cases n1.inj n2
     rcases e with rfl
     ·cases n1.inj yaf
      simp [PySem.W.kitOne]
    ·cases h
   ·cases h
  ·rcases d with d | d
   ·exact absurd h (by simp [zc1])
   ·simp only [zc1] at h
    split at h
    ·rename_i e
     obtain ⟨rfl, e⟩ := e
     rcases e with rfl
     ·cases n.inj yaf
      exact ⟨ycm, ia_Reader, ih, it, im_Reader⟩
    ·cases h
 have yff : OexC K ya := ⟨⟨_, _, _, _, _, _, _, _, _, _, _, _, _, _, _, ybr, ybs⟩, yba, yag, yay, ybt⟩
 have yfg : XIni l.prog K ya yn "InvalidReader.__init__" "word" (defArgs (inClass (topS 3) 0)) (defBody (inClass (topS 3) 0)) (defScope (inClass (topS 3) 0)) Yn := ⟨yff, ⟨_, _, _, _, _, _, _, _, _, _, _, _, _, _, _, _, _, _, _, rfl, ybz, yb0, yb1, yb2, yb3, yb4⟩, yaz, ya0, yb5, yb6, yb7, xsup, xany, yar, xtop⟩
 have yb : ∀ base : Heap, XF l.prog w K mg base "InvalidReader" ya yn Yn ["self", "word"] "word" := fun base => ⟨yff, yaz, ya0, yax, xini_ok yfg ⟨rfl, rfl, rfl, rfl, rfl, rfl, rfl, rfl, rfl, by decide +kernel, by decide, by decide⟩ (fun env => rfl), xini_hot yfg ⟨rfl, rfl, rfl, rfl, rfl, rfl, rfl, rfl, rfl, by decide +kernel, by decide, by decide⟩ (fun env => rfl), PySem.W.mg_of KX G yax, .all fun us hl => match us, hl with | [_, _], _ => rfl, exm_self yag ybb yay ybc⟩
 have yu : XcF K ya := ⟨ybd, ybe, yag, ybf, ybg, ih, it, ybh⟩
 have ybo := yar
 have yc6 := PySem.W.mg_of KX G yx
 have yd1 := PySem.W.mg_of KX G yaa
 have yd2 := PySem.W.mg_of KX G yab
 have yac := kt_ofb ybi yb8 yq (ne_ofb yr)
 have yai := kt_ofb yce yco y3 (ne_ofb y4)
 have yaj := kt_ofb ycf ycp y5 (ne_ofb y6)
 have ydy := PySem.W.mg_of KX G w_MOST_LETTERS
 have yed := PySem.W.mg_of KX G w_MOST_DIGITS
 have yg6 := PySem.W.mg_of KX G w_LETTERS
 have yhw := PySem.W.mg_of KX G w_DIGITS
 have yhv := PySem.W.mg_of KX G w_BARRED
 have ydz := PySem.W.mg_of KX G w_READER_WORDS
 have ycg := PySem.W.mg_none_of KX G yi9
 have yjh := PySem.W.mg_none_of KX G yja
 have ye := PySem.W.mg_none_of KX G yjb
 have ygc := PySem.W.mg_none_of KX G yh2
 have yhh := PySem.W.mg_none_of KX G yjc
 have yd := PySem.W.mg_none_of KX G ydn
 have yee := PySem.W.mg_none_of KX G yjd
 have yt := PySem.W.mg_none_of KX G yhf
 have yhi := PySem.W.mg_none_of KX G yje
 have ydk := PySem.W.mg_none_of KX G yhg
 have yj3 := PySem.W.mg_none_of KX G yjf
 have yj4 := PySem.W.mg_none_of KX G yjg
 have yh0 := PySem.W.mg_of KX G ydt.1
 have yh1 := ydt.2.kp
 have yjo := ydt.2
 have yj := PySem.W.mg_of KX G ydu.1
 have yk := ydu.2.kp
 have yjp := ydu.2
 have ydg := PySem.W.mg_of KX G yda.1
 have ydh := yda.2.kp
 have yi1 := yda.2
 have ygu := PySem.W.mg_of KX G ycr.1
 have ygv := ycr.2.kp
 have yim := ycr.2
 have y8 := PySem.W.mg_of KX G ydv.1
 have y9 := ydv.2.kp
 have yjq := ydv.2
 have ydi := PySem.W.mg_of KX G ydb.1
 have ydj := ydb.2.kp
 have yi2 := ydb.2
 have ya6 := PySem.W.mg_of KX G ya5.1
 have ya7 := ya5.2.kp
 have ygz := ya5.2
 have yfp := PySem.W.mg_of KX G ydc.1
 have yfq := ydc.2.kp
 have yi3 := ydc.2
 have ygp := PySem.W.mg_of KX G ycs.1
 have ygq := ycs.2.kp
 have yin := ycs.2
 have yfz := PySem.W.mg_of KX G yca.1
 have yf0 := yca.2.kp
 have yhs := yca.2
 have yfr := PySem.W.mg_of KX G ydd.1
 have yfs := ydd.2.kp
 have yi4 := ydd.2
 have yft := PySem.W.mg_of KX G yde.1
 have yfu := yde.2.kp
 have yi5 := yde.2
 have ygm := PySem.W.mg_of KX G yct.1
 have ygn := yct.2.kp
 have yio := yct.2
 have yhx : Mk K yi ad_Reader_init := ⟨yfm, at_Reader_init, fn_Reader_init, yfn⟩
 have dt_Reader_init : ∀ s, RwL K s (([.tup []] : List T).map W.t) [V.ref e_Reader_init] := fun s => ⟨V.ref e_Reader_init, [], rfl, by simp only [Rw, Rf]; exact ⟨e_Reader_init, [], rfl, .inr ⟨eo_Reader_init, #[], en_Reader_init, el_Reader_init, ec_Reader_init, ed_Reader_init, ea_Reader_init, by simp, .nil⟩, rfl⟩, rfl⟩
 have yg0 : FunD K "__init__" "Reader.__init__" (defArgs yc) (defBody yc) (defScope yc) [V.ref e_Reader_init] [] ad_Reader_init Yac := ⟨⟨ydw, ydx, (.ref yap), ybj, ybk, ybl, ybn, yat, ybm, sl_Reader_init, rfl, yc0, yc1, .inr ⟨by simp, yap, to_Reader_init, [.ref e_Reader_init], tn_Reader_init, rfl, t_Reader_init, u_Reader_init, .cons rfl .nil⟩, .inl rfl⟩, yc2⟩
 have yak := PySem.W.mg_of KX G ydf.1
 have yal := ydf.2.kp
 have yi6 := ydf.2
 have ycy := PySem.W.mg_of KX G yau.1
 have ycz := yau.2.kp
 have ygh := yau.2
 have ya8 := PySem.W.mg_of KX G yao.1
 have ya9 := yao.2.kp
 have yfx := yao.2
 have yd5 := PySem.W.mg_of KX G yel.1
 have yd6 := yel.2.kp
 have yjx := yel.2
 have yke := yh9.2
 have yh := yjp.bindsN (ps := ["_law_deal_here", "_law_wide"]) fun _ _ _ _ _ _ us hl => match us, hl with | [_, _], _ => rfl
 have ycv := yi1.bindsN (ps := ["_law_deal_here", "_law_some"]) fun _ _ _ _ _ _ us hl => match us, hl with | [_, _], _ => rfl
 have ycx := yi2.bindsN (ps := ["value"]) fun _ _ _ _ _ _ us hl => match us, hl with | [_], _ => rfl
 have yeg := yi3.bindsN (ps := ["value", "words"]) fun _ _ _ _ _ _ us hl => match us, hl with | [_, _], _ => rfl
 have yaw := ygz.bindsN (ps := ["value"]) fun _ _ _ _ _ _ us hl => match us, hl with | [_], _ => rfl
 have yfc := yhs.bindsN (ps := ["word", "digits"]) fun _ _ _ _ _ _ us hl => match us, hl with | [_, _], _ => rfl
 have yei := yi4.bindsN (ps := ["word", "deeds"]) fun _ _ _ _ _ _ us hl => match us, hl with | [_, _], _ => rfl
 have yek := yi5.bindsN (ps := ["value", "deeds"]) fun _ _ _ _ _ _ us hl => match us, hl with | [_, _], _ => rfl
 have yf2 := yio.bindsN (ps := ["value", "deeds"]) fun _ _ _ _ _ _ us hl => match us, hl with | [_, _], _ => rfl
 have yf4 := yin.bindsN (ps := ["value", "words"]) fun _ _ _ _ _ _ us hl => match us, hl with | [_, _], _ => rfl
 have yd3 : Binds K Yac ["self", "name", "steps", "checks"] [] := by
  obtain ⟨ds, r, b⟩ := yg0.binds1 (ps := ["self", "name", "steps", "checks"]) 4 1 Yav Yav fun T kV doc pm an cdv ct us its hu hi => match us, hu, its, hi with | [_, _, _, _], _, [_], _ => ⟨_, rfl, rfl⟩
  cases r
  exact b
 have y0 := yjq.bindsN (ps := ["_law_deal_here", "_law_some"]) fun _ _ _ _ _ _ us hl => match us, hl with | [_, _], _ => rfl
 have yc7 := yjx.bindsN (ps := ["_law_deal_here", "_law_deep"]) fun _ _ _ _ _ _ us hl => match us, hl with | [_, _], _ => rfl
 have yae := yi6.bindsN (ps := ["_law_title", "_law_steps", "_law_checks"]) fun _ _ _ _ _ _ us hl => match us, hl with | [_, _, _], _ => rfl
 have ya4 := yfx.bindsN (ps := ["_law_deal_here", "_law_checks"]) fun _ _ _ _ _ _ us hl => match us, hl with | [_, _], _ => rfl
 have yci := ygh.bindsN (ps := ["_law_deal_here", "_law_steps"]) fun _ _ _ _ _ _ us hl => match us, hl with | [_, _], _ => rfl
 have yf9 := yim.bindsN (ps := ["_law_deal_here", "_law_size"]) fun _ _ _ _ _ _ us hl => match us, hl with | [_, _], _ => rfl
 have yhe := yjo.bindsN (ps := ["_law_script", "_law_base"]) fun _ _ _ _ _ _ us hl => match us, hl with | [_, _], _ => rfl
 have yhd := fun base : Heap => yjz (P := l.prog) (w := w) (mg := mg) (base := base) yjo ycg yjh
 have yg := fun base : Heap => yj0 (P := l.prog) (w := w) (mg := mg) (base := base) yjp ycg
 have ycu := fun base : Heap => yjr (P := l.prog) (w := w) (mg := mg) (base := base) yi1 ye ygc (yg base) yj yk yh
 have yf8 := fun base : Heap => yjj (P := l.prog) (w := w) (mg := mg) (base := base) yim (ycu base) ydg ydh ycv
 have yz := fun base : Heap => yj2 (P := l.prog) (w := w) (mg := mg) (base := base) yjq ye (yg base) yj yk yh
 have ycw := fun base : Heap => yjs (P := l.prog) (w := w) (mg := mg) (base := base) yi2 yhh yd yee ye ydy yg6 hT yhv lk_BARRED yc8 yc9 oa_BARRED or_BARRED oz_BARRED
 have yav := fun base : Heap => yic (P := l.prog) (w := w) (mg := mg) (base := base) ygz yd yt ygc hT
 have yef := fun base : Heap => yjt (P := l.prog) (w := w) (mg := mg) (base := base) yi3 ye yd yee (ycw base) ydi ydj ycx hT
 have yf3 := fun base : Heap => yjk (P := l.prog) (w := w) (mg := mg) (base := base) yin ye yhi yt (yef base) yfp yfq yeg (yav base) ya6 ya7 yaw
 have yfb := fun base : Heap => yi8 (P := l.prog) (w := w) (mg := mg) (base := base) yhs ycg ye yhh yhw
 have yeh := fun base : Heap => yju (P := l.prog) (w := w) (mg := mg) (base := base) yi4 ye yed (yfb base) yfz yf0 yfc
 have yej := fun base : Heap => yjv (P := l.prog) (w := w) (mg := mg) (base := base) yi5 ye yd yee (yeh base) yfr yfs yei hT
 have yf1 := fun base : Heap => yjl (P := l.prog) (w := w) (mg := mg) (base := base) yio ye yhi yt (yej base) yft yfu yek (yav base) ya6 ya7 yaw
 have yd0 := fun base : Heap => yig (P := l.prog) (w := w) (mg := mg) (base := base) yg0 yt (yf1 base) ygm ygn yf2 (yf3 base) ygp ygq yf4 (ycw base) ydi ydj ycx yf5 yf6 yfd yf7 ygr (yb base) ydz lk_READER_WORDS yam yan oa_READER_WORDS or_READER_WORDS oz_READER_WORDS
 have yad := fun base : Heap => yjw (P := l.prog) (w := w) (mg := mg) (base := base) yi6 yd ygs (yd0 base) yhx (yb base) yu yx yc6 yac yaa yd1 yai yab yd2 yaj ybo yd3
 have ych := fun base : Heap => yhy (P := l.prog) (w := w) (mg := mg) (base := base) ygh ye (yz base) y8 y9 y0 (yg base) yj yk yh
 have ya3 := fun base : Heap => yhj (P := l.prog) (w := w) (mg := mg) (base := base) yfx ye (yz base) y8 y9 y0 (yg base) yj yk yh
 have ycl := fun base : Heap => fnG_rec (P := l.prog) (w := w) (mg := mg) (base := base) (S := S_w_any) (L := 4) (m := 2) (ps := ["_law_deal_here", "_law_deep"]) (fun _ => zaz) (fun G r hG ycl => yka yjx hG yt ydk (yz base) y8 y9 y0 (yg base) yj yk yh ycl yd5 yd6 yc7) rfl 12
 exact ⟨_, fun s v => yke.bindsA (ps := ["_law_script"]) (fun _ _ _ _ _ _ us hl => match us, hl with | [_], _ => rfl) s [v] rfl, fun base _ _ => ykf yke ydk yj3 yj4 ye yt (yad base) yak yal yae (ycl base) yd5 yd6 yc7 (ya3 base) ya8 ya9 ya4 (ych base) ycy ycz yci (yz base) y8 y9 y0 (ycu base) ydg ydh ycv (yg base) yj yk yh (yf8 base) ygu ygv yf9 (yhd base) yh0 yh1 yhe⟩
end D
theorem PySem.Challenge.cw_untorn_k06_readers_refused_holds : PySem.Challenge.rw_untorn_k06_readers_refused.Holds :=
 D.early D.all_mk fun h => D.law_is h
