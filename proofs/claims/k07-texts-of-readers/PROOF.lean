import PyProof.Rows.All
import PySem.Challenge.RW_untorn_k07_texts_of_readers
import KE.OsRunLaw
import HandS.Head0
import HandS.Head1
import HandS.Head2
import KE.KDictKeyed
import Wide.All
import OpenK.AllK
import Wide.FinOn
import HandS.ForMost
import HandS.Zip
import HandS.Style
import HandS.Star
import KE.DataEq
import KE.GoesEnum
import KE.GoesMore
import HandS.WordsExc
import HandS.Defaults
import HandS.Conv
import HandS.Wide
import HandS.TupAny
import HandS.RaiseMore
import HandS.Strs
import KE.KIndexOf
import HandS.SortInts
import HandS.Dict
import HandS.TryOnly
import HandS.List
import PyProof.ReprRoads
import HandS.Sort
import HandS.WideMore
import KE.SortKeyHeap
import HandS.SortKw
import PyProof.TupleOfSeq
import HandS.DictEq
import KE.KDictPairs
import KE.KDictZip
import PyProof.StrLawsRepr
import HandS.Property
import HandS.ClsMeth
import HandS.ExcInit
import HandS.ExcInitHot
import KE.KExcSuper
import HandS.CallSlots
import HandS.ExcCtx
import HandS.CallLocal
import HandS.SuiteRaise
import HandS.RaiseFrom
import HandS.ExcField
import HandS.ExcIs
import HandS.IsInst
import HandS.Text
import HandS.FStr
import PyProof.Rows.SetFrom
import HandS.SetKeys
import HandS.DictComp
import PyProof.InstSpecial
import HandS.TupSets
import HandS.TupMul
import HandS.Codes
import KE.SortData
import HandS.SetFor
import HandS.SetBool
import HandS.More
import HandS.SetTxt0
import PyProof.Rows.SortShellAny
import KE.KDictDisplayH
import PyProof.DictTable
import KE.KCallOwn
import HandS.ListItems
import HandS.OwnEq
import PyProof.InstNe
import KE.LtData
import KE.KDictSum
import KE.KDictCopyH
import HandS.TryMany
import KE.KExcIs
set_option Elab.async false
set_option linter.all false
set_option maxRecDepth 100000
set_option maxHeartbeats 4000000
set_option autoImplicit false
set_option hygiene false
local macro_rules | `($x:ident) => do
 let .str .anonymous s := x.getId | Lean.Macro.throwUnsupported
 if s.front != 'Y' then Lean.Macro.throwUnsupported
 match s with
 | "Ya" => `((mSeq (mIf (mAnd (zae asB (mBin (eqW false) (mApp oLen (zab (mVar 5) (mNil))) (mC (.int 2)))) (zae asB (mBin iGe (mBin ixW (mVar 5) (mC (.int 0))) (mBin ixW (mVar 5) (mC (.int 1)))))) (mRet (mC (.bl false))) (zbh)) (mIf (mAnd (zae asB (mBin (eqW false) (mApp oLen (zab (mVar 5) (mNil))) (mC (.int 2)))) (zae asB (mBin (eqW true) (mBin ixW (mVar 1) (mBin ixW (mVar 5) (mC (.int 0)))) (mBin ixW (mVar 1) (mBin ixW (mVar 5) (mC (.int 1))))))) (mRet (mC (.bl false))) (zbh))))
 | "Yb" => `((by omega))
 | "Yc" => `((mIf (mOr (zae asB (mBin (inW false) (mC .non) (mVar 5))) (zae asB (mBin (inW true) (mApp za2 (zab (mBin ixW (mVar 4) (mC (.int 0))) (zab (mApp oLen (zab (mVar 5) (mNil))) (mNil)))) (mApp za2 (zab (mApp za2 (zab (mC (.str "even")) (zab (mC (.int 1)) (mNil)))) (zab (mApp za2 (zab (mC (.str "same")) (zab (mC (.int 2)) (mNil)))) (mNil))))))) (mRet (mC (.bl false))) (zbh)))
 | "Yd" => `((mC (.int 0)))
 | "Ye" => `((hr.mono (by decide)))
 | "Yf" => `((by simp_all_arith!))
 | "Yg" => `((mC (.int 1)))
 | "Yh" => `((ds.map dTr))
 | "Yi" => `((.Call (.Attribute (.Call (.Name "super" p0) [] [] p1) "__init__" p2) [.Constant (.str txt) j p3] [] p4))
 | "Yj" => `((List.mem_cons_self ..))
 | "Yk" => `((zab (mSM zbl (mVar 4) (mC (.str ", "))) (zab (mIf (zae asB (mBin (eqW true) (mVar 5) (mC (.str "")))) (mSM zbl (mVar 6) (mC (.str ", "))) (mApp za2 (mNil))) (mNil))))
 | "Yl" => `((by simp [Rw, Rf]))
 | "Ym" => `((Aft.refl s))
 | "Yn" => `((L2.CX P w))
 | "Yo" => `((model X.prog X.w))
 | "Yp" => `((fun s => rfl))
 | "Yq" => `((zab (mVar 1) (mNil)))
 | "Yr" => `((ts.map W.t))
 | "Ys" => `((eqW false))
 | "Yt" => `((by decide +kernel))
 | "Yu" => `((mApp newL (zab (mC (.str "")) (zab (mC (.str "reader")) (zab (mC (.str "read")) (zab (mC (.str "look")) (zab (mC (.str "a")) (zab (mC (.str "a,")) (zab (mC (.str "c")) (zab (mC (.str "if")) (zab (mC (.str "even")) (zab (mC (.str "same")) (zab (mC (.str "0")) (zab (mC (.str "1")) (zab (mC (.str "2,")) (zab (mC (.str "r:")) (zab (mC (.str "write")) (zab (mC (.str "01")) (mNil)))))))))))))))))))
 | "Yv" => `((eqW true))
 | "Yw" => `((PySem.W.ksFn "__init__" "InvalidReader.__init__" (defArgs (inClass (topS 2) 0)) (defBody (inClass (topS 2) 0)) (defScope (inClass (topS 2) 0)) .none ybx yby ybz yb1 (.ref y6) yb0 yaw))
 | "Yx" => `((PySem.W.ksFn "__init__" "InvalidText.__init__" (defArgs (inClass (topS 3) 0)) (defBody (inClass (topS 3) 0)) (defScope (inClass (topS 3) 0)) .none yc9 yda ydb ydd (.ref yaj) ydc ybg))
 | _ => Lean.Macro.throwUnsupported
local macro_rules | `($x:ident) => do
 let .str .anonymous s := x.getId | Lean.Macro.throwUnsupported
 if s.front != 'Y' then Lean.Macro.throwUnsupported
 match s with
 | "Yy" => `((some (.t (.str a))))
 | "Yz" => `((zab (mVar 3) (zab (mApp zas (zab (mC (.str " ")) (zab (mC (.str ",")) (zab (mC (.str ":")) (zab (mC (.str "\n")) (zab (mC (.str "q")) (zab (mC (.str ", ")) (mNil)))))))) (mNil))))
 | "Y0" => `((hK P w k))
 | "Y1" => `((zae truW (mApp (oIsi zez) (zab (mVar 0) (zab (mC (.ty "str")) (mNil))))))
 | "Y2" => `((by first | exact blkOk_by (N := yf3) (sc := defScope ycf) (by decide +kernel) | exact blkOk_by (by with_unfolding_all rfl) | exact blkOk_by (by decide +kernel +revert)))
 | "Y3" => `((mApp oLen (zab (mVar 3) (mNil))))
 | "Y4" => `((by simp))
 | "Y5" => `((SetTable.insertAt es j (hK P w k, Value.ref x)))
 | "Y6" => `((getMethod ov "__init__" (do return (← importBound (.Call (.Name "super" p0) [] [] p1) env).getD true)))
 | "Y7" => `((zab (mVar 0) (mNil)))
 | "Y8" => `((.lst (ps.map T.str)))
 | "Y9" => `((fun _ _ _ _ _ => zch))
 | "Yaa" => `((ds.map fun d => .str (dTx d)))
 | "Yab" => `((by rw [List.length_map]; omega))
 | "Yac" => `((some (.lst (([] : List Int).map wI))))
 | "Yad" => `((.t (.lst ts)))
 | "Yae" => `((NestedKey × Addr × V))
 | "Yaf" => `((zaa (zac 1) (zad)))
 | "Yag" => `((mC .non))
 | "Yah" => `((.Call (.Name x p) (e :: es) [] pos))
 | "Yai" => `((hp.set j (some (.lst (ys.map wI)))))
 | "Yaj" => `((Nat.le_of_ble_eq_true rfl))
 | "Yak" => `((.tup ((w0 :: ws).map T.str)))
 | "Yal" => `((e :: es))
 | _ => Lean.Macro.throwUnsupported
local macro_rules | `($x:ident) => do
 let .str .anonymous s := x.getId | Lean.Macro.throwUnsupported
 if s.front != 'Y' then Lean.Macro.throwUnsupported
 match s with
 | "Yam" => `((some (.t (.str y))))
 | "Yan" => `((by simp; omega))
 | "Yao" => `((some (.lst [.r j, .t (.int ((st * 48271 + 43) % 2147483647))])))
 | "Yap" => `((by rw [zej, List.length_map]))
 | "Yaq" => `((.t (.tup ts)))
 | "Yar" => `((.builtin "object.__class__"))
 | "Yas" => `((.scr (ns.map T.int)))
 | "Yat" => `((zab (mVar 2) (mNil)))
 | "Yau" => `((.t (.int (n : Nat))))
 | "Yav" => `((model prog w))
 | "Yaw" => `((PySem.W.fnOf "__init__" "Reader.__init__" (defArgs yi) (defBody yi) (defScope yi) (.ref yac) ybh ybi ybj ybl yan ybk))
 | "Yax" => `((PySem.W.fnOf x q (defArgs s) (defBody s) (defScope s) .none kV dc pm an cd ct))
 | "Yay" => `((mC (.str " ")))
 | "Yaz" => `((mBin wAdd (mC (.str " if ")) (mSM zeq (mC (.str ", ")) (zaq zbx [] (zab (mBin ixW (mVar 0) (mC (.int 2))) (mNil))))))
 | "Ya0" => `((X.blk s H scope (compEnvC scope cl C X.env) fp))
 | "Ya1" => `((mBin (inW true) (mC (.str "read")) (zbq zas (mSq (mVar 4)) (gT 2 (gsC (gN 6) (gsC (gN 7) gsN))) mYes zba [6, 7])))
 | "Ya2" => `((zaa (zai) (zaa (zai) (zaa (zai) (zaa (zai) (zaa (zai) (zaa (zai) (zad))))))))
 | "Ya3" => `((fun _ _ => rfl))
 | "Ya4" => `((.t (.int i)))
 | "Ya5" => `((.type "BaseException"))
 | "Ya6" => `(((a, oe) :: pn))
 | "Ya7" => `((ze4 (it_tru (zb8 call_isiA (ok_isi hT) (zaa (zac 0) (zaa (ie_ty yah (by with_unfolding_all rfl)) (zad))) yj))))
 | "Ya8" => `((mBin (inW false) (mVar 0) (mApp za2 (zab (mC (.str "if")) (zab (mC (.str "bump")) (zab (mC (.str "even")) (zab (mC (.str "kind")) (zab (mC (.str "look")) (zab (mC (.str "read")) (zab (mC (.str "same")) (mNil)))))))))))
 | "Ya9" => `((mApp zas (mNil)))
 | _ => Lean.Macro.throwUnsupported
local macro_rules | `($x:ident) => do
 let .str .anonymous s := x.getId | Lean.Macro.throwUnsupported
 if s.front != 'Y' then Lean.Macro.throwUnsupported
 match s with
 | "Yba" => `((zal (zac 3) (zag)))
 | "Ybb" => `((zab (mVar 4) (mNil)))
 | "Ybc" => `((hp.set j (some (.lst (g2.map wI)))))
 | "Ybd" => `((ws.map T.str))
 | "Ybe" => `((zab (mVar 3) (zab (mApp zas (zab (mC (.str "a")) (zab (mC (.str "b")) (zab (mC (.str "d")) (mNil))))) (zab (mApp zas (zab (mC (.str "c")) (zab (mC (.str "e")) (mNil)))) (zab (mC (.int 5)) (mNil))))))
 | "Ybf" => `((.t (.int wide)))
 | "Ybg" => `((ev_eqs.trans rfl))
 | "Ybh" => `((.t .non))
 | "Ybi" => `((zal (zac 0) (zag)))
 | "Ybj" => `((s.heap.objs.size + 1))
 | "Ybk" => `((Value × (Addr → Value → Option Addr → TS)))
 | "Ybl" => `((cs.map T.str))
 | "Ybm" => `((.Call (.Name "len" p) [.Call (.Name "set" p2) [a] [] q] [] pos))
 | "Ybn" => `((zaa (zag) (zad)))
 | "Ybo" => `((X.env :: X.outer))
 | "Ybp" => `((fun z => by cases z))
 | "Ybq" => `((starEach es X.env))
 | "Ybr" => `((NestedKey × Addr × Value))
 | "Ybs" => `((A.deeper (envOfC qual (defScope st) s.heap.objs.size f cdv)))
 | "Ybt" => `((fun acc k => if memT k acc = true then acc else acc ++ [k]))
 | "Ybu" => `((List.mem_cons_of_mem _ hx))
 | "Ybv" => `((some (.t (.str p.2.1))))
 | "Ybw" => `((some (.t (.str p.2.2))))
 | "Ybx" => `((by first | exact blkOk_by (N := yfi) (sc := defScope ybb) (by decide +kernel) | exact blkOk_by (by with_unfolding_all rfl) | exact blkOk_by (by decide +kernel +revert)))
 | _ => Lean.Macro.throwUnsupported
local macro_rules | `($x:ident) => do
 let .str .anonymous s := x.getId | Lean.Macro.throwUnsupported
 if s.front != 'Y' then Lean.Macro.throwUnsupported
 match s with
 | "Yby" => `((mIf (mOr (zae asB (mBin Yv (mApp oLen Yat) (mC (.int 2)))) (mOr (zae asB (mBin (inW true) (mBin ixW (mVar 2) Yd) (mVar 1))) (mNot (zae truW (zaq zbw [] (zab (mBin ixW (mVar 2) Yg) (mNil))))))) (mRet Yag) (zbh)))
 | "Ybz" => `((by decide))
 | "Yb0" => `((zab (mBin ixW (mVar 3) Yd) (zab (mBin ixW (mVar 3) Yg) (mNil))))
 | "Yb1" => `((.t (.lst Yh)))
 | "Yb2" => `((mIf (mOr (zae asB (mBin Yv Y3 (mC (.int 2)))) (mOr (zae asB (mBin (inW true) (mBin ixW (mVar 3) Yd) (mApp za2 (zab (mC (.str "read")) (zab (mC (.str "look")) (mNil)))))) (mNot (zae truW (zaq zb4 [] (zab (mBin ixW (mVar 3) Yg) (mNil))))))) (mRet Yag) (zbh)))
 | "Yb3" => `((zan (st_raise rfl (L2N.takes_of rfl rfl rfl rfl) (xc_cold yc.T yc.iC yc.tI yc.cn yc.ok Ye yc.bd rfl yc.mg (zaa (zai) (zad))))))
 | "Yb4" => `((mBin ixW (mVar 0) Yd))
 | "Yb5" => `((.Call (.Name "super" p0) [] [] p1))
 | "Yb6" => `((mSeq (mSet 12 (zaq za0 [] (zab (mVar 3) (zab (mBin wAdd (mApp oLen (zab (mVar 6) (mNil))) Yg) (mNil))))) (mSet 11 (mBin wAdd (mBin wAdd (mSl (mVar 6) zat (zbt (mVar 12))) (zaq zcq [] Yz)) (mSl (mVar 6) (zbt (mVar 12)) zat)))))
 | "Yb7" => `((zab (mVar 5) (mNil)))
 | "Yb8" => `((mC (.int 2)))
 | "Yb9" => `((mBin ixW (mVar 2) Yd))
 | "Yca" => `((pg_name (i := 4) hN rfl Yf))
 | "Ycb" => `((mC (.str ", ")))
 | "Ycc" => `((.tup Yh))
 | "Ycd" => `((.bl false))
 | "Yce" => `((hp.objs.size + 1))
 | "Ycf" => `((Addr × List Key))
 | "Ycg" => `((mC (.str "")))
 | "Ych" => `((model P w))
 | "Yci" => `((.t (.str s)))
 | "Ycj" => `((zaa (zac 2) (zad)))
 | "Yck" => `((by rw [jw, show c + (c' - c) = c' by omega]; exact b3))
 | "Ycl" => `((.lst ((r.map (za9 ds)).map optN)))
 | _ => Lean.Macro.throwUnsupported
local macro_rules | `($x:ident) => do
 let .str .anonymous s := x.getId | Lean.Macro.throwUnsupported
 if s.front != 'Y' then Lean.Macro.throwUnsupported
 match s with
 | "Ycm" => `((fun _ _ _ _ _ => its_one ((zeh (zd1 hu (ie_bt call_strS ok_str (zaa (zac 5) (zad)) yah) (zac 3)) (zdf (zd1 hu (zal (zal (zac 1) (zac 5)) (zag)) (zai)))).it)))
 | "Ycn" => `((.str ⟨#[c]⟩))
 | "Yco" => `((mSq (mVar 2)))
 | "Ycp" => `((.t (.lst Fd)))
 | "Ycq" => `((zaq za0 [] (zab (mVar 0) (zab (mC (.int 3)) (mNil)))))
 | "Ycr" => `((some (.t (.str p.1))))
 | "Ycs" => `((zb8 call_len zb3 (zaa (zac 3) (zad)) yd))
 | "Yct" => `((.t (.int j)))
 | "Ycu" => `((some (.ref a)))
 | "Ycv" => `((.lst ((w :: r).map T.str)))
 | "Ycw" => `((.str "reader "))
 | "Ycx" => `((cs.map chkT))
 | "Ycy" => `((Txt.join ", " (r.2.2.map zbe)))
 | "Ycz" => `((.lst ((Txt.split a ", ").map T.str)))
 | "Yc0" => `((mC (.str "look")))
 | "Yc1" => `((zdb (ze4 (it_tru (zap (dts := []) (dvs := []) yar Ye hgd (by rfl) ya0 ya1 yas .nil Yp zbc (zaa (zac 0) (zad))))) (zan (zav (zby))) (zbu)))
 | "Yc2" => `((fun xs H Q => (∃ a, xs = [.str a] ∧ Q (.str a) H) ∨ (∃ i, xs = [.int i] ∧ i.natAbs.log2 < 1920 ∧ Q (.str (toString i)) H)))
 | "Yc3" => `((Option Value))
 | "Yc4" => `(((entry i0 p0 h0).trans (congrArg (hK P w) k0)))
 | "Yc5" => `((Addr × Obj))
 | "Yc6" => `((fun xs H Q => ∃ p ys, xs = [.ref p] ∧ (SqL K H p ys ∨ SqT K H p ys) ∧ ∀ l, H l = none → Q (.ref l) (upd H l (.lst ys))))
 | "Yc7" => `((PySem.HandSPX.excO C hp.objs.size))
 | "Yc8" => `((zan (zav (zby))))
 | "Yc9" => `(((a, oe4) :: (X.pn ++ pins)))
 | _ => Lean.Macro.throwUnsupported
local macro_rules | `($x:ident) => do
 let .str .anonymous s := x.getId | Lean.Macro.throwUnsupported
 if s.front != 'Y' then Lean.Macro.throwUnsupported
 match s with
 | "Yda" => `((pg_name (i := 2) hN rfl Yf))
 | "Ydb" => `((cxOf CX P w K mg base N qual (defScope st) f cdv A outer s H E))
 | "Ydc" => `((.r hp.length))
 | "Ydd" => `((.t (.bl true)))
 | "Yde" => `((defScope st))
 | "Ydf" => `((L2.CX X.prog X.w))
 | "Ydg" => `((mBin Ys (mBin ixW (mBin ixW (mVar 1) (mBin ixW (mVar 3) Yd)) Yg) (mBin ixW (mBin ixW (mVar 1) (mBin ixW (mVar 3) Yg)) Yg)))
 | "Ydh" => `((fun _ => wq_raise rfl ⟨rfl, rfl, rfl⟩))
 | "Ydi" => `((.tup [.tup [.str "even", .int 1], .tup [.str "same", .int 2]]))
 | "Ydj" => `((w0 :: ws))
 | "Ydk" => `((zaw (b := true) (orE (a := true) (b := true) e fun z => by cases z) (fun c => zay (vc_c (zd7 rfl))) fun c => by cases c))
 | "Ydl" => `((zap (dts := []) (dvs := []) yg Ye hgd (by rfl) yk ym yh .nil Yp zbk (zaa (zac 0) (zaa (zb8 call_len zb3 Yaf yd) (zad)))))
 | "Ydm" => `((starEach [.Constant (.str txt) j p3] env))
 | "Ydn" => `((Txt.partition (zbf s "reader ").2 " if "))
 | "Ydo" => `((mBin (inW false) (mVar 0) (mC (.tup ((["if", "bump", "even", "kind", "look", "read", "same"] : List Str).map T.str)))))
 | "Ydp" => `((L.map fun n => T.int (n : Nat)))
 | "Ydq" => `((zae truW (zaq za6 [] Y7)))
 | "Ydr" => `((mSet 11 (mSM zeq Yay (mBin wAdd (mSl (mVar 7) zat (zbt (mVar 9))) (mSl (mVar 7) (zbt (mBin wAdd (mVar 9) Yg)) zat)))))
 | "Yds" => `((.ref ya))
 | "Ydt" => `((some (.lst ((ys ++ [y / wide]).map wI))))
 | "Ydu" => `((E (some (.t (.str n))) (some (.t (.str r))) none none none))
 | "Ydv" => `((zb8 call_len zb3 (zaa (zac 5) (zad)) yd))
 | "Ydw" => `((zb8 call_len zb3 (zaa (zac 0) (zad)) yd))
 | "Ydx" => `((fun _ _ _ _ _ => its_one ((zeh (it_notN (zac 5) (zby)) (zdf (zd1 hu (zal (zac 5) (zag)) (zal (zac 1) (zag))))).it)))
 | _ => Lean.Macro.throwUnsupported
local macro_rules | `($x:ident) => do
 let .str .anonymous s := x.getId | Lean.Macro.throwUnsupported
 if s.front != 'Y' then Lean.Macro.throwUnsupported
 match s with
 | "Ydy" => `((show ¬ ((Value.ref T == Value.none) = true) from by simp))
 | "Ydz" => `((((zdw ks).length : Nat) : Int))
 | "Yd0" => `((zaa (zac 4) (zad)))
 | "Yd1" => `((zan (zav (ie_bl))))
 | "Yd2" => `((by simp only [List.length_cons]; omega))
 | "Yd3" => `((fun v H2 => v = .non ∧ Q (.ref x) H2))
 | "Yd4" => `((ns.map V.int))
 | "Yd5" => `((eval o X.env))
 | "Yd6" => `((.t (.str x)))
 | "Yd7" => `((.type "type"))
 | "Yd8" => `((Nat.le_refl _))
 | "Yd9" => `((some (.builtin "ValueError.__init__")))
 | "Yea" => `((some (.t (.int (at_ : Nat)))))
 | "Yeb" => `((mBin iGe (mBin ixW (mVar 3) Yd) (mBin ixW (mVar 3) Yg)))
 | "Yec" => `((cG s ds cs a w r))
 | "Yed" => `((fun _ _ _ _ _ => zap (dts := []) (dvs := []) ygl Ye hgd (by rfl) yib yic ygm .nil Yp zbc (zaa (zac 4) Yaf)))
 | "Yee" => `((fun _ _ _ _ _ => zap (dts := []) (dvs := []) ygn Ye hgd (by rfl) yid yie ygo .nil Yp zbc (zaa (zac 4) Yaf)))
 | "Yef" => `((fun _ _ _ _ _ => zap (dts := []) (dvs := []) ygp Ye hgd (by rfl) yif yig ygq .nil Yp zbc (zaa (zac 3) Yaf)))
 | "Yeg" => `((ie_eq hu (zap (dts := []) (dvs := []) ydw Ye hgd (by rfl) yem yen ydx .nil Yp zbc (zaa (zai) (zad))) (zag)))
 | "Yeh" => `((("self" : Str), Value.ref e))
 | "Yei" => `((fun _ _ _ _ _ => zcr (zaa (zai) (zaa (zap (dts := []) (dvs := []) ybp Ye hgd (by rfl) yc0 yc1 ybq .nil Yp zbk (zaa (zac 0) Ycj)) (zad)))))
 | "Yej" => `((mBin wAdd (mBin wAdd (mBin wAdd (mC Ycw) Yb4) (mC (.str ": "))) (mSM zeq Ycb (zaq zcb [] (zab (mBin ixW (mVar 0) Yg) (mNil))))))
 | "Yek" => `(((mSeq Yby (mRet (mApp za2 (zab Yb9 (zab (mBin ixW (mVar 2) Yg) (mNil))))) : M Fl) [w0, some (.t (.tup Ybd)), some (.t Y8)] []))
 | "Yel" => `((pg_any rfl (pgs_cons Yca (pgs_cons (pg_name (i := 5) hN rfl Yf) (pgs_cons (pg_name (i := 6) hN rfl Yf) (pgs_nil))))))
 | _ => Lean.Macro.throwUnsupported
local macro_rules | `($x:ident) => do
 let .str .anonymous s := x.getId | Lean.Macro.throwUnsupported
 if s.front != 'Y' then Lean.Macro.throwUnsupported
 match s with
 | "Yem" => `((q.mono fun _ _ q => Wp.ok q))
 | "Yen" => `((zaq za0 [] (zab (mVar 0) (zab (mApp oLen Yq) (mNil)))))
 | "Yeo" => `((mBin Ys (mBin ixW (mVar 5) Yd) (mBin ixW (mVar 1) Yd)))
 | "Yep" => `((zaa (zai) (zaa (zai) (zad))))
 | "Yeq" => `((.nx eta))
 | "Yer" => `((mBin Yv (mBin ixW (mVar 0) Yb8) Ya9))
 | "Yes" => `((.pr [.int ((0 + n : Nat)), (ds.map dTr).getD n .non]))
 | "Yet" => `((by rw [List.length_map, ze0]; omega))
 | "Yeu" => `((fun r s' => r = .ok (.ret (.bool true)) ∧ OldK s1.heap s'.heap ∧ s'.os = s1.os ∧ AllBare s'.gens))
 | "Yev" => `((mApp oInt (zab (mBin wAdd (mBin wMul (mBin ixW (mVar 0) Yg) (mC (.int 48271))) (mC (.int 43))) (mNil))))
 | "Yew" => `((l.map T.str))
 | "Yex" => `((.t (.str a)))
 | "Yey" => `((way t.mask Y0 (c + q)))
 | "Yez" => `((Sum.inr : Str → Key))
 | "Ye0" => `((some (.t (.int (k : Nat)))))
 | "Ye1" => `((List.mem_singleton.mpr rfl))
 | "Ye2" => `(((chkL (a, j, k)).map T.str))
 | "Ye3" => `((pg_name (i := 3) hN rfl Yf))
 | "Ye4" => `((mFrzI (mMakeL 0 "Reader" za4 [] (zab (mVar 2) Yk))))
 | "Ye5" => `((zfd isL zb0 (mVar 2) (zab (mIf (zae asB (mBin Yv (mVar 4) Ya9)) (mBin ixW (mVar 4) Yd) Yag) (mNil))))
 | "Ye6" => `((RwL.of_trees.mp l))
 | "Ye7" => `((t_const fun s => by simp [Rw, Rf]))
 | "Ye8" => `((List Key × T))
 | "Ye9" => `((List.mem_cons_of_mem _ hu))
 | _ => Lean.Macro.throwUnsupported
local macro_rules | `($x:ident) => do
 let .str .anonymous s := x.getId | Lean.Macro.throwUnsupported
 if s.front != 'Y' then Lean.Macro.throwUnsupported
 match s with
 | "Yfa" => `((X.suite a Ya6))
 | "Yfb" => `((mFld ["Reader"] "checks" (mVar 0)))
 | "Yfc" => `((.lst (xs.map dTr)))
 | "Yfd" => `((zdj rfl Yt Yb))
 | "Yfe" => `((.ListComp elt [⟨tg, iter, ifs, 0⟩] scope pos))
 | "Yff" => `((.tup [.str (Txt.partition a b).1, .str (Txt.partition a b).2.1, .str (Txt.partition a b).2.2]))
 | "Yfg" => `((gA 3 (gsC (gN 4) (gsC (gN 5) (gsC (gN 6) gsN)))))
 | "Yfh" => `((h1 ++ [some (.ins c fs)]))
 | "Yfi" => `((Str × V))
 | "Yfj" => `((F eta hp))
 | "Yfk" => `((.lst (dsW acc)))
 | "Yfl" => `((false, eval e X.env))
 | "Yfm" => `((.type "function"))
 | "Yfn" => `((SetTable.bits Y0 % (t.mask + 1)))
 | "Yfo" => `((q.mono (fun _ _ q => Wq.ok q) fun _ _ _ q => q))
 | "Yfp" => `((mC (.str "same")))
 | "Yfq" => `((.lst Yh))
 | "Yfr" => `((fin s0.heap _ _ fun _ _ e => e))
 | "Yfs" => `((mBin Yv (zbq zas (mSq (mVar 1)) (gT 2 (gsC (gN 4) (gsC (gN 5) gsN))) zb1 zce [4, 5]) Ya9))
 | "Yft" => `((q.mono fun a h1 ⟨b, e, q⟩ => by subst e; cases b <;> first | exact Wp.ok q | exact q))
 | "Yfu" => `((eta.set i (some a)))
 | "Yfv" => `((fun _ _ _ => False))
 | "Yfw" => `((Str × W))
 | "Yfx" => `((List Key × V))
 | _ => Lean.Macro.throwUnsupported
local macro_rules | `($x:ident) => do
 let .str .anonymous s := x.getId | Lean.Macro.throwUnsupported
 if s.front != 'Y' then Lean.Macro.throwUnsupported
 match s with
 | "Yfy" => `((Key × W))
 | "Yfz" => `((ws.map some ++ List.replicate (nn - n) none))
 | "Yf0" => `((spM X.K X.w m n))
 | "Yf1" => `((.ref x1))
 | "Yf2" => `((some (.builtin "getset_descriptor.__get__")))
 | "Yf3" => `((way t.mask Y0 n))
 | "Yf4" => `((.ref yb))
 | "Yf5" => `((mBin (inW false) Yag (mVar 2)))
 | "Yf6" => `((.lst (odd07.map T.str)))
 | "Yf7" => `((fun _ _ _ _ _ => zb8 call_abs ok_abs (zaa (ie_bt call_int1 ok_int Yd0 ycy) (zad)) yov))
 | "Yf8" => `((zap (dts := []) (dvs := []) yg Ye hgd (by rfl) yk ym yh .nil Yp zbk (zaa (zac 0) Ybn)))
 | "Yf9" => `((zap (dts := []) (dvs := []) yg Ye hgd (by rfl) yk ym yh .nil Yp zbk (zaa (zac 3) Ybn)))
 | "Yga" => `((zbq zas (mSq (mSl (mVar 0) (zbt (mVar 1)) (zbt (mC (.int 62))))) (gN 4) mYes zff [4]))
 | "Ygb" => `((P :: some (.r 0) :: List.replicate 11 none))
 | "Ygc" => `((.t (.bl b)))
 | "Ygd" => `((stand.getD (t.probeStart Y0)))
 | "Yge" => `(((Txt.split s ", ").map T.str))
 | "Ygf" => `((zal (zac 2) (zag)))
 | "Ygg" => `((zae truW (mApp oAll (zab (zbq zas (mStrI (mVar 0)) (gN 2) mYes zb9 [2]) (mNil)))))
 | "Ygh" => `((fun _ (a b : Bool) => a = b))
 | "Ygi" => `((nth t.mask W0 (c + (q + 1))))
 | "Ygj" => `((fun _ (x y : Bool) => x = y))
 | "Ygk" => `((zab (mVar 2) (zab (mC (.tup ((["read", "look"] : List Str).map T.str))) (mNil))))
 | "Ygl" => `((gsC (gN 6) (gsC (gN 7) gsN)))
 | _ => Lean.Macro.throwUnsupported
local macro_rules | `($x:ident) => do
 let .str .anonymous s := x.getId | Lean.Macro.throwUnsupported
 if s.front != 'Y' then Lean.Macro.throwUnsupported
 match s with
 | "Ygm" => `((.inl rfl))
 | "Ygn" => `((.ref cda))
 | "Ygo" => `(("self" : Str))
 | "Ygp" => `((mSq (mVar 0)))
 | "Ygq" => `((.str (dTx d)))
 | "Ygr" => `((keywordEach [] X.env))
 | "Ygs" => `((PySem.W.fnOf x x (defArgs s) (defBody s) (defScope s) .none kV dc pm an cd ct))
 | "Ygt" => `(((["if", "bump", "even", "kind", "look", "read", "same"] : List Str).map V.str))
 | "Ygu" => `((zab (mVar 11) (mNil)))
 | "Ygv" => `((zaw u1 (fun _ => zay (vc_c (zd7 ⟨_, rfl, rfl, rfl⟩))) fun z => by cases z))
 | "Ygw" => `(((a, oe3) :: (X.pn ++ pins)))
 | "Ygx" => `((Obj.putSet Y5 t2))
 | "Ygy" => `((mC (.str "even")))
 | "Ygz" => `((mC (.str " if ")))
 | "Yg0" => `((.t (.int (x.length : Nat))))
 | "Yg1" => `((by simpa using c))
 | "Yg2" => `((PySem.W.kxs_mw "ValueError.__init__" e))
 | "Yg3" => `((fun _ s4 => wpAny Yo X.A (throw (.ref a) : Sem Flow) (SP X pins D) X.xe s4))
 | "Yg4" => `((zab (mVar 3) (zab (mBin wAdd (mApp oLen (zab (mVar 7) (mNil))) Yg) (mNil))))
 | "Yg5" => `((i _ _ _ hw))
 | "Yg6" => `((cutL ts lo hi))
 | "Yg7" => `((b₀ :: suite))
 | "Yg8" => `((List.mem_cons_of_mem _ hb))
 | "Yg9" => `((zae truW (zaq zb4 [] (zab (mSl (mVar 1) (zbt (mC (.int 7))) zat) (mNil)))))
 | _ => Lean.Macro.throwUnsupported
local macro_rules | `($x:ident) => do
 let .str .anonymous s := x.getId | Lean.Macro.throwUnsupported
 if s.front != 'Y' then Lean.Macro.throwUnsupported
 match s with
 | "Yha" => `((.lst (cs.map T.int)))
 | "Yhb" => `((.t (.tup Ybd)))
 | "Yhc" => `((Nat.lt_of_sub_eq_succ rfl))
 | "Yhd" => `((fun h => by cases h))
 | "Yhe" => `(((r.2.2.map zbe).map T.str))
 | "Yhf" => `((E (some Yb1) Yam w7 w8 w9 w10 w11 w12))
 | "Yhg" => `((spM K w za0 2))
 | "Yhh" => `((.t (.str y)))
 | "Yhi" => `((sqT b ts))
 | "Yhj" => `((nth t.mask W0 c))
 | "Yhk" => `((some (.builtin "object.__setattr__")))
 | "Yhl" => `((mApp zas (zab (mApp za2 (zab Yc0 (zab (mC (.str "c")) (mNil)))) (mNil))))
 | "Yhm" => `((.t (.str n)))
 | "Yhn" => `((.tup [.int (i : Nat), x]))
 | "Yho" => `((h1 ++ [some (.ins c [])]))
 | "Yhp" => `((m (.r s.hp.length :: (ws ++ dts.map W.t)) (s.hp ++ [some (.ins c [])])))
 | "Yhq" => `((zab (mC (.int 4)) (mNil)))
 | "Yhr" => `((zcn (a := .t Y8) rfl Yap))
 | "Yhs" => `((eta.set i (some w)))
 | "Yht" => `((by rw [wipe_length]; simpa using hl))
 | "Yhu" => `((RwL.of_trees.mpr l))
 | "Yhv" => `((Nat.lt_succ_self _))
 | "Yhw" => `((List.mem_filterMap.mpr ⟨X.env, List.mem_cons_self, by rw [hf, z]⟩))
 | "Yhx" => `((some (.t (.str j))))
 | _ => Lean.Macro.throwUnsupported
local macro_rules | `($x:ident) => do
 let .str .anonymous s := x.getId | Lean.Macro.throwUnsupported
 if s.front != 'Y' then Lean.Macro.throwUnsupported
 match s with
 | "Yhy" => `((some (.t (.str k))))
 | "Yhz" => `((.t (.tup [.str (ds.getD n ("", "")).1, .str (ds.getD n ("", "")).2])))
 | "Yh0" => `((.ref fI))
 | "Yh1" => `((.ins C dx []))
 | "Yh2" => `((.r h1.length :: (ws ++ ds.map W.t)))
 | "Yh3" => `((Int × Value))
 | "Yh4" => `((mApp oLen Y7))
 | "Yh5" => `((spW (done.map (za9 ds))))
 | "Yh6" => `((.ref yn))
 | "Yh7" => `((zb8 call_len zb3 Ycj yd))
 | "Yh8" => `(((List.range (j - i).toNat).map fun k => W.t (.int (i + (k : Nat)))))
 | "Yh9" => `((eta.set i none))
 | "Yia" => `((.type "object"))
 | "Yib" => `((by simp [same]))
 | "Yic" => `((mC (.str ": ")))
 | "Yid" => `((.int (m : Nat)))
 | "Yie" => `((by simpa using hl))
 | "Yif" => `((.frz o (.lst Yd4)))
 | "Yig" => `((fun _ (a b : Option Int) => a = b))
 | "Yih" => `((some (.Name x np)))
 | "Yii" => `((Fa eta hp))
 | "Yij" => `((mBin Ys (mBin ixW (mVar 1) (mVar 5)) (mBin ixW (mVar 1) (mVar 4))))
 | "Yik" => `((.str "abcdefghijklmnopqrstuvwxyz"))
 | "Yil" => `((.lst (ms.map dTr)))
 | _ => Lean.Macro.throwUnsupported
local macro_rules | `($x:ident) => do
 let .str .anonymous s := x.getId | Lean.Macro.throwUnsupported
 if s.front != 'Y' then Lean.Macro.throwUnsupported
 match s with
 | "Yim" => `((chksW acc))
 | "Yin" => `((G Yam w11))
 | "Yio" => `((by simpa [fit] using h))
 | "Yip" => `((xs.map W.t))
 | "Yiq" => `((hp ++ [some (.lst ws)]))
 | "Yir" => `((defBody st))
 | "Yis" => `((isN true))
 | "Yit" => `((X.tr pn xe))
 | "Yiu" => `((Str × OpN))
 | "Yiv" => `((show nmT (.str n) = true from hn))
 | "Yiw" => `((.t (.bl (if neg then !decide (x ∈ l) else decide (x ∈ l)))))
 | "Yix" => `((.Name x pos))
 | "Yiy" => `((fun e p => e.set p.1 (some p.2)))
 | "Yiz" => `((s3.addF p' (.lst (cutV xs l u))))
 | "Yi0" => `((.ref x :: (vs ++ dvs)))
 | "Yi1" => `((.ref yf))
 | "Yi2" => `((mC (.str "read")))
 | "Yi3" => `((mFld ["Reader"] "name" (mVar 0)))
 | "Yi4" => `((.t (.lst Ycx)))
 | "Yi5" => `((ev_eqi.trans rfl))
 | "Yi6" => `((.t (.str (zaz r.2.1))))
 | "Yi7" => `((zd0 (zac 2)))
 | "Yi8" => `((List.mem_filterMap.mpr ⟨e, List.mem_cons_of_mem _ he, q⟩))
 | "Yi9" => `((do bindName X.env n .none; unbindBehindTheSuite X.env n pos'))
 | _ => Lean.Macro.throwUnsupported
local macro_rules | `($x:ident) => do
 let .str .anonymous s := x.getId | Lean.Macro.throwUnsupported
 if s.front != 'Y' then Lean.Macro.throwUnsupported
 match s with
 | "Yja" => `((.int (if i < 0 then -i else i)))
 | "Yjb" => `((q.mono fun _ _ q => Wp.bind (q.mono fun _ _ q => Wp.bind q)))
 | "Yjc" => `((by rw [eqW_tt, if_pos ⟨deq_fit, deq_fit⟩, dTr_inj]; rfl))
 | "Yjd" => `((ie_bt call_tupS ok_tup Ycj yaq))
 | "Yje" => `((.t (.bl (if neg then !decide (i = j) else decide (i = j)))))
 | "Yjf" => `((.t (.lst (xs ++ ys))))
 | "Yjg" => `((.t (.bl (if neg then !decide (b = c) else decide (b = c)))))
 | "Yjh" => `((.ins c (putA f v fs)))
 | "Yji" => `((zfd isL zb0 Yb4 (zab (mBin iDiv (mVar 2) (mVar 1)) (mNil))))
 | "Yjj" => `((mBin wAdd (mSl (mVar 3) zat (zbt (mVar 5))) (mApp zas Ybb)))
 | "Yjk" => `((mBin ixW (mVar 3) Yd))
 | "Yjl" => `((zaq zb7 [] (zab (mC (.str "reader r: read a if ")) (mNil))))
 | _ => Lean.Macro.throwUnsupported
set_option hygiene true
namespace Mir
open PySem PySem.Spec L2
open PyProof.Rows hiding St
/-- a frozen value as a tree -/
inductive T where
 | non | bl (b : Bool) | int (i : Int) | str (s : Str) | ty (n : String)
 | tup (xs : List T) | lst (xs : List T) | scr (xs : List T) | pr (xs : List T)
 | dic (ks : List Key) (vs : List T) | ins (c : Str) (ns : List Str) (vs : List T)
 | cls (c : Str) | dit (ks : List (List Key)) (vs : List T) | exc (c : Str) (ns : List Str) (vs : List T)
/-- a value: a tree, or a live cell -/
inductive W where
 | t (x : T) | r (i : Nat)
inductive Cell where
 | lst (xs : List W)
 | dic (kvs : List (Key × W))
 | ins (c : Str) (fs : List (Str × W))
 | dit (kvs : List (T × W))
 | tpl (ws : List W)
 /-- a dict keyed by nested tuples, locked for good -/
 | dil (kvs : List (T × W))
def Cell.alive : Cell → Prop
 | .dil _ => False
 | _ => True
abbrev IH := List (Option Cell)
structure Ex where
 cls : Str
 fs : List Yfw
inductive Res (A : Type) where
 | ok (a : A) (h : IH) | er (e : Ex) (eta : List (Option W)) (h : IH) | bad
abbrev IS := List (Option W)
abbrev M (A : Type) := IS → IH → Res A
def Res.bind {A B : Type} (r : Res A) (k : A → IH → Res B) : Res B := match r with
 | .ok a h => k a h
 | .er e eta h => .er e eta h
 | .bad => .bad
/-- the state of the relation -/
structure S4 where
 rho : List Addr
 fz : Addr → Prop
 hp : IH
 H : Hp
def KTup (K : PySem.W.Frag) (a : Addr) (xs : List V) : Prop :=
 ∃ (o : Obj) (its : Array Value) (n : Nat), K.lookup a = some o ∧ o.cls = .type "tuple" ∧ o.dict = none ∧ o.data = .seq its n ∧ its.size ≤ sizeLine ∧ Vals xs its.toList
def KLst (K : PySem.W.Frag) (a : Addr) (xs : List V) : Prop :=
 ∃ (o : Obj) (its : Array Value) (n : Nat), K.lookup a = some o ∧ o.cls = .type "list" ∧ o.dict = none ∧ o.data = .seq its n ∧ its.size ≤ sizeLine ∧ Vals xs its.toList
def FTup (K : PySem.W.Frag) (fz : Addr → Prop) (H : Hp) (a : Addr) (xs : List V) : Prop := (fz a ∧ ∃ o : Obj, H a = some (.frz o (.tup xs)) ∧ o.dict = none) ∨ KTup K a xs
/-- a pair that a walk lays -/
def FPr (fz : Addr → Prop) (H : Hp) (a : Addr) (xs : List V) : Prop := fz a ∧ H a = some (.tup xs)
/-- a dict whose keys are tuples -/
def FDit (fz : Addr → Prop) (H : Hp) (a : Addr) (kvs : List Yfx) : Prop := fz a ∧ H a = some (.dT kvs)
def FLst (fz : Addr → Prop) (H : Hp) (a : Addr) (xs : List V) : Prop := fz a ∧ H a = some (.lst xs)
def FDic (fz : Addr → Prop) (H : Hp) (a : Addr) (kvs : List (Key × V)) : Prop := fz a ∧ ∃ o, H a = some (.frz o (.dK kvs))
def FScr (K : PySem.W.Frag) (fz : Addr → Prop) (H : Hp) (a : Addr) (xs : List V) : Prop := (fz a ∧ ∃ o, H a = some (.frz o (.lst xs))) ∨ KLst K a xs
/-- the class that the module's name c holds -/
def CN (K : PySem.W.Frag) (c : Str) (C : Addr) : Prop := PySem.W.nsIn K mainGlobals c = some (some (.ref C))
/-- a frozen instance -/
def FIns (fz : Addr → Prop) (H : Hp) (a C : Addr) (fs : List Yfi) : Prop := fz a ∧ ∃ dx, H a = some (.ins C dx fs)
mutual
def Rf (K : PySem.W.Frag) (fz : Addr → Prop) (H : Hp) : T → V → Prop
 | .non, v => v = .non
 | .bl b, v => v = .bl b
 | .int i, v => v = .int i
 | .str s, v => v = .str s
 | .ty n, v => v = .ty n
 | .tup xs, v => ∃ a vs, v = .ref a ∧ FTup K fz H a vs ∧ RfL K fz H xs vs
 | .lst xs, v => ∃ a vs, v = .ref a ∧ FLst fz H a vs ∧ RfL K fz H xs vs
 | .scr xs, v => ∃ a vs, v = .ref a ∧ FScr K fz H a vs ∧ RfL K fz H xs vs
 | .pr xs, v => ∃ a vs, v = .ref a ∧ FPr fz H a vs ∧ RfL K fz H xs vs
 | .dic ks xs, v => ∃ a vs, v = .ref a ∧ FDic fz H a (ks.zip vs) ∧ ks.length = xs.length ∧ RfL K fz H xs vs
 | .cls c, v => ∃ C, v = .ref C ∧ CN K c C
 | .dit ks xs, v => ∃ a vs, v = .ref a ∧ FDit fz H a (ks.zip vs) ∧ ks.length = xs.length ∧ RfL K fz H xs vs
 | .exc _ _ _, _ => False
 | .ins c ns xs, v => ∃ a C vs, v = .ref a ∧ CN K c C ∧ FIns fz H a C (ns.zip vs) ∧ ns.length = xs.length ∧ RfL K fz H xs vs
def RfL (K : PySem.W.Frag) (fz : Addr → Prop) (H : Hp) : List T → List V → Prop
 | [], vs => vs = []
 | x :: xs, vs => ∃ v r, vs = v :: r ∧ Rf K fz H x v ∧ RfL K fz H xs r
end
def Rw (K : PySem.W.Frag) (s : S4) : W → V → Prop
 | .t x, v => Rf K s.fz s.H x v
 | .r i, v => ∃ a, s.rho[i]? = some a ∧ v = .ref a
def RwL (K : PySem.W.Frag) (s : S4) : List W → List V → Prop
 | [], vs => vs = []
 | x :: xs, vs => ∃ v r, vs = v :: r ∧ Rw K s x v ∧ RwL K s xs r
def RwK (K : PySem.W.Frag) (s : S4) : List Yfy → List (Key × V) → Prop
 | [], vs => vs = []
 | x :: xs, vs => ∃ v r, vs = (x.1, v) :: r ∧ Rw K s x.2 v ∧ RwK K s xs r
def RwF (K : PySem.W.Frag) (s : S4) : List Yfw → List Yfi → Prop
 | [], vs => vs = []
 | x :: xs, vs => ∃ v r, vs = (x.1, v) :: r ∧ Rw K s x.2 v ∧ RwF K s xs r
mutual
/-- a tree as a key -/
def nkT : T → Option NestedKey
 | .non => some .none
 | .bl b => some (.num (if b = true then 1 else 0))
 | .int i => some (.num i)
 | .str s => some (.text s)
 | .tup xs => (nkTL xs).map .tup
 | .ty _ => none | .lst _ => none | .scr _ => none | .pr _ => none | .dic _ _ => none | .ins _ _ _ => none | .cls _ => none | .dit _ _ => none | .exc _ _ _ => none
def nkTL : List T → Option (List NestedKey)
 | [] => some []
 | x :: xs => match nkT x, nkTL xs with | some k, some ks => some (k :: ks) | _, _ => none
end
/-- a dict whose keys are nested tuples: its entries, by the world's hash -/
def DitO (ω : World) (a : Addr) (xs : List Yae) : HO := .ext fun h => xs.length ≤ sizeLine ∧ (a == sysModules) = false ∧
 ∃ ys : List Ybr, Paired (fun (p : NestedKey × Addr × V) (q : NestedKey × Addr × Value) => p.1 = q.1 ∧ p.2.1 = q.2.1 ∧ RelV p.2.2 q.2.2) xs ys ∧ (ys.map (·.1)).Nodup ∧
 ∃ o es ep, h.get? a = some o ∧ o.ExactDict ∧ o.data = .dict es ep ∧ es.toList = ys.map fun y => (⟨y.1.hash ω, .ref y.2.1, y.2.2⟩ : DictEntry)
def RwD (K : PySem.W.Frag) (s : S4) : List (T × W) → List Yae → Prop
 | [], vs => vs = []
 | x :: xs, vs => ∃ k b v r, vs = (k, b, v) :: r ∧ nkT x.1 = some k ∧ k.depth ≤ 8 ∧ Rf K s.fz s.H x.1 (.ref b) ∧ Rw K s x.2 v ∧ RwD K s xs r
def CellOk (K : PySem.W.Frag) (ω : World) (s : S4) (a : Addr) : Cell → Option HO → Prop
 | .lst ws, o => ∃ vs, o = some (.lst vs) ∧ RwL K s ws vs
 | .dic kvs, o => ∃ vs, o = some (.dK vs) ∧ RwK K s kvs vs
 | .ins c fs, o => ∃ C dx vs, o = some (.ins C dx vs) ∧ CN K c C ∧ RwF K s fs vs
 | .dit kvs, o => ∃ xs, o = some (DitO ω a xs) ∧ RwD K s kvs xs
 | .tpl ws, o => ∃ ob vs, o = some (.frz ob (.tup vs)) ∧ ob.dict = none ∧ RwL K s ws vs
 | .dil kvs, o => ∃ ob xs, o = some (.frz ob (DitO ω a xs)) ∧ RwD K s kvs xs
def Live (s : S4) (a : Addr) : Prop := ∃ (i : Nat) (c : Cell), (s.hp[i]? = some (some c) ∧ c.alive) ∧ s.rho[i]? = some a
structure Rel (K : PySem.W.Frag) (ω : World) (s : S4) : Prop where
 len : s.rho.length = s.hp.length
 nd : s.rho.Nodup
 trk : ∀ a ∈ s.rho, s.H a ≠ none
 ftrk : ∀ a, s.fz a → s.H a ≠ none
 fz : ∀ a, Live s a → ¬ s.fz a
 cell : ∀ (i : Nat) (c : Cell) (a : Addr), s.hp[i]? = some (some c) → s.rho[i]? = some a → CellOk K ω s a c (s.H a)
structure Aft (s s' : S4) : Prop where
 pre : ∃ ex, s'.rho = s.rho ++ ex ∧ ∀ a ∈ ex, s.H a = none
 fz : ∀ a, s.fz a → s'.fz a
 keep : ∀ a o, s.H a = some o → ¬ Live s a → s'.H a = some o
 fnew : ∀ a, s'.fz a → s.fz a ∨ s.H a = none ∨ Live s a
 live : ∀ a, Live s' a → Live s a ∨ s.H a = none
 trk : ∀ a, s.H a ≠ none → s'.H a ≠ none
theorem Aft.refl (s : S4) : Aft s s := ⟨⟨[], by simp, by simp⟩, fun _ h => h, fun _ _ h _ => h, fun _ h => .inl h, fun _ h => .inl h, fun _ h => h⟩
theorem Aft.trans {s s1 s2 : S4} (a : Aft s s1) (b : Aft s1 s2) : Aft s s2 := by
 have none_of : ∀ x, s1.H x = none → s.H x = none := fun x h => by
  cases q : s.H x with
  | none => rfl
  | some o => exact absurd h (a.trk x (by rw [q]; intro z; cases z))
 refine ⟨?_, fun x h => b.fz x (a.fz x h), fun x o h nl => ?_, fun x h => ?_, fun x h => ?_, fun x h => b.trk x (a.trk x h)⟩
 ·obtain ⟨e1, p1, q1⟩ := a.pre
  obtain ⟨e2, p2, q2⟩ := b.pre
  refine ⟨e1 ++ e2, by rw [p2, p1, List.append_assoc], fun x hx => ?_⟩
  rcases List.mem_append.mp hx with hx | hx
  ·exact q1 x hx
  ·exact none_of x (q2 x hx)
 ·refine b.keep x o (a.keep x o h nl) fun l => ?_
  rcases a.live x l with l | l
  ·exact nl l
  ·rw [l] at h; cases h
 ·rcases b.fnew x h with h | h | h
  ·exact a.fnew x h
  ·exact .inr (.inl (none_of x h))
  ·rcases a.live x h with h | h
   ·exact .inr (.inr h)
   ·exact .inr (.inl h)
 ·rcases b.live x h with h | h
  ·exact a.live x h
  ·exact .inr (none_of x h)
section
variable {K : PySem.W.Frag} {ω : World} {s s' : S4}
theorem FTup.aft {a : Addr} {xs : List V} (h : FTup K s.fz s.H a xs) (A : Aft s s') (R : Rel K ω s) : FTup K s'.fz s'.H a xs := by
 rcases h with ⟨f, o, h, d⟩ | h
 ·exact .inl ⟨A.fz a f, o, A.keep a _ h fun l => R.fz a l f, d⟩
 ·exact .inr h
theorem FPr.aft {a : Addr} {xs : List V} (h : FPr s.fz s.H a xs) (A : Aft s s') (R : Rel K ω s) : FPr s'.fz s'.H a xs := by
 obtain ⟨f, h⟩ := h
 exact ⟨A.fz a f, A.keep a _ h fun l => R.fz a l f⟩
theorem FDit.aft {a : Addr} {xs : List Yfx} (h : FDit s.fz s.H a xs) (A : Aft s s') (R : Rel K ω s) : FDit s'.fz s'.H a xs := by
 obtain ⟨f, h⟩ := h
 exact ⟨A.fz a f, A.keep a _ h fun l => R.fz a l f⟩
theorem FLst.aft {a : Addr} {xs : List V} (h : FLst s.fz s.H a xs) (A : Aft s s') (R : Rel K ω s) : FLst s'.fz s'.H a xs :=
 ⟨A.fz a h.1, A.keep a _ h.2 fun l => R.fz a l h.1⟩
theorem FDic.aft {a : Addr} {xs : List (Key × V)} (h : FDic s.fz s.H a xs) (A : Aft s s') (R : Rel K ω s) : FDic s'.fz s'.H a xs :=
 let ⟨o, e⟩ := h.2; ⟨A.fz a h.1, o, A.keep a _ e fun l => R.fz a l h.1⟩
theorem FIns.aft {a C : Addr} {fs : List Yfi} (h : FIns s.fz s.H a C fs) (A : Aft s s') (R : Rel K ω s) : FIns s'.fz s'.H a C fs :=
 let ⟨dx, e⟩ := h.2; ⟨A.fz a h.1, dx, A.keep a _ e fun l => R.fz a l h.1⟩
theorem FScr.aft {a : Addr} {xs : List V} (h : FScr K s.fz s.H a xs) (A : Aft s s') (R : Rel K ω s) : FScr K s'.fz s'.H a xs :=
 h.imp (fun h => let ⟨o, e⟩ := h.2; ⟨A.fz a h.1, o, A.keep a _ e fun l => R.fz a l h.1⟩) id
mutual
theorem Rf.aft (A : Aft s s') (R : Rel K ω s) : ∀ (x : T) (v : V), Rf K s.fz s.H x v → Rf K s'.fz s'.H x v
 | .non, _, h => by simpa [Rf] using h
 | .bl _, _, h => by simpa [Rf] using h
 | .int _, _, h => by simpa [Rf] using h
 | .str _, _, h => by simpa [Rf] using h
 | .ty _, _, h => by simpa [Rf] using h
 | .cls _, _, h => by simpa [Rf] using h
 | .exc _ _ _, _, h => by simp [Rf] at h
 | .tup xs, v, h => by
  simp only [Rf] at h ⊢
  obtain ⟨a, vs, e, t, l⟩ := h
  exact ⟨a, vs, e, t.aft A R, RfL.aft A R xs vs l⟩
 | .lst xs, v, h => by
  simp only [Rf] at h ⊢
  obtain ⟨a, vs, e, t, l⟩ := h
  exact ⟨a, vs, e, t.aft A R, RfL.aft A R xs vs l⟩
 | .scr xs, v, h => by
  simp only [Rf] at h ⊢
  obtain ⟨a, vs, e, t, l⟩ := h
  exact ⟨a, vs, e, t.aft A R, RfL.aft A R xs vs l⟩
 | .pr xs, v, h => by
  simp only [Rf] at h ⊢
  obtain ⟨a, vs, e, t, l⟩ := h
  exact ⟨a, vs, e, t.aft A R, RfL.aft A R xs vs l⟩
 | .dic ks xs, v, h => by
  simp only [Rf] at h ⊢
  obtain ⟨a, vs, e, t, n, l⟩ := h
  exact ⟨a, vs, e, t.aft A R, n, RfL.aft A R xs vs l⟩
 | .dit ks xs, v, h => by
  simp only [Rf] at h ⊢
  obtain ⟨a, vs, e, t, n, l⟩ := h
  exact ⟨a, vs, e, t.aft A R, n, RfL.aft A R xs vs l⟩
 | .ins c ns xs, v, h => by
  simp only [Rf] at h ⊢
  obtain ⟨a, C, vs, e, cn, t, n, l⟩ := h
  exact ⟨a, C, vs, e, cn, t.aft A R, n, RfL.aft A R xs vs l⟩
theorem RfL.aft (A : Aft s s') (R : Rel K ω s) : ∀ (xs : List T) (vs : List V), RfL K s.fz s.H xs vs → RfL K s'.fz s'.H xs vs
 | [], _, h => by simpa [RfL] using h
 | x :: xs, vs, h => by
  simp only [RfL] at h ⊢
  obtain ⟨v, r, e, a, b⟩ := h
  exact ⟨v, r, e, Rf.aft A R x v a, RfL.aft A R xs r b⟩
end
theorem Rw.aft {w : W} {v : V} (h : Rw K s w v) (A : Aft s s') (R : Rel K ω s) : Rw K s' w v := by
 cases w with
 | t x => exact Rf.aft A R x v h
 | r i =>
  obtain ⟨a, e1, e2⟩ := h
  obtain ⟨ex, p, _⟩ := A.pre
  exact ⟨a, by rw [p, List.getElem?_append_left (List.getElem?_eq_some_iff.mp e1).1]; exact e1, e2⟩
theorem RwL.aft (A : Aft s s') (R : Rel K ω s) : ∀ (ws : List W) (vs : List V), RwL K s ws vs → RwL K s' ws vs
 | [], _, h => h
 | x :: xs, vs, h => by
  obtain ⟨v, r, e, a, b⟩ := h
  exact ⟨v, r, e, a.aft A R, RwL.aft A R xs r b⟩
theorem RwK.aft (A : Aft s s') (R : Rel K ω s) : ∀ (ws : List (Key × W)) (vs : List (Key × V)), RwK K s ws vs → RwK K s' ws vs
 | [], _, h => h
 | x :: xs, vs, h => by
  obtain ⟨v, r, e, a, b⟩ := h
  exact ⟨v, r, e, a.aft A R, RwK.aft A R xs r b⟩
theorem RwF.aft (A : Aft s s') (R : Rel K ω s) : ∀ (ws : List (Str × W)) (vs : List (Str × V)), RwF K s ws vs → RwF K s' ws vs
 | [], _, h => h
 | x :: xs, vs, h => by
  obtain ⟨v, r, e, a, b⟩ := h
  exact ⟨v, r, e, a.aft A R, RwF.aft A R xs r b⟩
theorem RwD.aft (A : Aft s s') (R : Rel K ω s) : ∀ (ws : List (T × W)) (vs : List (NestedKey × Addr × V)), RwD K s ws vs → RwD K s' ws vs
 | [], _, h => h
 | x :: xs, vs, h => by
  obtain ⟨k, b, v, r, e, h1, h2, h3, h4, h5⟩ := h
  exact ⟨k, b, v, r, e, h1, h2, Rf.aft A R _ _ h3, h4.aft A R, RwD.aft A R xs r h5⟩
theorem CellOk.aft {a : Addr} {c : Cell} {o : Option HO} (h : CellOk K ω s a c o) (A : Aft s s') (R : Rel K ω s) : CellOk K ω s' a c o := by
 cases c with
 | lst ws => obtain ⟨vs, e, l⟩ := h; exact ⟨vs, e, RwL.aft A R ws vs l⟩
 | dic kvs => obtain ⟨vs, e, l⟩ := h; exact ⟨vs, e, RwK.aft A R kvs vs l⟩
 | ins c fs => obtain ⟨C, dx, vs, e, cn, l⟩ := h; exact ⟨C, dx, vs, e, cn, RwF.aft A R fs vs l⟩
 | dit kvs => obtain ⟨vs, e, l⟩ := h; exact ⟨vs, e, RwD.aft A R kvs vs l⟩
 | tpl ws => obtain ⟨ob, vs, e, d, l⟩ := h; exact ⟨ob, vs, e, d, RwL.aft A R ws vs l⟩
 | dil kvs => obtain ⟨ob, vs, e, l⟩ := h; exact ⟨ob, vs, e, RwD.aft A R kvs vs l⟩
theorem RwL.length : ∀ {ws : List W} {vs : List V}, RwL K s ws vs → ws.length = vs.length
 | [], _, h => by rw [show _ = [] from h]; rfl
 | x :: xs, vs, h => by
  obtain ⟨v, r, e, a, b⟩ := h
  rw [e, List.length_cons, List.length_cons, RwL.length b]
theorem RfL.length : ∀ {ws : List T} {vs : List V}, RfL K s.fz s.H ws vs → ws.length = vs.length
 | [], _, h => by simp only [RfL] at h; rw [h]; rfl
 | x :: xs, vs, h => by
  simp only [RfL] at h
  obtain ⟨v, r, e, a, b⟩ := h
  rw [e, List.length_cons, List.length_cons, RfL.length b]
theorem RwL.get : ∀ {ws : List W} {vs : List V} {i : Nat} {w : W}, RwL K s ws vs → ws[i]? = some w → ∃ v, vs[i]? = some v ∧ Rw K s w v
 | [], _, _, _, _, h => by simp at h
 | x :: xs, vs, 0, w, h, e => by
  obtain ⟨v, r, e', a, b⟩ := h
  simp at e
  subst e
  exact ⟨v, by rw [e']; rfl, a⟩
 | x :: xs, vs, i + 1, w, h, e => by
  obtain ⟨v, r, e', a, b⟩ := h
  obtain ⟨v', h1, h2⟩ := RwL.get (i := i) (w := w) b (by simpa using e)
  exact ⟨v', by rw [e']; simpa using h1, h2⟩
theorem RfL.get : ∀ {ws : List T} {vs : List V} {i : Nat} {w : T}, RfL K s.fz s.H ws vs → ws[i]? = some w → ∃ v, vs[i]? = some v ∧ Rf K s.fz s.H w v
 | [], _, _, _, _, h => by simp at h
 | x :: xs, vs, 0, w, h, e => by
  simp only [RfL] at h
  obtain ⟨v, r, e', a, b⟩ := h
  simp at e
  subst e
  exact ⟨v, by rw [e']; rfl, a⟩
 | x :: xs, vs, i + 1, w, h, e => by
  simp only [RfL] at h
  obtain ⟨v, r, e', a, b⟩ := h
  obtain ⟨v', h1, h2⟩ := RfL.get (i := i) (w := w) b (by simpa using e)
  exact ⟨v', by rw [e']; simpa using h1, h2⟩
/-- trees among values -/
theorem RwL.of_trees : ∀ {ts : List T} {vs : List V}, RwL K s Yr vs ↔ RfL K s.fz s.H ts vs
 | [], vs => by simp [RwL, RfL]
 | x :: xs, vs => by
  simp only [List.map_cons, RwL, RfL, Rw]
  constructor
  ·rintro ⟨v, r, e, a, b⟩; exact ⟨v, r, e, a, RwL.of_trees.mp b⟩
  ·rintro ⟨v, r, e, a, b⟩; exact ⟨v, r, e, a, RwL.of_trees.mpr b⟩
theorem RwL.append : ∀ {ws ws' : List W} {vs vs' : List V}, RwL K s ws vs → RwL K s ws' vs' → RwL K s (ws ++ ws') (vs ++ vs')
 | [], _, _, _, h, h' => by rw [show _ = [] from h]; exact h'
 | x :: xs, _, vs, _, h, h' => by
  obtain ⟨v, r, e, a, b⟩ := h
  rw [e]
  exact ⟨v, _, rfl, a, RwL.append b h'⟩
theorem FTup.sq {fz : Addr → Prop} {H : Hp} {a : Addr} {xs : List V} (h : FTup K fz H a xs) : SqT K H a xs := by
 rcases h with ⟨_, o, h, _⟩ | ⟨o, its, n, h1, h2, _, h3⟩
 ·exact .inl (.inr ⟨o, h⟩)
 ·exact .inr ⟨o, its, n, h1, h2, h3⟩
theorem FPr.sq {K : PySem.W.Frag} {fz : Addr → Prop} {H : Hp} {a : Addr} {xs : List V} (h : FPr fz H a xs) : SqT K H a xs := .inl (.inl h.2)
theorem FLst.sq {K : PySem.W.Frag} {fz : Addr → Prop} {H : Hp} {a : Addr} {xs : List V} (h : FLst fz H a xs) : SqL K H a xs := .inl (.inl h.2)
theorem FScr.sq {K : PySem.W.Frag} {fz : Addr → Prop} {H : Hp} {a : Addr} {xs : List V} (h : FScr K fz H a xs) : SqL K H a xs := h.elim (fun h => let ⟨o, e⟩ := h.2; .inl (.inr ⟨o, e⟩)) .inr
end
def Sl (K : PySem.W.Frag) (s : S4) (eta : IS) (σ : St) : Prop :=
 eta.length = σ.length ∧ ∀ (i : Nat) (w : W), eta[i]? = some (some w) → ∃ v, σ[i]? = some (some v) ∧ Rw K s w v
theorem Sl.aft {K : PySem.W.Frag} {ω : World} {s s' : S4} {eta : IS} {σ : St} (h : Sl K s eta σ) (A : Aft s s') (R : Rel K ω s) : Sl K s' eta σ :=
 ⟨h.1, fun i w e => let ⟨v, a, b⟩ := h.2 i w e; ⟨v, a, b.aft A R⟩⟩
theorem Sl.set {K : PySem.W.Frag} {s : S4} {eta : IS} {σ : St} {w : W} {v : V} (h : Sl K s eta σ) (i : Nat) (r : Rw K s w v) : Sl K s Yhs (σ.set i (some v)) := by
 refine ⟨by simp [h.1], fun j u e => ?_⟩
 by_cases hj : i = j
 ·subst hj
  by_cases hl : i < eta.length
  ·rw [List.getElem?_set_self hl] at e
   cases e
   exact ⟨v, by rw [List.getElem?_set_self (by rw [← h.1]; exact hl)], r⟩
  ·rw [List.getElem?_eq_none Yie] at e
   cases e
 ·rw [List.getElem?_set_ne hj] at e
  obtain ⟨x, a, b⟩ := h.2 j u e
  exact ⟨x, by rw [List.getElem?_set_ne hj]; exact a, b⟩
theorem Sl.wipe {K : PySem.W.Frag} {s : S4} {eta : IS} {σ : St} (h : Sl K s eta σ) : ∀ (vs : List Nat), Sl K s (vs.foldr (fun v e => e.set v none) eta) (wipe σ vs)
 | [] => h
 | v :: vs => by
  have ih := Sl.wipe h vs
  refine ⟨by simp only [List.foldr_cons, L2.wipe, List.length_set]; exact ih.1, fun j u e => ?_⟩
  simp only [List.foldr_cons] at e
  by_cases hj : v = j
  ·subst hj
   by_cases hl : v < (vs.foldr (fun v e => e.set v none) eta).length
   ·rw [List.getElem?_set_self hl] at e; cases e
   ·rw [List.getElem?_eq_none Yie] at e; cases e
  ·rw [List.getElem?_set_ne hj] at e
   obtain ⟨x, a, b⟩ := ih.2 j u e
   exact ⟨x, by simp only [L2.wipe]; rw [List.getElem?_set_ne hj]; exact a, b⟩
/-- how a raised error lies: its class by name, its fields in its own dict -/
def ExR (K : PySem.W.Frag) (s : S4) (e : Ex) (cls : Value) (d : Option Addr) : Prop :=
 ∃ C, cls = .ref C ∧ CN K e.cls C ∧ ((e.fs = [] ∧ d = none) ∨ ∃ dd vs, d = some dd ∧ s.H dd = some (.xd vs) ∧ RwF K s e.fs vs)
abbrev WX := Value → Option Addr → St → Hp → Prop
def Go {A B : Type} (K : PySem.W.Frag) (ω : World) (Wx : WX) (Fam : S4 → A → B → Prop) (s : S4) (r : Res A) (Q : B → Hp → Prop) : Prop := match r with
 | .ok a hp' => ∀ (b : B) (s' : S4), s'.hp = hp' → Aft s s' → Rel K ω s' → Fam s' a b → Q b s'.H
 | .er e eta' hp' => ∀ (s' : S4) (σ' : St) (cls : Value) (d : Option Addr), s'.hp = hp' → Aft s s' → Rel K ω s' → Sl K s' eta' σ' → ExR K s' e cls d → Wx cls d σ' s'.H
 | .bad => False
section
variable {K : PySem.W.Frag} {ω : World} {Wx : WX} {s s' : S4} {A B C D : Type} {Fam : S4 → A → B → Prop} {Gam : S4 → C → D → Prop}
theorem Go.aft {r : Res A} {Q : B → Hp → Prop} (g : Go K ω Wx Fam s r Q) (a : Aft s s') : Go K ω Wx Fam s' r Q := by
 cases r with
 | ok x hp => exact fun b s2 h1 h2 h3 h4 => g b s2 h1 (a.trans h2) h3 h4
 | er e eta hp => exact fun s2 σ' cls d h1 h2 h3 h4 h5 => g s2 σ' cls d h1 (a.trans h2) h3 h4 h5
 | bad => exact g
theorem Go.mono {r : Res A} {Q Q' : B → Hp → Prop} (g : Go K ω Wx Fam s r Q) (h : ∀ b H, Q b H → Q' b H) : Go K ω Wx Fam s r Q' := by
 cases r with
 | ok x hp => exact fun b s2 h1 h2 h3 h4 => h _ _ (g b s2 h1 h2 h3 h4)
 | er e eta hp => exact g
 | bad => exact g
/-- a run, then more -/
theorem Go.bind {r : Res A} {k : A → IH → Res C} {Q : D → Hp → Prop} {R : B → Hp → Prop} (g : Go K ω Wx Gam s (r.bind k) Q)
  (h : ∀ a b s', Aft s s' → Rel K ω s' → Fam s' a b → r = .ok a s'.hp → Go K ω Wx Gam s' (k a s'.hp) Q → R b s'.H) : Go K ω Wx Fam s r R := by
 cases r with
 | ok x hp =>
  intro b s2 h1 h2 h3 h4
  subst h1
  exact h x b s2 h2 h3 h4 rfl (Go.aft (show Go K ω Wx Gam s (k x s2.hp) Q from g) h2)
 | er e eta hp => exact g
 | bad => exact g
theorem Go.ret {a : A} {b : B} {hp : IH} {Q : B → Hp → Prop} (g : Go K ω Wx Fam s (.ok a hp) Q) (s' : S4) (h1 : s'.hp = hp) (h2 : Aft s s') (h3 : Rel K ω s') (h4 : Fam s' a b) : Q b s'.H := g b s' h1 h2 h3 h4
end
/-- the reading made of a plain function -/
def tM {A B : Type} (K : PySem.W.Frag) (ω : World) (Wx : WX) (Fam : S4 → A → B → Prop) (F : M A) : St → Hp → (B → Hp → Prop) → Prop := fun σ H Q =>
 ∃ (s : S4) (eta : IS), s.H = H ∧ Rel K ω s ∧ Sl K s eta σ ∧ Go K ω Wx Fam s (F eta s.hp) Q
abbrev tE (K : PySem.W.Frag) (ω : World) (Wx : WX) (F : M W) : TE := tM K ω Wx (Rw K) F
abbrev tA (K : PySem.W.Frag) (ω : World) (Wx : WX) (F : M (List W)) : TA := tM K ω Wx (RwL K) F
abbrev tT (K : PySem.W.Frag) (ω : World) (Wx : WX) (F : M Bool) : TT := tM K ω Wx Ygh F
/-- judgements -/
def IE (X : Cx) (Wx : WX) (e : Expr) (F : M W) : Prop := PE X e (tE X.K X.w Wx F)
def IA (X : Cx) (Wx : WX) (es : List Expr) (F : M (List W)) : Prop := PA X es (tA X.K X.w Wx F)
def IT (X : Cx) (Wx : WX) (e : Expr) (F : M Bool) : Prop := PT X e (tT X.K X.w Wx F)
theorem PE.imp {X : Cx} {e : Expr} {t t' : TE} (h : PE X e t) (i : ∀ σ H Q, t' σ H Q → t σ H Q) : PE X e t' := ⟨fun pins s σ H Q I hw => h.run pins s σ H Q I Yg5⟩
theorem PT.imp {X : Cx} {e : Expr} {t t' : TT} (h : PT X e t) (i : ∀ σ H Q, t' σ H Q → t σ H Q) : PT X e t' := ⟨fun pins s σ H Q I hw => h.run pins s σ H Q I Yg5⟩
theorem PW.imp {X : Cx} {e : Expr} {t t' : TT} (h : PW X e t) (i : ∀ σ H Q, t' σ H Q → t σ H Q) : PW X e t' := ⟨fun wh pins s σ H Q I hw => h.run wh pins s σ H Q I Yg5⟩
theorem PA.imp {X : Cx} {e : List Expr} {t t' : TA} (h : PA X e t) (i : ∀ σ H Q, t' σ H Q → t σ H Q) : PA X e t' := ⟨fun pos pins s σ H Q I hw => h.run pos pins s σ H Q I Yg5⟩
theorem PS.imp {X : Cx} {e : Stmt} {t t' : TS} (h : PS X e t) (i : ∀ D σ H, t' D σ H → t D σ H) : PS X e t' := ⟨fun pins s σ H D I hw => h.run pins s σ H D I Yg5⟩
theorem PSs.imp {X : Cx} {e : List Stmt} {t t' : TS} (h : PSs X e t) (i : ∀ D σ H, t' D σ H → t D σ H) : PSs X e t' := ⟨fun pins s σ H D I hw => h.run pins s σ H D I Yg5⟩
theorem PG.imp {X : Cx} {e : Expr} {t t' : TG} (h : PG X e t) (i : ∀ v σ H Q, t' v σ H Q → t v σ H Q) : PG X e t' := ⟨fun pins s σ H v u Q I r hw => h.run pins s σ H v u Q I r (i _ _ _ _ hw)⟩
theorem PI.imp {X : Cx} {tg e : Expr} {t t' : TI} (h : PI X tg e t) (i : ∀ σ H Q, t' σ H Q → t σ H Q) : PI X tg e t' := ⟨fun pins s σ H Q I hw => h.run pins s σ H Q I Yg5⟩
end Mir
namespace Mir
open PySem PySem.Spec L2
open PyProof.Rows hiding St
mutual
def dat : T → PyData
 | .non => .none | .bl b => .bool b | .int i => .int i | .str s => .str s
 | .tup xs => .tuple (datL xs) | .lst xs => .list (datL xs) | .scr _ => .none | .pr _ => .none
 | .ty _ => .none | .dic _ _ => .none | .ins _ _ _ => .none | .cls _ => .none | .dit _ _ => .none | .exc _ _ _ => .none
def datL : List T → List PyData
 | [] => [] | x :: xs => dat x :: datL xs
end
mutual
/-- no dict, no instance; nested at most n deep -/
def fit : T → Nat → Bool
 | .non, _ => true | .bl _, _ => true | .int _, _ => true | .str _, _ => true
 | .tup xs, n => match n with | 0 => false | n + 1 => fitL xs n
 | .lst xs, n => match n with | 0 => false | n + 1 => fitL xs n
 | .scr _, _ => false | .pr _, _ => false | .ty _, _ => false | .dic _ _, _ => false | .ins _ _ _, _ => false | .cls _, _ => false | .dit _ _, _ => false | .exc _ _ _, _ => false
def fitL : List T → Nat → Bool
 | [], _ => true | x :: xs, n => fit x n && fitL xs n
end
mutual
def eqT : T → T → Bool
 | .non, y => match y with | .non => true | _ => false
 | .bl a, y => match y with | .bl b => a == b | .int j => (if a then 1 else 0) == j | _ => false
 | .int i, y => match y with | .bl b => i == (if b then 1 else 0) | .int j => i == j | _ => false
 | .str x, y => match y with | .str z => x == z | _ => false
 | .tup xs, y => match y with | .tup ys => eqTL xs ys | _ => false
 | .lst xs, y => match y with | .lst ys => eqTL xs ys | _ => false
 | .scr _, _ => false | .pr _, _ => false | .ty _, _ => false | .dic _ _, _ => false | .ins _ _ _, _ => false | .cls _, _ => false | .dit _ _, _ => false | .exc _ _ _, _ => false
def eqTL : List T → List T → Bool
 | [], ys => match ys with | [] => true | _ :: _ => false
 | x :: xs, ys => match ys with | [] => false | y :: ys => eqT x y && eqTL xs ys
end
mutual
theorem zef : ∀ (x : T) (n : Nat), fit x n = true → (dat x).plain = true ∧ (dat x).depth ≤ n
 | .non, n, _ => by simp [dat, PyData.plain, PyData.depth]
 | .bl _, n, _ => by simp [dat, PyData.plain, PyData.depth]
 | .int _, n, _ => by simp [dat, PyData.plain, PyData.depth]
 | .str _, n, _ => by simp [dat, PyData.plain, PyData.depth]
 | .tup xs, 0, h => by simp [fit] at h
 | .tup xs, n + 1, h => by
  have := fit_plainL xs n Yio
  simp only [dat, PyData.plain, PyData.depth]
  exact ⟨this.1, by omega⟩
 | .lst xs, 0, h => by simp [fit] at h
 | .lst xs, n + 1, h => by
  have := fit_plainL xs n Yio
  simp only [dat, PyData.plain, PyData.depth]
  exact ⟨this.1, by omega⟩
 | .ty _, n, h => by simp [fit] at h
 | .scr _, n, h => by simp [fit] at h
 | .pr _, n, h => by simp [fit] at h
 | .dic _ _, n, h => by simp [fit] at h
 | .ins _ _ _, n, h => by simp [fit] at h
 | .cls _, n, h => by simp [fit] at h
 | .dit _ _, n, h => by simp [fit] at h
 | .exc _ _ _, n, h => by simp [fit] at h
theorem fit_plainL : ∀ (xs : List T) (n : Nat), fitL xs n = true → PyData.plainAll (datL xs) = true ∧ PyData.depthAll (datL xs) ≤ n
 | [], n, _ => by simp [datL, PyData.plainAll, PyData.depthAll]
 | x :: xs, n, h => by
  simp only [fitL, Bool.and_eq_true] at h
  have h1 := zef x n h.1
  have h2 := fit_plainL xs n h.2
  simp only [datL, PyData.plainAll, PyData.depthAll, h1.1, h2.1, Bool.and_self, true_and]
  omega
end
mutual
theorem eqT_dat : ∀ (x y : T) (n m : Nat), fit x n = true → fit y m = true → PyData.eqv (dat x) (dat y) = eqT x y
 | .non, y, n, m, _, hy => by cases y <;> simp_all [dat, PyData.eqv, eqT, fit]
 | .bl a, y, n, m, _, hy => by cases y <;> simp_all [dat, PyData.eqv, eqT, fit]
 | .int i, y, n, m, _, hy => by cases y <;> simp_all [dat, PyData.eqv, eqT, fit]
 | .str x, y, n, m, _, hy => by cases y <;> simp_all [dat, PyData.eqv, eqT, fit]
 | .tup xs, .tup ys, 0, _, h, _ => by simp [fit] at h
 | .tup xs, .tup ys, n + 1, 0, _, h => by simp [fit] at h
 | .tup xs, .tup ys, n + 1, m + 1, hx, hy => by
  simp only [dat, PyData.eqv, eqT]
  exact eqTL_dat xs ys n m (by simpa [fit] using hx) (by simpa [fit] using hy)
 | .lst xs, .lst ys, 0, _, h, _ => by simp [fit] at h
 | .lst xs, .lst ys, n + 1, 0, _, h => by simp [fit] at h
 | .lst xs, .lst ys, n + 1, m + 1, hx, hy => by
  simp only [dat, PyData.eqv, eqT]
  exact eqTL_dat xs ys n m (by simpa [fit] using hx) (by simpa [fit] using hy)
 | .tup xs, .non, _, _, _, _ => by simp [dat, PyData.eqv, eqT]
 | .tup xs, .bl _, _, _, _, _ => by simp [dat, PyData.eqv, eqT]
 | .tup xs, .int _, _, _, _, _ => by simp [dat, PyData.eqv, eqT]
 | .tup xs, .str _, _, _, _, _ => by simp [dat, PyData.eqv, eqT]
 | .tup xs, .lst _, _, _, _, _ => by simp [dat, PyData.eqv, eqT]
 | .tup xs, .ty _, _, _, _, h => by simp [fit] at h
 | .tup xs, .scr _, _, _, _, h => by simp [fit] at h
 | .tup xs, .pr _, _, _, _, h => by simp [fit] at h
 | .tup xs, .dic _ _, _, _, _, h => by simp [fit] at h
 | .tup xs, .ins _ _ _, _, _, _, h => by simp [fit] at h
 | .tup xs, .cls _, _, _, _, h => by simp [fit] at h
 | .tup xs, .dit _ _, _, _, _, h => by simp [fit] at h
 | .tup xs, .exc _ _ _, _, _, _, h => by simp [fit] at h
 | .lst xs, .non, _, _, _, _ => by simp [dat, PyData.eqv, eqT]
 | .lst xs, .bl _, _, _, _, _ => by simp [dat, PyData.eqv, eqT]
 | .lst xs, .int _, _, _, _, _ => by simp [dat, PyData.eqv, eqT]
 | .lst xs, .str _, _, _, _, _ => by simp [dat, PyData.eqv, eqT]
 | .lst xs, .tup _, _, _, _, _ => by simp [dat, PyData.eqv, eqT]
 | .lst xs, .ty _, _, _, _, h => by simp [fit] at h
 | .lst xs, .scr _, _, _, _, h => by simp [fit] at h
 | .lst xs, .pr _, _, _, _, h => by simp [fit] at h
 | .lst xs, .dic _ _, _, _, _, h => by simp [fit] at h
 | .lst xs, .ins _ _ _, _, _, _, h => by simp [fit] at h
 | .lst xs, .cls _, _, _, _, h => by simp [fit] at h
 | .lst xs, .dit _ _, _, _, _, h => by simp [fit] at h
 | .lst xs, .exc _ _ _, _, _, _, h => by simp [fit] at h
 | .ty _, _, _, _, h, _ => by simp [fit] at h
 | .scr _, _, _, _, h, _ => by simp [fit] at h
 | .pr _, _, _, _, h, _ => by simp [fit] at h
 | .dic _ _, _, _, _, h, _ => by simp [fit] at h
 | .ins _ _ _, _, _, _, h, _ => by simp [fit] at h
 | .cls _, _, _, _, h, _ => by simp [fit] at h
 | .dit _ _, _, _, _, h, _ => by simp [fit] at h
 | .exc _ _ _, _, _, _, h, _ => by simp [fit] at h
theorem eqTL_dat : ∀ (xs ys : List T) (n m : Nat), fitL xs n = true → fitL ys m = true → PyData.eqvAll (datL xs) (datL ys) = eqTL xs ys
 | [], [], _, _, _, _ => by simp [datL, PyData.eqvAll, eqTL]
 | [], _ :: _, _, _, _, _ => by simp [datL, PyData.eqvAll, eqTL]
 | _ :: _, [], _, _, _, _ => by simp [datL, PyData.eqvAll, eqTL]
 | x :: xs, y :: ys, n, m, hx, hy => by
  simp only [fitL, Bool.and_eq_true] at hx hy
  simp only [datL, PyData.eqvAll, eqTL, eqT_dat x y n m hx.1 hy.1, eqTL_dat xs ys n m hx.2 hy.2]
end
section
variable {K : PySem.W.Frag} {ω : World} {s : S4}
mutual
theorem Rf.dp : ∀ (x : T) (v : V) (n : Nat), fit x n = true → Rf K s.fz s.H x v → Dp K s.H v (dat x)
 | .non, v, _, _, h => by simp only [Rf] at h; subst h; exact .non
 | .bl b, v, _, _, h => by simp only [Rf] at h; subst h; exact .bl b
 | .int b, v, _, _, h => by simp only [Rf] at h; subst h; exact .int b
 | .str b, v, _, _, h => by simp only [Rf] at h; subst h; exact .str b
 | .tup xs, v, 0, f, _ => by simp [fit] at f
 | .tup xs, v, n + 1, f, h => by
  simp only [Rf] at h
  obtain ⟨a, vs, e, t, l⟩ := h
  subst e
  exact .tup t.sq (RfL.dp xs vs n (by simpa [fit] using f) l)
 | .lst xs, v, 0, f, _ => by simp [fit] at f
 | .lst xs, v, n + 1, f, h => by
  simp only [Rf] at h
  obtain ⟨a, vs, e, t, l⟩ := h
  subst e
  exact .lst t.sq (RfL.dp xs vs n (by simpa [fit] using f) l)
 | .ty _, _, _, f, _ => by simp [fit] at f
 | .scr _, _, _, f, _ => by simp [fit] at f
 | .pr _, _, _, f, _ => by simp [fit] at f
 | .dic _ _, _, _, f, _ => by simp [fit] at f
 | .ins _ _ _, _, _, f, _ => by simp [fit] at f
 | .cls _, _, _, f, _ => by simp [fit] at f
 | .dit _ _, _, _, f, _ => by simp [fit] at f
 | .exc _ _ _, _, _, f, _ => by simp [fit] at f
theorem RfL.dp : ∀ (xs : List T) (vs : List V) (n : Nat), fitL xs n = true → RfL K s.fz s.H xs vs → DpAll K s.H vs (datL xs)
 | [], vs, _, _, h => by simp only [RfL] at h; subst h; exact .nil
 | x :: xs, vs, n, f, h => by
  simp only [fitL, Bool.and_eq_true] at f
  simp only [RfL] at h
  obtain ⟨v, r, e, a, b⟩ := h
  subst e
  exact .cons (Rf.dp x v n f.1 a) (RfL.dp xs r n f.2 b)
end
end
def allT : List W → Option (List T)
 | [] => some []
 | .t x :: ws => (allT ws).map (x :: ·)
 | .r _ :: _ => none
theorem zcu : ∀ {ws : List W} {ts : List T}, allT ws = some ts → ws = ts.map W.t
 | [], ts, h => by simp [allT] at h; subst h; rfl
 | .t x :: ws, ts, h => by
  simp only [allT, Option.map_eq_some_iff] at h
  obtain ⟨r, h1, h2⟩ := h
  subst h2
  rw [zcu h1]
  rfl
 | .r _ :: _, _, h => by simp [allT] at h
/-- a live list's items -/
def getL (hp : IH) (i : Nat) : Option (List W) := match hp[i]? with
 | some (some (.lst ws)) => some ws
 | _ => none
theorem zcy {hp : IH} {i : Nat} {ws : List W} (h : getL hp i = some ws) : hp[i]? = some (some (.lst ws)) := by
 unfold getL at h
 split at h
 ·cases h; assumption
 ·cases h
/-- as a tree (a live list of trees too) -/
def asT (hp : IH) : W → Option T
 | .t x => some x
 | .r i => ((getL hp i).bind allT).map T.lst
section
variable {K : PySem.W.Frag} {ω : World} {s : S4}
/-- where a live list lies -/
theorem Rel.lst (R : Rel K ω s) {i : Nat} {v : V} {ws : List W} (g : getL s.hp i = some ws) (r : Rw K s (.r i) v) : ∃ a vs, v = .ref a ∧ s.rho[i]? = some a ∧ s.H a = some (.lst vs) ∧ RwL K s ws vs ∧ ¬ s.fz a := by
 obtain ⟨a, e1, e2⟩ := r
 obtain ⟨vs, h1, h2⟩ := R.cell i _ a (zcy g) e1
 exact ⟨a, vs, e2, e1, h1, h2, R.fz a ⟨i, _, ⟨zcy g, True.intro⟩, e1⟩⟩
theorem asT_dp (R : Rel K ω s) {w : W} {x : T} {v : V} {n : Nat} (h : asT s.hp w = some x) (r : Rw K s w v) (f : fit x n = true) : Dp K s.H v (dat x) := by
 cases w with
 | t y => simp only [asT, Option.some.injEq] at h; subst h; exact Rf.dp _ v n f r
 | r i =>
  simp only [asT, Option.map_eq_some_iff, Option.bind_eq_some_iff] at h
  obtain ⟨ts, ⟨ws, g, h1⟩, h2⟩ := h
  subst h2
  obtain ⟨a, vs, e, _, e2, l, _⟩ := R.lst g r
  subst e
  cases n with
  | zero => simp [fit] at f
  | succ n =>
   rw [zcu h1] at l
   exact .lst (.inl (.inl e2)) (RfL.dp ts vs n (by simpa [fit] using f) Ye6)
end
section
variable {X : Cx}
def rEqP (K : PySem.W.Frag) : R2 := fun x y H Q => ∃ d e, Dp K H x d ∧ Dp K H y e ∧ d.plain = true ∧ e.plain = true ∧ d.depth ≤ 60 ∧ Q (.bl (PyData.eqv d e)) H
def rNeP (K : PySem.W.Frag) : R2 := fun x y H Q => ∃ d e, Dp K H x d ∧ Dp K H y e ∧ d.plain = true ∧ e.plain = true ∧ d.depth ≤ 60 ∧ Q (.bl (!PyData.eqv d e)) H
theorem op_eqP (hu : X.A.units + 64 < cLine) : OpR X (compareOp .Eq) (rEqP X.K) := by
 intro pins s σ H x y v u Q I rx ry h
 obtain ⟨d, e, hd, he, sd, se, dd, q⟩ := h
 obtain ⟨as, r1⟩ := Dp.reads I d x v hd rx
 obtain ⟨bs, r2⟩ := Dp.reads I e y u he ry
 exact SeqAt.eq_plain r1 r2 sd se (by have : min d.depth e.depth ≤ d.depth := Nat.min_le_left _ _; omega) ⟨.bl _, H, I, rfl, q⟩
theorem op_neP (hu : X.A.units + 64 < cLine) : OpR X (compareOp .NotEq) (rNeP X.K) := by
 intro pins s σ H x y v u Q I rx ry h
 obtain ⟨d, e, hd, he, sd, se, dd, q⟩ := h
 obtain ⟨as, r1⟩ := Dp.reads I d x v hd rx
 obtain ⟨bs, r2⟩ := Dp.reads I e y u he ry
 exact SeqAt.ne_plain r1 r2 sd se (by have : min d.depth e.depth ≤ d.depth := Nat.min_le_left _ _; omega) ⟨.bl _, H, I, rfl, q⟩
/-- x in c: c a list or a tuple of data -/
def rInP (K : PySem.W.Frag) (neg : Bool) : R2 := fun x y H Q => ∃ d e, Dp K H x d ∧ (Dp K H y (.list e) ∨ Dp K H y (.tuple e)) ∧ d.plain = true ∧ PyData.plainAll e = true ∧ d.depth ≤ 60 ∧
 Q (.bl (if neg then !(e.any fun z => PyData.eqv z d) else e.any fun z => PyData.eqv z d)) H
theorem op_inP (hu : X.A.units + 64 < cLine) : OpR X (compareOp .In) (rInP X.K false) := by
 intro pins s σ H x y v u Q I rx ry h
 obtain ⟨d, e, hd, he, sd, se, dd, q⟩ := h
 obtain ⟨as, r1⟩ := Dp.reads I d x v hd rx
 have hm : X.A.units + 1 + min (PyData.depthAll e) d.depth < cLine := by have : min (PyData.depthAll e) d.depth ≤ d.depth := Nat.min_le_right _ _; omega
 rcases he with he | he
 ·obtain ⟨bs, r2⟩ := Dp.reads I _ y u he ry
  exact SeqAt.in_list_data r2 r1 se sd hm ⟨.bl _, H, I, rfl, q⟩
 ·obtain ⟨bs, r2⟩ := Dp.reads I _ y u he ry
  exact SeqAt.in_tuple_data r2 r1 se sd hm ⟨.bl _, H, I, rfl, q⟩
theorem op_ninP (hu : X.A.units + 64 < cLine) : OpR X (compareOp .NotIn) (rInP X.K true) := by
 intro pins s σ H x y v u Q I rx ry h
 obtain ⟨d, e, hd, he, sd, se, dd, q⟩ := h
 obtain ⟨as, r1⟩ := Dp.reads I d x v hd rx
 have hm : X.A.units + 1 + min (PyData.depthAll e) d.depth < cLine := by have : min (PyData.depthAll e) d.depth ≤ d.depth := Nat.min_le_right _ _; omega
 rcases he with he | he
 ·obtain ⟨bs, r2⟩ := Dp.reads I _ y u he ry
  exact SeqAt.notIn_list_data r2 r1 se sd hm ⟨.bl _, H, I, rfl, q⟩
 ·obtain ⟨bs, r2⟩ := Dp.reads I _ y u he ry
  exact SeqAt.notIn_tuple_data r2 r1 se sd hm ⟨.bl _, H, I, rfl, q⟩
end
abbrev Op2 := W → W → IH → Res W
abbrev Op1 := W → IH → Res W
abbrev OpN := List W → IH → Res W
def zec (K : PySem.W.Frag) (ω : World) (Wx : WX) (f : Op2) (r : R2) : Prop := ∀ (s : S4) (a b : W) (x y : V) (Q : VK), Rel K ω s → Rw K s a x → Rw K s b y → Go K ω Wx (Rw K) s (f a b s.hp) Q → r x y s.H Q
def Op1Ok (K : PySem.W.Frag) (ω : World) (Wx : WX) (f : Op1) (r : V → Hp → VK → Prop) : Prop := ∀ (s : S4) (a : W) (x : V) (Q : VK), Rel K ω s → Rw K s a x → Go K ω Wx (Rw K) s (f a s.hp) Q → r x s.H Q
def OpNOk (K : PySem.W.Frag) (ω : World) (Wx : WX) (f : OpN) (r : List V → Hp → VK → Prop) : Prop := ∀ (s : S4) (a : List W) (x : List V) (Q : VK), Rel K ω s → RwL K s a x → Go K ω Wx (Rw K) s (f a s.hp) Q → r x s.H Q
def mBin (f : Op2) (Fa Fb : M W) : M W := fun eta hp => (Fa eta hp).bind fun a h1 => (Fb eta h1).bind fun b h2 => f a b h2
def mUn (f : Op1) (Fa : M W) : M W := fun eta hp => (Fa eta hp).bind fun a h1 => f a h1
def mNil : M (List W) := fun _ hp => .ok [] hp
def zab (Fa : M W) (Fr : M (List W)) : M (List W) := fun eta hp => (Fa eta hp).bind fun a h1 => (Fr eta h1).bind fun r h2 => .ok (a :: r) h2
def mApp (f : OpN) (Fa : M (List W)) : M W := fun eta hp => (Fa eta hp).bind fun a h1 => f a h1
section
variable {X : Cx} {Wx : WX} {a b c e : Expr} {es : List Expr} {Fa Fb Fc F : M W} {Fs : M (List W)} {pos : Pos}
theorem tM.bind1 {A B C D : Type} {K : PySem.W.Frag} {ω : World} {Fam : S4 → A → B → Prop} {Gam : S4 → C → D → Prop} {Fa : M A} {k : A → IS → IH → Res C} {σ : St} {H : Hp} {Q : D → Hp → Prop} {R : B → Hp → Prop}
  (h : tM K ω Wx Gam (fun eta hp => (Fa eta hp).bind fun a h1 => k a eta h1) σ H Q)
  (n : ∀ (s : S4) (eta : IS) (a : A) (b : B), Rel K ω s → Sl K s eta σ → Fam s a b → Go K ω Wx Gam s (k a eta s.hp) Q → R b s.H) : tM K ω Wx Fam Fa σ H R := by
 obtain ⟨s, eta, e1, R1, S1, g⟩ := h
 refine ⟨s, eta, e1, R1, S1, Go.bind g fun a b s' A' R' f _ g' => n s' eta a b R' (S1.aft A' R1) f g'⟩
theorem tM.bind2 {A B C D A' B' : Type} {K : PySem.W.Frag} {ω : World} {Fam : S4 → A → B → Prop} {Fam' : S4 → A' → B' → Prop} {Gam : S4 → C → D → Prop} {Fa : M A} {Fb : M A'} {k : A → A' → IS → IH → Res C} {σ : St} {H : Hp} {Q : D → Hp → Prop} {R : B → B' → Hp → Prop}
  (keep : ∀ s s' a b, Fam s a b → Aft s s' → Rel K ω s → Fam s' a b)
  (h : tM K ω Wx Gam (fun eta hp => (Fa eta hp).bind fun a h1 => (Fb eta h1).bind fun b h2 => k a b eta h2) σ H Q)
  (n : ∀ (s : S4) (eta : IS) (a : A) (b : B) (a' : A') (b' : B'), Rel K ω s → Sl K s eta σ → Fam s a b → Fam' s a' b' → Go K ω Wx Gam s (k a a' eta s.hp) Q → R b b' s.H) : tM K ω Wx Fam Fa σ H fun b H1 => tM K ω Wx Fam' Fb σ H1 fun b' H2 => R b b' H2 := by
 refine tM.bind1 (k := fun a eta h1 => (Fb eta h1).bind fun b h2 => k a b eta h2) h fun s eta a b R1 S1 f g => ?_
 refine ⟨s, eta, rfl, R1, S1, Go.bind g fun a' b' s' A' R' f' _ g' => n s' eta a b a' b' R' (S1.aft A' R1) (keep _ _ _ _ f A' R1) f' g'⟩
theorem Rw.keep {K : PySem.W.Frag} {ω : World} : ∀ (s s' : S4) (a : W) (b : V), Rw K s a b → Aft s s' → Rel K ω s → Rw K s' a b := fun _ _ _ _ h A R => h.aft A R
theorem RwL.keep {K : PySem.W.Frag} {ω : World} : ∀ (s s' : S4) (a : List W) (b : List V), RwL K s a b → Aft s s' → Rel K ω s → RwL K s' a b := fun _ _ _ _ h A R => RwL.aft A R _ _ h
theorem t_bin {f : Op2} {r : R2} (hf : zec X.K X.w Wx f r) : ∀ σ H Q, tE X.K X.w Wx (mBin f Fa Fb) σ H Q → tOp r (tE X.K X.w Wx Fa) (tE X.K X.w Wx Fb) σ H Q := by
 intro σ H Q h
 exact tM.bind2 (R := fun x y H2 => r x y H2 Q) (k := fun a b _ hp => f a b hp) Rw.keep h fun s eta a b a' b' R1 S1 f1 f2 g => hf s a a' b b' Q R1 f1 f2 g
theorem ie_bin {op : Operator} {f : Op2} {r : R2} (ho : OpR X (binaryOp op) r) (hf : zec X.K X.w Wx f r) (ha : IE X Wx a Fa) (hb : IE X Wx b Fb) : IE X Wx (.BinOp a op b pos) (mBin f Fa Fb) :=
 PE.imp (pe_op ho ha hb) (t_bin hf)
theorem ie_cmp {op : CmpOp} {f : Op2} {r : R2} (ho : OpR X (compareOp op) r) (hf : zec X.K X.w Wx f r) (ha : IE X Wx a Fa) (hb : IE X Wx b Fb) (hm : behindInMarks op b = false) : IE X Wx (.Compare a [op] [b] pos) (mBin f Fa Fb) :=
 PE.imp (pe_cmpR ho ha hb hm) (t_bin hf)
theorem ie_un {op : UnaryOp} {f : Op1} {r : V → Hp → VK → Prop} (ho : UnR X (unaryOp op) r) (hf : Op1Ok X.K X.w Wx f r) (ha : IE X Wx a Fa) : IE X Wx (.UnaryOp op a pos) (mUn f Fa) :=
 PE.imp (pe_un ho ha) fun σ H Q h => tM.bind1 (R := fun x H1 => r x H1 Q) (k := fun a _ hp => f a hp) h fun s eta a b R1 _ f1 g => hf s a b Q R1 f1 g
theorem ie_ix {f : Op2} {r : R2} (hr : IxR X r) (hf : zec X.K X.w Wx f r) (ha : IE X Wx a Fa) (hb : IE X Wx b Fb) (hs : PlainIx b) : IE X Wx (.Subscript a b pos) (mBin f Fa Fb) :=
 PE.imp (pe_ix hr ha hb hs) (t_bin hf)
theorem zad : IA X Wx [] mNil := PA.imp pa_nil fun σ H Q h => by
 obtain ⟨s, eta, e1, R1, S1, g⟩ := h
 subst e1
 exact g [] s rfl Ym R1 rfl
theorem zaa (ha : IE X Wx e Fa) (hr : IA X Wx es Fs) (hs : starEach Yal X.env = (false, eval e X.env) :: starEach es X.env := by rfl) : IA X Wx Yal (zab Fa Fs) :=
 PA.imp (pa_cons ha hr hs) fun σ H Q h => tM.bind2 (R := fun x xs H2 => Q (x :: xs) H2) (k := fun a r _ hp => .ok (a :: r) hp) Rw.keep h fun s eta a b a' b' R1 S1 f1 f2 g => g (b :: b') s rfl Ym R1 ⟨b, b', rfl, f1, f2⟩
/-- *e: a tuple or a list -/
def items (hp : IH) : W → Option (List W)
 | .t (.tup xs) => some Yip
 | .t (.lst xs) => some Yip
 | .t (.scr xs) => some Yip
 | .t _ => none
 | .r i => getL hp i
theorem items_sq {K : PySem.W.Frag} {ω : World} {s : S4} (R : Rel K ω s) {w : W} {v : V} {ws : List W} (h : items s.hp w = some ws) (r : Rw K s w v) : ∃ p xs, v = .ref p ∧ (SqT K s.H p xs ∨ SqL K s.H p xs) ∧ RwL K s ws xs := by
 cases w with
 | t x =>
  cases x with
  | tup xs =>
   simp only [items, Option.some.injEq] at h
   subst h
   obtain ⟨a, vs, e, t, l⟩ : ∃ a vs, v = .ref a ∧ FTup K s.fz s.H a vs ∧ RfL K s.fz s.H xs vs := by simpa only [Rw, Rf] using r
   exact ⟨a, vs, e, .inl t.sq, RwL.of_trees.mpr l⟩
  | lst xs =>
   simp only [items, Option.some.injEq] at h
   subst h
   obtain ⟨a, vs, e, t, l⟩ : ∃ a vs, v = .ref a ∧ FLst s.fz s.H a vs ∧ RfL K s.fz s.H xs vs := by simpa only [Rw, Rf] using r
   exact ⟨a, vs, e, .inr t.sq, RwL.of_trees.mpr l⟩
  | scr xs =>
   simp only [items, Option.some.injEq] at h
   subst h
   obtain ⟨a, vs, e, t, l⟩ : ∃ a vs, v = .ref a ∧ FScr K s.fz s.H a vs ∧ RfL K s.fz s.H xs vs := by simpa only [Rw, Rf] using r
   exact ⟨a, vs, e, .inr t.sq, RwL.of_trees.mpr l⟩
  | _ => simp [items] at h
 | r i =>
  obtain ⟨a, vs, e, _, e2, l, _⟩ := R.lst (show getL s.hp i = some ws from h) r
  exact ⟨a, vs, e, .inr (.inl (.inl e2)), l⟩
def mStar (Fa : M W) (Fr : M (List W)) : M (List W) := fun eta hp => (Fa eta hp).bind fun a h1 => match items h1 a with
 | some ws => (Fr eta h1).bind fun r h2 => .ok (ws ++ r) h2
 | none => .bad
end
section
variable {X : Cx} {Wx : WX} {pos : Pos}
def mVar (i : Nat) : M W := fun eta hp => match eta[i]? with
 | some (some w) => .ok w hp
 | _ => .bad
def mC (x : T) : M W := fun _ hp => .ok (.t x) hp
theorem zac (i : Nat) {x : Str} (hN : X.N[i]? = some x := by rfl) (hv : Vis X.env.scope x := by first | exact Or.inl rfl | exact Or.inr (Or.inl rfl) | exact Or.inr (Or.inr rfl)) (hd : (x == ("__debug__" : Str)) = false := by decide)
  (hcd : (x == ("__classdict__" : Str)) = false := by decide) : IE X Wx Yix (mVar i) := PE.imp (pe_var hN hv hd hcd) fun σ H Q h => by
 obtain ⟨s, eta, e1, R1, S1, g⟩ := h
 subst e1
 unfold mVar at g
 split at g
 ·rename_i w hw
  obtain ⟨v, h1, h2⟩ := S1.2 i w hw
  exact ⟨v, h1, g v s rfl Ym R1 h2⟩
 ·exact g.elim
theorem t_const {v : V} {x : T} (hx : ∀ s, Rw X.K s (.t x) v) : ∀ σ H Q, tE X.K X.w Wx (mC x) σ H Q → tC v σ H Q := fun σ H Q h => by
 obtain ⟨s, eta, e1, R1, S1, g⟩ := h
 subst e1
 exact g v s rfl Ym R1 (hx s)
theorem zag {i j} : IE X Wx (.Constant (.int i) j pos) (mC (.int i)) := PE.imp pe_int Ye7
theorem ie_bl {b j} : IE X Wx (.Constant (.bool b) j pos) (mC (.bl b)) := PE.imp pe_bl Ye7
theorem zby {j} : IE X Wx (.Constant .none j pos) Yag := PE.imp pe_non Ye7
theorem zai {x j} : IE X Wx (.Constant (.str x) j pos) (mC (.str x)) := PE.imp pe_str Ye7
/-- a module's constant: what stands in the written part -/
def KT (K : PySem.W.Frag) (x : T) (v : V) : Prop := ∀ s, Rw K s (.t x) v
theorem ie_glob {x : Str} {v : V} {u : Value} {t : T} (hg : Gl X x) (hm : X.mg x = some u) (r : RelV v u) (k : KT X.K t v) (hd : (x == ("__debug__" : Str)) = false := by decide) : IE X Wx Yix (mC t) :=
 PE.imp (pe_glob hg hm r hd) (t_const k)
end
end Mir
namespace Mir
open PySem PySem.Spec L2
open PyProof.Rows hiding St
section
variable {K : PySem.W.Frag} {ω : World} {s : S4}
theorem Rel.fresh (R : Rel K ω s) {p : Addr} (h : s.H p = none) : p ∉ s.rho ∧ ¬ s.fz p := ⟨fun m => R.trk p m h, fun f => R.ftrk p f h⟩
theorem Rel.notlive (R : Rel K ω s) {p : Addr} (h : s.H p = none) : ¬ Live s p := fun ⟨i, c, _, e⟩ => (R.fresh h).1 (List.mem_of_getElem? e)
theorem Rel.liveH (R : Rel K ω s) {i : Nat} {c : Cell} {a : Addr} (h : s.hp[i]? = some (some c)) (e : s.rho[i]? = some a) : s.H a ≠ none := R.trk a (List.mem_of_getElem? e)
/-- a new frozen object -/
def S4.addF (s : S4) (p : Addr) (o : HO) : S4 := ⟨s.rho, fun a => s.fz a ∨ a = p, s.hp, upd s.H p o⟩
theorem zbs (R : Rel K ω s) {p : Addr} {o : HO} (h : s.H p = none) : Aft s (s.addF p o) := by
 refine ⟨⟨[], by simp [S4.addF], by simp⟩, fun a f => .inl f, fun a u e _ => ?_, fun a f => ?_, fun a l => .inl l, fun a e => ?_⟩
 ·show upd s.H p o a = some u
  rw [upd_ne (ne_of_none e h)]; exact e
 ·rcases f with f | f
  ·exact .inl f
  ·exact .inr (.inl (by rw [f]; exact h))
 ·show upd s.H p o a ≠ none
  by_cases q : a = p
  ·rw [q, upd_same]; intro z; cases z
  ·rw [upd_ne q]; exact e
theorem zcd (R : Rel K ω s) {p : Addr} {o : HO} (h : s.H p = none) : Rel K ω (s.addF p o) := by
 have A := zbs (o := o) R h
 refine ⟨R.len, R.nd, fun a m => A.trk a (R.trk a m), fun a f => ?_, fun a l f => ?_, fun i c a e1 e2 => ?_⟩
 ·rcases f with f | f
  ·exact A.trk a (R.ftrk a f)
  ·show upd s.H p o a ≠ none
   rw [f, upd_same]; intro z; cases z
 ·rcases f with f | f
  ·exact R.fz a l f
  ·rw [f] at l; exact R.notlive h l
 ·have q := R.cell i c a e1 e2
  have ne : a ≠ p := fun z => R.liveH e1 e2 (by rw [z]; exact h)
  show CellOk K ω (s.addF p o) a c (upd s.H p o a)
  rw [upd_ne ne]
  exact q.aft A R
theorem addF_tup (R : Rel K ω s) {p : Addr} {o : Obj} {ts : List T} {vs : List V} (h : s.H p = none) (d : o.dict = none) (l : RfL K s.fz s.H ts vs) : Rw K (s.addF p (.frz o (.tup vs))) Yaq (.ref p) := by
 have A := zbs (o := .frz o (.tup vs)) R h
 simp only [Rw, Rf]
 exact ⟨p, vs, rfl, .inl ⟨.inr rfl, o, upd_same, d⟩, RfL.aft A R _ _ l⟩
theorem addF_pr (R : Rel K ω s) {p : Addr} {ts : List T} {vs : List V} (h : s.H p = none) (l : RfL K s.fz s.H ts vs) : Rw K (s.addF p (.tup vs)) (.t (.pr ts)) (.ref p) := by
 have A := zbs (o := .tup vs) R h
 simp only [Rw, Rf]
 exact ⟨p, vs, rfl, ⟨.inr rfl, upd_same⟩, RfL.aft A R _ _ l⟩
theorem zen (R : Rel K ω s) {p : Addr} {ts : List T} {vs : List V} (h : s.H p = none) (l : RfL K s.fz s.H ts vs) : Rw K (s.addF p (.lst vs)) Yad (.ref p) := by
 have A := zbs (o := .lst vs) R h
 simp only [Rw, Rf]
 exact ⟨p, vs, rfl, ⟨.inr rfl, upd_same⟩, RfL.aft A R _ _ l⟩
/-- a new live cell -/
def S4.addL (s : S4) (p : Addr) (c : Cell) (o : HO) : S4 := ⟨s.rho ++ [p], s.fz, s.hp ++ [some c], upd s.H p o⟩
theorem live_addL (R : Rel K ω s) {p a : Addr} {c : Cell} {o : HO} (l : Live (s.addL p c o) a) : Live s a ∨ a = p := by
 obtain ⟨i, d, ⟨e1, al⟩, e2⟩ := l
 have e1 : (s.hp ++ [some c])[i]? = some (some d) := e1
 have e2 : (s.rho ++ [p])[i]? = some a := e2
 by_cases hi : i < s.hp.length
 ·rw [List.getElem?_append_left hi] at e1
  rw [List.getElem?_append_left (by rw [R.len]; exact hi)] at e2
  exact .inl ⟨i, d, ⟨e1, al⟩, e2⟩
 ·rw [List.getElem?_append_right (by rw [R.len]; omega)] at e2
  have : i - s.rho.length = 0 := by
   have := (List.getElem?_eq_some_iff.mp e2).1
   simp at this
   omega
  rw [this] at e2
  simp at e2
  exact .inr e2.symm
theorem aft_addL (R : Rel K ω s) {p : Addr} {c : Cell} {o : HO} (h : s.H p = none) : Aft s (s.addL p c o) := by
 refine ⟨⟨[p], rfl, by simp [h]⟩, fun a f => f, fun a u e _ => ?_, fun a f => .inl f, fun a l => ?_, fun a e => ?_⟩
 ·show upd s.H p o a = some u
  rw [upd_ne (ne_of_none e h)]; exact e
 ·rcases live_addL R l with l | l
  ·exact .inl l
  ·exact .inr (by rw [l]; exact h)
 ·show upd s.H p o a ≠ none
  by_cases q : a = p
  ·rw [q, upd_same]; intro z; cases z
  ·rw [upd_ne q]; exact e
theorem rel_addL (R : Rel K ω s) {p : Addr} {c : Cell} {o : HO} (h : s.H p = none) (ok : CellOk K ω s p c (some o)) : Rel K ω (s.addL p c o) := by
 have A := aft_addL (c := c) (o := o) R h
 have hp := R.fresh h
 refine ⟨by simp [S4.addL, R.len], ?_, fun a m => ?_, fun a f => A.trk a (R.ftrk a f), fun a l f => ?_, fun i d a e1 e2 => ?_⟩
 ·show (s.rho ++ [p]).Nodup
  refine List.nodup_append.mpr ⟨R.nd, by simp, fun a m b hb => ?_⟩
  simp at hb
  rintro rfl
  exact hp.1 (hb ▸ m)
 ·have m : a ∈ s.rho ++ [p] := m
  rcases List.mem_append.mp m with m | m
  ·exact A.trk a (R.trk a m)
  ·simp at m
   show upd s.H p o a ≠ none
   rw [m, upd_same]; intro z; cases z
 ·rcases live_addL R l with l | l
  ·exact R.fz a l f
  ·exact hp.2 (l ▸ f)
 ·have e1 : (s.hp ++ [some c])[i]? = some (some d) := e1
  have e2 : (s.rho ++ [p])[i]? = some a := e2
  show CellOk K ω (s.addL p c o) a d (upd s.H p o a)
  by_cases hi : i < s.hp.length
  ·rw [List.getElem?_append_left hi] at e1
   rw [List.getElem?_append_left (by rw [R.len]; exact hi)] at e2
   have ne : a ≠ p := fun z => R.liveH e1 e2 (by rw [z]; exact h)
   rw [upd_ne ne]
   exact (R.cell i d a e1 e2).aft A R
  ·have h0 : i = s.hp.length := by
    have := (List.getElem?_eq_some_iff.mp e1).1
    simp at this
    omega
   subst h0
   simp at e1
   rw [List.getElem?_append_right (by rw [R.len]; exact Nat.le_refl _), R.len] at e2
   simp at e2
   subst e1 e2
   rw [upd_same]
   exact ok.aft A R
theorem addL_r (R : Rel K ω s) {p : Addr} {c : Cell} {o : HO} : Rw K (s.addL p c o) (.r s.hp.length) (.ref p) :=
 ⟨p, by show (s.rho ++ [p])[s.hp.length]? = some p; rw [List.getElem?_append_right (by rw [R.len]; exact Nat.le_refl _), R.len]; simp, rfl⟩
/-- a live cell is changed -/
def S4.setL (s : S4) (i : Nat) (a : Addr) (c : Cell) (o : HO) : S4 := ⟨s.rho, s.fz, s.hp.set i (some c), upd s.H a o⟩
theorem live_setL {i : Nat} {a b : Addr} {c c0 : Cell} {o : HO} (h0 : s.hp[i]? = some (some c0)) (l : Live (s.setL i a c o) b) (hv : c0.alive := by exact True.intro) : Live s b := by
 obtain ⟨j, d, ⟨e1, al⟩, e2⟩ := l
 have e1 : (s.hp.set i (some c))[j]? = some (some d) := e1
 by_cases hj : i = j
 ·subst hj
  exact ⟨i, c0, ⟨h0, hv⟩, e2⟩
 ·rw [List.getElem?_set_ne hj] at e1
  exact ⟨j, d, ⟨e1, al⟩, e2⟩
theorem aft_setL (R : Rel K ω s) {i : Nat} {a : Addr} {c c0 : Cell} {o : HO} (h0 : s.hp[i]? = some (some c0)) (ha : s.rho[i]? = some a) (hv : c0.alive := by exact True.intro) : Aft s (s.setL i a c o) := by
 refine ⟨⟨[], by simp [S4.setL], by simp⟩, fun _ f => f, fun b u e nl => ?_, fun _ f => .inl f, fun b l => .inl (live_setL h0 l hv), fun b e => ?_⟩
 ·show upd s.H a o b = some u
  rw [upd_ne (fun z => nl (by rw [z]; exact ⟨i, c0, ⟨h0, hv⟩, ha⟩))]; exact e
 ·show upd s.H a o b ≠ none
  by_cases q : b = a
  ·rw [q, upd_same]; intro z; cases z
  ·rw [upd_ne q]; exact e
theorem rel_setL (R : Rel K ω s) {i : Nat} {a : Addr} {c c0 : Cell} {o : HO} (h0 : s.hp[i]? = some (some c0)) (ha : s.rho[i]? = some a) (ok : CellOk K ω s a c (some o)) (hv : c0.alive := by exact True.intro) : Rel K ω (s.setL i a c o) := by
 have A := aft_setL (c := c) (o := o) R h0 ha hv
 refine ⟨by simp [S4.setL, R.len], R.nd, fun b m => A.trk b (R.trk b m), fun b f => A.trk b (R.ftrk b f), fun b l f => R.fz b (live_setL h0 l hv) f, fun j d b e1 e2 => ?_⟩
 have e1 : (s.hp.set i (some c))[j]? = some (some d) := e1
 show CellOk K ω (s.setL i a c o) b d (upd s.H a o b)
 by_cases hj : i = j
 ·subst hj
  have e2 : s.rho[i]? = some b := e2
  rw [ha] at e2; cases e2
  rw [List.getElem?_set_self (List.getElem?_eq_some_iff.mp h0).1] at e1
  cases e1
  rw [upd_same]
  exact ok.aft A R
 ·rw [List.getElem?_set_ne hj] at e1
  have e2 : s.rho[j]? = some b := e2
  have ne : b ≠ a := fun z => by
   subst z
   exact hj ((List.getElem?_inj (List.getElem?_eq_some_iff.mp ha).1 R.nd).mp (ha.trans e2.symm))
  rw [upd_ne ne]
  exact (R.cell j d b e1 e2).aft A R
/-- a live cell is frozen -/
def S4.frz (s : S4) (i : Nat) (a : Addr) : S4 := ⟨s.rho, fun b => s.fz b ∨ b = a, s.hp.set i none, s.H⟩
theorem live_frz (R : Rel K ω s) {i : Nat} {a b : Addr} (ha : s.rho[i]? = some a) (l : Live (s.frz i a) b) : Live s b ∧ b ≠ a := by
 obtain ⟨j, d, ⟨e1, al⟩, e2⟩ := l
 have e1 : (s.hp.set i none)[j]? = some (some d) := e1
 have e2 : s.rho[j]? = some b := e2
 by_cases hj : i = j
 ·subst hj
  by_cases hl : i < s.hp.length
  ·rw [List.getElem?_set_self hl] at e1; cases e1
  ·rw [List.getElem?_eq_none Yie] at e1; cases e1
 ·rw [List.getElem?_set_ne hj] at e1
  refine ⟨⟨j, d, ⟨e1, al⟩, e2⟩, fun z => ?_⟩
  subst z
  exact hj ((List.getElem?_inj (List.getElem?_eq_some_iff.mp ha).1 R.nd).mp (ha.trans e2.symm))
theorem aft_frz (R : Rel K ω s) {i : Nat} {a : Addr} {c0 : Cell} (h0 : s.hp[i]? = some (some c0)) (ha : s.rho[i]? = some a) (hv : c0.alive := by exact True.intro) : Aft s (s.frz i a) := by
 refine ⟨⟨[], by simp [S4.frz], by simp⟩, fun _ f => .inl f, fun b u e nl => e, fun b f => ?_, fun b l => .inl (live_frz R ha l).1, fun b e => e⟩
 rcases f with f | f
 ·exact .inl f
 ·exact .inr (.inr (by rw [f]; exact ⟨i, c0, ⟨h0, hv⟩, ha⟩))
theorem rel_frz (R : Rel K ω s) {i : Nat} {a : Addr} {c0 : Cell} (h0 : s.hp[i]? = some (some c0)) (ha : s.rho[i]? = some a) (hv : c0.alive := by exact True.intro) : Rel K ω (s.frz i a) := by
 have A := aft_frz R h0 ha hv
 refine ⟨by simp [S4.frz, R.len], R.nd, R.trk, fun b f => ?_, fun b l f => ?_, fun j d b e1 e2 => ?_⟩
 ·rcases f with f | f
  ·exact R.ftrk b f
  ·rw [f]; exact R.liveH h0 ha
 ·obtain ⟨l1, ne⟩ := live_frz R ha l
  rcases f with f | f
  ·exact R.fz b l1 f
  ·exact ne f
 ·have e1 : (s.hp.set i none)[j]? = some (some d) := e1
  by_cases hj : i = j
  ·subst hj
   rw [List.getElem?_set_self (List.getElem?_eq_some_iff.mp h0).1] at e1; cases e1
  ·rw [List.getElem?_set_ne hj] at e1
   exact (R.cell j d b e1 e2).aft A R
end
/-- a live list of trees becomes a tree -/
def zc9 (w : W) (hp : IH) : Res W := match w with
 | .t x => .ok (.t x) hp
 | .r i => match (getL hp i).bind allT with
  | some ts => .ok Yad (hp.set i none)
  | none => .bad
def mFrz (F : M W) : M W := fun eta hp => (F eta hp).bind fun a h1 => zc9 a h1
section
variable {X : Cx} {Wx : WX} {e : Expr} {es : List Expr} {F : M W} {Fs : M (List W)} {pos : Pos}
def za2 (ws : List W) (hp : IH) : Res W := match allT ws with
 | some ts => if ts.length ≤ 16777216 then .ok Yaq hp else .bad
 | none => .bad
def zas (ws : List W) (hp : IH) : Res W := match allT ws with
 | some ts => if ts.length ≤ 16777216 then .ok Yad hp else .bad
 | none => .bad
def newL (ws : List W) (hp : IH) : Res W := if ws.length ≤ 16777216 then .ok Ydc Yiq else .bad
section
variable {K : PySem.W.Frag} {ω : World} {s : S4} {ws : List W} {vs : List V} {Q : VK}
theorem go_tup (R : Rel K ω s) (r : RwL K s ws vs) (g : Go K ω Wx (Rw K) s (za2 ws s.hp) Q) : vs.length ≤ sizeLine ∧ ∀ (p : Addr) (o : Obj), s.H p = none → o.dict = none → Q (.ref p) (upd s.H p (.frz o (.tup vs))) := by
 unfold za2 at g
 split at g
 ·rename_i ts ht
  split at g
  ·rename_i hz
   rw [zcu ht] at r
   refine ⟨by rw [← RwL.length r, List.length_map, sizeLine_eq]; exact hz, fun p o hp d => g (.ref p) (s.addF p (.frz o (.tup vs))) rfl (zbs R hp) (zcd R hp) (addF_tup R hp d (RwL.of_trees.mp r))⟩
  ·exact g.elim
 ·exact g.elim
theorem go_lst (R : Rel K ω s) (r : RwL K s ws vs) (g : Go K ω Wx (Rw K) s (zas ws s.hp) Q) : vs.length ≤ sizeLine ∧ ∀ p, s.H p = none → Q (.ref p) (upd s.H p (.lst vs)) := by
 unfold zas at g
 split at g
 ·rename_i ts ht
  split at g
  ·rename_i hz
   rw [zcu ht] at r
   refine ⟨by rw [← RwL.length r, List.length_map, sizeLine_eq]; exact hz, fun p hp => g (.ref p) (s.addF p (.lst vs)) rfl (zbs R hp) (zcd R hp) (zen R hp (RwL.of_trees.mp r))⟩
  ·exact g.elim
 ·exact g.elim
theorem go_newL (R : Rel K ω s) (r : RwL K s ws vs) (g : Go K ω Wx (Rw K) s (newL ws s.hp) Q) : vs.length ≤ sizeLine ∧ ∀ p, s.H p = none → Q (.ref p) (upd s.H p (.lst vs)) := by
 unfold newL at g
 split at g
 ·rename_i hz
  refine ⟨by rw [← RwL.length r, sizeLine_eq]; exact hz, fun p hp => g (.ref p) (s.addL p (.lst ws) (.lst vs)) rfl (aft_addL R hp) (rel_addL R hp ⟨vs, rfl, r⟩) (addL_r R)⟩
 ·exact g.elim
end
/-- a tuple laid, its object known to have no dict -/
def tTupS (t : TA) : TE := fun σ H Q => t σ H fun xs H1 => xs.length ≤ sizeLine ∧ ∀ (p : Addr) (o : Obj), H1 p = none → o.dict = none → Q (.ref p) (upd H1 p (.frz o (.tup xs)))
theorem laid_tup {pins : List Yc5} {σ : St} {H : Hp} {s : Shared} {xs : List V} {us : List Value} {t' : Nat} {Q : VK} (I : Inv X pins σ H s) (r : Vals xs us) (z : xs.length ≤ sizeLine)
  (q : ∀ (p : Addr) (o : Obj), H p = none → o.dict = none → Q (.ref p) (upd H p (.frz o (.tup xs)))) : EP X pins σ Q (.ref s.heap.objs.size) { s with heap := s.heap.push { cls := .type "tuple", data := .seq us.toArray }, toks := t' } := by
 refine ⟨.ref s.heap.objs.size, _, I.laid (t' := t') (o := .frz { cls := .type "tuple", data := .seq us.toArray } (.tup xs)) (fun b u e => Heap.get?_push_of_some _ e) Yd8 ?_, rfl, q _ _ I.fresh rfl⟩
 exact ⟨Heap.get?_push_size _ rfl, z, us, r, ⟨_, Heap.get?_push_size _ rfl, rfl, _, rfl⟩⟩
theorem pe_tupS {x1} {t : TA} (h : PA X es t) : PE X (.Tuple es x1 pos) (tTupS t) := by
 refine ⟨fun pn s0 σ H Q J hq => ?_⟩
 refine wpAny_Tuple_spliced (thn (h.run pos pn s0 σ H _ J hq) fun us s1 w => ?_)
 obtain ⟨xs, H1, J1, r, z, q⟩ := w
 exact ⟨by rw [← r.length]; exact z, laid_tup (t' := s1.toks) J1 r z q⟩
theorem zcr {x1} (h : IA X Wx es Fs) : IE X Wx (.Tuple es x1 pos) (mApp za2 Fs) := PE.imp (pe_tupS h) fun σ H Q h =>
 tM.bind1 (R := fun (xs : List V) (H1 : Hp) => xs.length ≤ sizeLine ∧ ∀ (p : Addr) (o : Obj), H1 p = none → o.dict = none → Q (.ref p) (upd H1 p (.frz o (.tup xs)))) (k := fun (a : List W) _ hp => za2 a hp) h fun s eta a b R1 _ f1 g => go_tup R1 f1 g
theorem zc6 (h : IA X Wx es Fs) : IE X Wx (.List es pos) (mApp zas Fs) := PE.imp (pe_lst h) fun σ H Q h =>
 tM.bind1 (R := fun (xs : List V) (H1 : Hp) => xs.length ≤ sizeLine ∧ ∀ p, H1 p = none → Q (.ref p) (upd H1 p (.lst xs))) (k := fun (a : List W) _ hp => zas a hp) h fun s eta a b R1 _ f1 g => go_lst R1 f1 g
theorem ie_lstL (h : IA X Wx es Fs) : IE X Wx (.List es pos) (mApp newL Fs) := PE.imp (pe_lst h) fun σ H Q h =>
 tM.bind1 (R := fun (xs : List V) (H1 : Hp) => xs.length ≤ sizeLine ∧ ∀ p, H1 p = none → Q (.ref p) (upd H1 p (.lst xs))) (k := fun (a : List W) _ hp => newL a hp) h fun s eta a b R1 _ f1 g => go_newL R1 f1 g
end
def asB (w : W) (hp : IH) : Res Bool := match w with
 | .t (.bl b) => .ok b hp
 | _ => .bad
/-- a value's truth -/
def truW (w : W) (hp : IH) : Res Bool := match w with
 | .t .non => .ok false hp
 | .t (.bl b) => .ok b hp
 | .t (.int i) => .ok (i != 0) hp
 | .t (.str s) => if s.length ≤ 16777216 then .ok ((s.length : Int) != 0) hp else .bad
 | w => match items hp w with
  | some ws => .ok (!ws.isEmpty) hp
  | none => .bad
def zae (f : W → IH → Res Bool) (F : M W) : M Bool := fun eta hp => (F eta hp).bind fun a h1 => f a h1
def mAnd (A B : M Bool) : M Bool := fun eta hp => (A eta hp).bind fun a h1 => if a then B eta h1 else .ok false h1
def mOr (A B : M Bool) : M Bool := fun eta hp => (A eta hp).bind fun a h1 => if a then .ok true h1 else B eta h1
def mNot (A : M Bool) : M Bool := fun eta hp => (A eta hp).bind fun a h1 => .ok (!a) h1
def mIf {A : Type} (T : M Bool) (F G : M A) : M A := fun eta hp => (T eta hp).bind fun b h1 => if b then F eta h1 else G eta h1
section
variable {X : Cx} {Wx : WX} {a b c e : Expr} {rest : List Expr} {Fa Fb Fc F : M W} {A B : M Bool} {pos : Pos}
theorem go_asB {K : PySem.W.Frag} {ω : World} {s : S4} {w : W} {v : V} {Q : Bool → Hp → Prop} (R : Rel K ω s) (r : Rw K s w v) (g : Go K ω Wx Ygh s (asB w s.hp) Q) : ∃ k, v = .bl k ∧ Q k s.H := by
 unfold asB at g
 split at g
 ·rename_i k
  simp only [Rw, Rf] at r
  exact ⟨k, r, g k s rfl Ym R rfl⟩
 ·exact g.elim
theorem it_cmp {op : CmpOp} {f : Op2} {r : R2} (ho : OpR X (compareOp op) r) (hf : zec X.K X.w Wx f r) (ha : IE X Wx a Fa) (hb : IE X Wx b Fb) (hm : behindInMarks op b = false) : IT X Wx (.Compare a [op] [b] pos) (zae asB (mBin f Fa Fb)) :=
 PT.imp (pt_cmpR ho ha hb hm) fun σ H Q h => by
  have h' : tE X.K X.w Wx (mBin f Fa Fb) σ H (fun x H1 => ∃ k, x = .bl k ∧ Q k H1) := tM.bind1 (R := fun (x : V) (H1 : Hp) => ∃ k, x = .bl k ∧ Q k H1) (k := fun (a : W) _ hp => asB a hp) h fun s eta a b R1 _ f1 g => go_asB R1 f1 g
  exact t_bin hf σ H _ h'
theorem items_at {K : PySem.W.Frag} {ω : World} {s : S4} (R : Rel K ω s) {w : W} {v : V} {ws : List W} (h : items s.hp w = some ws) (r : Rw K s w v) : ∃ p xs, v = .ref p ∧ ((SqL K s.H p xs) ∨ SqT K s.H p xs) ∧ RwL K s ws xs := by
 obtain ⟨p, xs, e, q, l⟩ := items_sq R h r
 exact ⟨p, xs, e, q.symm, l⟩
theorem go_tru {K : PySem.W.Frag} {ω : World} {s : S4} {w : W} {v : V} {Q : Bool → Hp → Prop} (R : Rel K ω s) (r : Rw K s w v) (g : Go K ω Wx Ygh s (truW w s.hp) Q) : ∃ k, TruV K v s.H k ∧ Q k s.H := by
 have fin : ∀ {k : Bool}, Go K ω Wx Ygh s (.ok k s.hp) Q → Q k s.H := fun g => g _ s rfl Ym R rfl
 have seq : (match items s.hp w with | some ws => Res.ok (!ws.isEmpty) s.hp | none => .bad : Res Bool) = truW w s.hp → ∃ k, TruV K v s.H k ∧ Q k s.H := fun e => by
  rw [← e] at g
  cases hi : items s.hp w with
  | none => simp only [hi] at g; exact g.elim
  | some ws =>
   simp only [hi] at g
   obtain ⟨p, xs, ev, q, l⟩ := items_at R hi r
   subst ev
   have em : ws.isEmpty = xs.isEmpty := by
    have := RwL.length l
    cases ws <;> cases xs <;> simp_all
   refine ⟨!ws.isEmpty, ?_, fin g⟩
   rcases q with q | q
   ·exact .inl ⟨xs, q, by rw [em]⟩
   ·exact .inr (.inl ⟨xs, q, by rw [em]⟩)
 cases w with
 | r i => exact seq rfl
 | t x =>
  cases x with
  | non => simp only [Rw, Rf] at r; subst r; exact ⟨false, rfl, fin g⟩
  | bl b => simp only [Rw, Rf] at r; subst r; exact ⟨b, rfl, fin g⟩
  | int i => simp only [Rw, Rf] at r; subst r; exact ⟨_, rfl, fin g⟩
  | str z =>
   simp only [Rw, Rf] at r; subst r
   simp only [truW] at g
   split at g
   ·rename_i hz
    exact ⟨_, ⟨by rw [sizeLine_eq]; exact hz, rfl⟩, fin g⟩
   ·exact g.elim
  | _ => exact seq rfl
theorem it_tru (h : IE X Wx e F) (he : ∀ whole, isTrue e X.env whole = (do let v ← whole; standAt e.pos; holding [v] (truthy v)) := by intro _; rfl) : IT X Wx e (zae truW F) := by
 refine PT.imp (pt_truth h he) fun σ H Q h => ?_
 exact tM.bind1 (R := fun (x : V) (H1 : Hp) => ∃ k, TruV X.K x H1 k ∧ Q k H1) (k := fun (a : W) _ hp => truW a hp) h fun s eta a b R1 _ f1 g => go_tru R1 f1 g
def IW (X : Cx) (Wx : WX) (e : Expr) (F : M Bool) : Prop := PW X e (tT X.K X.w Wx F)
theorem IW.it (h : IW X Wx e A) : IT X Wx e A := PW.pt h
theorem zdf (ha : IT X Wx a A) : IW X Wx (.BoolOp .And [a] pos) A := pw_and1 ha
theorem iw_or1 (ha : IT X Wx a A) : IW X Wx (.BoolOp .Or [a] pos) A := pw_or1 ha
theorem t_cond {R : Bool → Hp → Prop} {C D : Type} {K : PySem.W.Frag} {ω : World} {Gam : S4 → C → D → Prop} {k : Bool → IS → IH → Res C} {σ : St} {H : Hp} {Q : D → Hp → Prop}
  (h : tM K ω Wx Gam (fun eta hp => (A eta hp).bind fun b h1 => k b eta h1) σ H Q) (n : ∀ (s : S4) (eta : IS) (b : Bool), Rel K ω s → Sl K s eta σ → Go K ω Wx Gam s (k b eta s.hp) Q → R b s.H) : tT K ω Wx A σ H R :=
 tM.bind1 (R := R) h fun s eta a b R1 S1 f1 g => by subst f1; exact n s eta a R1 S1 g
theorem zeh (ha : IT X Wx a A) (hb : IW X Wx (.BoolOp .And (b :: rest) pos) B) : IW X Wx (.BoolOp .And (a :: b :: rest) pos) (mAnd A B) :=
 PW.imp (pw_and ha hb) fun σ H Q h => t_cond (R := fun c H1 => if c = true then tT X.K X.w Wx B σ H1 Q else Q false H1) (k := fun a eta h1 => if a then B eta h1 else .ok false h1) h fun s eta b R1 S1 g => by
  cases b with
  | true => exact ⟨s, eta, rfl, R1, S1, g⟩
  | false => exact g false s rfl Ym R1 rfl
theorem iw_or (ha : IT X Wx a A) (hb : IW X Wx (.BoolOp .Or (b :: rest) pos) B) : IW X Wx (.BoolOp .Or (a :: b :: rest) pos) (mOr A B) :=
 PW.imp (pw_or ha hb) fun σ H Q h => t_cond (R := fun c H1 => if c = true then Q true H1 else tT X.K X.w Wx B σ H1 Q) (k := fun a eta h1 => if a then .ok true h1 else B eta h1) h fun s eta b R1 S1 g => by
  cases b with
  | true => exact g true s rfl Ym R1 rfl
  | false => exact ⟨s, eta, rfl, R1, S1, g⟩
theorem ze4 (ha : IT X Wx a A) : IT X Wx (.UnaryOp .Not a pos) (mNot A) :=
 PT.imp (pt_not ha) fun σ H Q h => t_cond (R := fun c H1 => Q (!c) H1) (k := fun a eta h1 => .ok (!a) h1) h fun s eta b R1 S1 g => g (!b) s rfl Ym R1 rfl
theorem ie_if (hc : IT X Wx c A) (ha : IE X Wx a Fa) (hb : IE X Wx b Fb) : IE X Wx (.IfExp c a b pos) (mIf A Fa Fb) :=
 PE.imp (pe_ifExp hc ha hb) fun σ H Q h => t_cond (R := fun c H1 => if c = true then tE X.K X.w Wx Fa σ H1 Q else tE X.K X.w Wx Fb σ H1 Q) (k := fun b eta h1 => if b then Fa eta h1 else Fb eta h1) h fun s eta b R1 S1 g => by
  cases b with
  | true => exact ⟨s, eta, rfl, R1, S1, g⟩
  | false => exact ⟨s, eta, rfl, R1, S1, g⟩
/-- bools as values: and, or, not (all but the last a bool) -/
def mAndV (Fa Fb : M W) : M W := fun eta hp => (Fa eta hp).bind fun a h1 => match a with | .t (.bl true) => Fb eta h1 | .t (.bl false) => .ok (.t Ycd) h1 | _ => .bad
def mOrV (Fa Fb : M W) : M W := fun eta hp => (Fa eta hp).bind fun a h1 => match a with | .t (.bl true) => .ok Ydd h1 | .t (.bl false) => Fb eta h1 | _ => .bad
def mNotV (Fa : M W) : M W := fun eta hp => (Fa eta hp).bind fun a h1 => match a with | .t (.bl b) => .ok (.t (.bl (!b))) h1 | _ => .bad
theorem ie_one {op} (h : IE X Wx a F) : IE X Wx (.BoolOp op [a] pos) F := pe_one h
theorem ie_and (ha : IE X Wx a Fa) (hb : IE X Wx (.BoolOp .And (b :: rest) pos) Fb) : IE X Wx (.BoolOp .And (a :: b :: rest) pos) (mAndV Fa Fb) :=
 PE.imp (pe_and ha hb) fun σ H Q h => tM.bind1 (R := fun (x : V) (H1 : Hp) => ∃ c, x = .bl c ∧ if c = true then tE X.K X.w Wx Fb σ H1 Q else Q Ycd H1)
  (k := fun (a : W) eta h1 => match a with | .t (.bl true) => Fb eta h1 | .t (.bl false) => .ok (.t Ycd) h1 | _ => .bad) h fun s eta a b R1 S1 f1 g => by
  split at g
  ·simp only [Rw, Rf] at f1; exact ⟨true, f1, by rw [if_pos rfl]; exact ⟨s, eta, rfl, R1, S1, g⟩⟩
  ·simp only [Rw, Rf] at f1; exact ⟨false, f1, by rw [if_neg Bool.false_ne_true]; exact g Ycd s rfl Ym R1 Yl⟩
  ·exact g.elim
theorem ie_or (ha : IE X Wx a Fa) (hb : IE X Wx (.BoolOp .Or (b :: rest) pos) Fb) : IE X Wx (.BoolOp .Or (a :: b :: rest) pos) (mOrV Fa Fb) :=
 PE.imp (pe_or ha hb) fun σ H Q h => tM.bind1 (R := fun (x : V) (H1 : Hp) => ∃ c, x = .bl c ∧ if c = true then Q (.bl true) H1 else tE X.K X.w Wx Fb σ H1 Q)
  (k := fun (a : W) eta h1 => match a with | .t (.bl true) => .ok Ydd h1 | .t (.bl false) => Fb eta h1 | _ => .bad) h fun s eta a b R1 S1 f1 g => by
  split at g
  ·simp only [Rw, Rf] at f1; exact ⟨true, f1, by rw [if_pos rfl]; exact g (.bl true) s rfl Ym R1 Yl⟩
  ·simp only [Rw, Rf] at f1; exact ⟨false, f1, by rw [if_neg Bool.false_ne_true]; exact ⟨s, eta, rfl, R1, S1, g⟩⟩
  ·exact g.elim
/-- a < b <= c -/
def mChain (f f' : Op2) (Fa Fb Fc : M W) : M W := fun eta hp => (Fa eta hp).bind fun a h1 => (Fb eta h1).bind fun b h2 => (f a b h2).bind fun z h3 => match z with
 | .t (.bl true) => (Fc eta h3).bind fun c h4 => f' b c h4
 | .t (.bl false) => .ok (.t Ycd) h3
 | _ => .bad
end
end Mir
namespace Mir
open PySem PySem.Spec L2
open PyProof.Rows hiding St
inductive Kd where | l | t
def Sq (K : PySem.W.Frag) (H : Hp) : Kd → Addr → List V → Prop
 | .l => SqL K H
 | .t => SqT K H
def IterH (h : Heap) : Kd → Addr → Addr → Nat → Prop
 | .l => h.IsListIter
 | .t => h.IsTupleIter
def SeqH (h : Heap) : Kd → Addr → Array Value → Prop
 | .l => h.IsList
 | .t => h.IsTuple
def iterO (kd : Kd) (a : Addr) : Obj := match kd with
 | .l => { cls := .type "list_iterator", data := .fields #[.ref a, .int 0 0] }
 | .t => { cls := .type "tuple_iterator", data := .fields #[.ref a, .int 0 0] }
section
variable {X : Cx} {pins : List Yc5} {σ : L2.St} {H : Hp} {s : Shared}
theorem Inv_sq (I : Inv X pins σ H s) {kd : Kd} {a : Addr} {xs : List V} (h : Sq X.K H kd a xs) : ∃ its : List Value, Vals xs its ∧ SeqH s.heap kd a its.toArray := by
 cases kd with
 | l => obtain ⟨its, r, p, _⟩ := I.list h; exact ⟨its, r, p.isList⟩
 | t => obtain ⟨its, r, p, _⟩ := I.tuple h; exact ⟨its, r, p⟩
theorem Inv_sq_inj (I : Inv X pins σ H s) {kd : Kd} {a : Addr} {xs ys : List V} (h : Sq X.K H kd a xs) (h' : Sq X.K H kd a ys) : xs = ys := by
 cases kd with
 | l => exact I.list_inj h h'
 | t => exact I.tuple_inj h h'
end
theorem SeqH.lt {h : Heap} {kd : Kd} {a : Addr} {its : Array Value} (x : SeqH h kd a its) : a < h.objs.size := by
 cases kd with
 | l => obtain ⟨o, e, _⟩ := x; exact Heap.lt_size e
 | t => obtain ⟨o, e, _⟩ := x; exact Heap.lt_size e
theorem IterH.lt {h : Heap} {kd : Kd} {it a : Addr} {i : Nat} (x : IterH h kd it a i) : it < h.objs.size := by
 cases kd with
 | l => obtain ⟨o, e, _⟩ := x; exact Heap.lt_size e
 | t => obtain ⟨o, e, _⟩ := x; exact Heap.lt_size e
theorem IterH.ob {h : Heap} {kd : Kd} {it a : Addr} {i : Nat} (x : IterH h kd it a i) : ∃ o, h.get? it = some o ∧ ∀ v, o.data ≠ .cell v := by
 cases kd with
 | l => obtain ⟨o, e, _, d⟩ := x; exact ⟨o, e, fun v z => by rw [d] at z; cases z⟩
 | t => obtain ⟨o, e, _, d⟩ := x; exact ⟨o, e, fun v z => by rw [d] at z; cases z⟩
theorem IterH.at_ {h h' : Heap} {kd : Kd} {it a : Addr} {i : Nat} (x : IterH h kd it a i) (k : ∀ o, h.get? it = some o → h'.get? it = some o) : IterH h' kd it a i := by
 cases kd with
 | l => exact Heap.IsListIter.at x k
 | t => exact Heap.IsTupleIter.at x k
theorem IterH.new {h : Heap} {kd : Kd} {it a : Addr} (e : h.get? it = some (iterO kd a)) : IterH h kd it a 0 := by
 cases kd with
 | l => exact ⟨_, e, rfl, rfl⟩
 | t => exact ⟨_, e, rfl, rfl⟩
theorem begins_sq (kd : Kd) (a : Addr) (its : Array Value) : Begins (.ref a) (iterO kd a) fun h => SeqH h kd a its := by
 cases kd with
 | l => exact begins_list a its
 | t => exact begins_tuple a its
theorem draws_sq {prog : Program} {w : World} {A : Around} (hh : A.handled = none) (kd : Kd) (it a : Addr) (hne : a ≠ it) (its : Array Value) :
  Draws prog w A it [it, a] its.size (fun i v => its[i]? = some v) (fun i h => IterH h kd it a i ∧ SeqH h kd a its) := by
 cases kd with
 | l => exact Draws.list hh it a hne its
 | t => exact Draws.tuple hh it a hne its
def ItQ (K : PySem.W.Frag) (kd : Kd) (a : Addr) : It := match kd with | .l => Itl K a | .t => Itt K a
def iSq (K : PySem.W.Frag) (te : TE) : TI := fun σ H R => te σ H fun x H1 => ∃ kd a xs, x = .ref a ∧ Sq K H1 kd a xs ∧ R (ItQ K kd a) H1
theorem pi_sq {X : Cx} {tg e : Expr} {te : TE} (he : PE X e te) : PI X tg e (iSq X.K te) := ⟨fun pins s σ H R I h => by
 refine thn (he.run pins s σ H _ I h) ?_
 rintro v s1 ⟨x, H1, I1, r1, kd, a, xs, ex, hq, q⟩
 subst ex
 obtain rfl : v = Value.ref a := r1
 obtain ⟨its, rv, p⟩ := Inv_sq I1 hq
 have I2 : Inv X pins σ H1 { s1 with heap := s1.heap.push (iterO kd a) } := I1.kept (t' := s1.toks) fun b o e => Heap.get?_push_of_some _ e
 have fp : ∀ b ∈ [s1.heap.objs.size], FpOk X pins H1 b := fun b hb => by
  obtain rfl : b = s1.heap.objs.size := by simpa using hb
  exact I1.fpOk Yd8 (I1.hok.fresh Yd8)
 have hn : IterH (s1.heap.push (iterO kd a)) kd s1.heap.objs.size a 0 := IterH.new (Heap.get?_push_size _ (by cases kd <;> rfl))
 refine (begins_sq kd a its.toArray).iter _ _ _ _ _ _ p ?_
 cases kd with
 | l => exact ⟨s1.heap.objs.size, [s1.heap.objs.size], _, _, H1, rfl, I2, turn_list a _, hn, fp, q⟩
 | t => exact ⟨s1.heap.objs.size, [s1.heap.objs.size], _, _, H1, rfl, I2, turn_tuple a _, hn, fp, q⟩⟩
def ItEn (K : PySem.W.Frag) (kd : Kd) (a : Addr) : It :=
 ⟨fun i H => ∃ (xs : List V) (x : V), Sq K H kd a xs ∧ xs[i]? = some x,
  fun i H v H' => ∃ (T : Addr) (x : V), v = .ref T ∧ H T = none ∧ H' = upd H T Yhn ∧ ∀ xs, Sq K H kd a xs → xs[i]? = some x,
  fun i H => ∃ xs : List V, Sq K H kd a xs ∧ xs.length = i⟩
def TnEn (kd : Kd) (a e it : Addr) (i : Nat) (h : Heap) : Prop := (∃ old, IsEnum h e it (0 + (i : Int)) old) ∧ IterH h kd it a i ∧ e ≠ it ∧ a ≠ it ∧ a ≠ e
theorem turn_en {P : Program} {w : World} {K : PySem.W.Frag} {elts : List Expr} {kk : Nat} {tpos : Pos} (kd : Kd) (a e it : Addr) : Turn P w K (.Tuple elts kk tpos) (ItEn K kd a) [e, it] e (TnEn kd a e it) where
 mem := by simp
 obj := fun i h st b hb => by
  obtain ⟨⟨old, he⟩, hi, _⟩ := st
  have e' : b = e ∨ b = it := by simpa using hb
  rcases e' with z | z
  ·rw [z]; exact ⟨_, he, fun v q => nomatch q⟩
  ·rw [z]; exact hi.ob
 keep := fun i h h' st k => by
  obtain ⟨⟨old, he⟩, hi, ne⟩ := st
  exact ⟨⟨old, k e Y4 _ he⟩, hi.at_ fun o q => k it Y4 o q, ne⟩
 item := by
  intro X hP hw hK hc i pins s σ H E I hf st hg
  subst hP hw hK
  obtain ⟨⟨old, he⟩, hit, hne, hae⟩ := st
  obtain ⟨xs, x, hq, hx⟩ := hg
  obtain ⟨its, rv, p⟩ := Inv_sq I hq
  obtain ⟨u, hu, ru⟩ := rv.get hx
  have hd : X.A.in1.handled = none := I.ok.hd hc
  have D := draws_sq (prog := X.prog) (w := X.w) hd kd it a hae.1 its.toArray
  have Wk := WalksT.enumFrom 0 D e hne (by simp [hne, Ne.symm hae.2]) Y4
  have hlt : i < its.toArray.size := by
   have := (List.getElem?_eq_some_iff.mp hu).1
   simpa using this
  refine Wk.item i s _ _ hlt ⟨⟨old, he⟩, hit, p⟩ fun T vals h1 tk hv hT hTup hm hk => ⟨_, rfl, ?_⟩
  refine Wk.go elts kk tpos i T { s with heap := h1, toks := tk } _ _ hm fun h2 st2 hk2 => ?_
  obtain ⟨t, y, hy, ev⟩ := hv
  subst ev
  have ey : y = u := by
   have hy' : its[i]? = some y := by simpa using hy
   exact Option.some.inj (hy'.symm.trans hu)
  subst ey
  have hTw : T ∉ [e, it] := Wk.apart i T h1 hm
  have hT2 : h2.IsTuple T #[.int (0 + (i : Int)) t, y] := hTup.at fun o q => hk2 T o hTw q
  have new : ObjOk X.prog X.w (upd H T Yhn) h2 T Yhn :=
   ⟨by show 2 ≤ sizeLine; decide, [.int (0 + (i : Int)) t, y], .cons ⟨t, by rw [Int.zero_add]⟩ (.cons ru .nil), hT2⟩
  have I1 : Inv X pins σ (upd H T Yhn) { s with heap := h2, toks := tk } :=
   I.turnedNew (ch := [e, it]) (fun b ob hb q => hk2 b ob hb (hk b ob hb q)) hf hT new
  refine ⟨.ref T, _, I1, rfl, ⟨T, x, rfl, I.hok.fresh hT, rfl, fun ys hy => by rw [Inv_sq_inj I hy hq]; exact hx⟩, ?_, fun b hb => ?_⟩
  ·exact ⟨by have := st2.1; simpa using this, st2.2.1, hne, hae⟩
  ·have nb : b ≠ T := fun z => hTw (z ▸ hb)
   rw [upd_ne nb]
   exact (hf b hb).1
 done := by
  intro X hP hw hK hc i pins s σ H E I hf st hg
  subst hP hw hK
  obtain ⟨⟨old, he⟩, hit, hne, hae⟩ := st
  obtain ⟨xs, hq, hl⟩ := hg
  obtain ⟨its, rv, p⟩ := Inv_sq I hq
  have D := draws_sq (prog := X.prog) (w := X.w) (A := X.A.in1) (I.ok.hd hc) kd it a hae.1 its.toArray
  have Wk := WalksT.enumFrom 0 D e hne (by simp [hne, Ne.symm hae.2]) Y4
  have hn : its.toArray.size = i := by have := rv.length; simp; omega
  have := Wk.done s (fun r s1 => r = none ∧ Inv X pins σ H s1) E (by rw [hn]; exact ⟨⟨old, he⟩, hit, p⟩) fun h1 tk hk => ⟨rfl, I.turnedL (ch := [e, it]) hk hf⟩
  exact this
 self := fun A i s Q E st h => by
  obtain ⟨⟨old, he⟩, _⟩ := st
  exact wpAny_pyIter_enum he h
section
variable {prog : Program} {w : World} {A : Around} {E : Value → Shared → Prop} {s : Shared}
theorem meets_en1 {v : Value} {o : Obj} {Hv : Heap → Prop} (B : Begins v o Hv) :
  Meets (Builtin.«enumerate.__new__» ⟨[.type "enumerate", v], []⟩) (fun _ R s => Hv s.heap ∧
   R (.ok (.ret (.ref (s.heap.push o).objs.size))) { s with heap := (s.heap.push o).push { cls := .type "enumerate", data := .fields #[.none, .bool false, .ref s.heap.objs.size, rawInt 0, .none, .none] } }) :=
 .of_wp fun prog w A R s hs => by
  obtain ⟨hp, g, d, tk, os⟩ := s
  obtain ⟨hv, hr⟩ := hs
  have hsub := sub_enumerate
  have q1 : ∀ {A2 : Around} {E2 : Value → Shared → Prop} {Q2 : Value → Shared → Prop}, Q2 (.ref hp.objs.size) ⟨hp.push o, g, d, tk, os⟩ → wpAny Yav A2 (pyIter v) Q2 E2 ⟨hp, g, d, tk, os⟩ :=
   fun q => B.iter prog w _ _ ⟨hp, g, d, tk, os⟩ _ hv q
  wp_walk using q1
  refine wpAny_stack_any fun st => ?_
  refine wpAny_pure ?_
  have fin : ∀ b : Bool, b = true ∨ b = false := fun b => by cases b <;> simp
  split
  ·rename_i c _ _ _ _ _
   rcases fin (c == Value.type "enumerate") with q | q <;> rw [q] <;> (wp_walk using q1; exact ⟨_, rfl, hr⟩)
  ·(wp_walk using q1; exact ⟨_, rfl, hr⟩)
theorem en1_begins {v : Value} {o : Obj} {Hv : Heap → Prop} {Q : Value → Shared → Prop} (B : Begins v o Hv) (h1 : Hv s.heap)
  (h : ∀ h', IsEnum h' Ybj s.heap.objs.size 0 .none → h'.get? s.heap.objs.size = some o → (∀ b ob, s.heap.get? b = some ob → h'.get? b = some ob) → Q (.ref Ybj) { s with heap := h' }) :
  wpAny Yav A (call (.type "enumerate") [v]) Q E s := by
 refine callType_new F.called_enumerate Ybz (F.typeCall_enumerate_1 _) (F.newCall_enumerate_1 _) (fun obj => F.args_object_init_2 obj _) F.entry_enumerate_new (meets_en1 B) ⟨h1, ?_⟩
 have hz : (s.heap.push o).objs.size = s.heap.objs.size + 1 := Heap.size_push ..
 show _ ∧ _
 rw [hz]
 have he := Heap.get?_push_size (s.heap.push o) (o := { cls := .type "enumerate", data := .fields #[.none, .bool false, .ref s.heap.objs.size, rawInt 0, .none, .none] }) rfl
 rw [hz] at he
 exact ⟨⟨_, he, rfl⟩, h _ he (Heap.get?_push_of_some _ (Heap.get?_push_size _ B.free)) fun b ob x => Heap.get?_push_of_some _ (Heap.get?_push_of_some _ x)⟩
end
def iEn (K : PySem.W.Frag) (ta : TA) : TI := fun σ H R => ta σ H fun vs H1 => ∃ kd a xs, vs = [.ref a] ∧ Sq K H1 kd a xs ∧ R (ItEn K kd a) H1
theorem pi_en {X : Cx} {e : Expr} {ta : TA} {p pos tpos : Pos} {elts : List Expr} {kk : Nat} (hg : Gl X "enumerate") (hm : X.mg "enumerate" = none) (ha : PA X [e] ta) (hs : starEach [e] X.env = [Yfl] := by rfl) :
  PI X (.Tuple elts kk tpos) (.Call (.Name "enumerate" p) [e] [] pos) (iEn X.K ta) := ⟨fun pins s σ H R I h => by
 refine Call_ (ld_blt I hg hm boot_enumerate (PyProof.Rows.callWith_type1 (thn (ha.run pos pins s σ H _ I h) ?_) hs rfl))
 rintro us s1 ⟨vs, H1, I1, r1, kd, a, xs, ex, hq, q⟩
 subst ex
 obtain rfl := Vals.ref1 r1
 obtain ⟨its, rv, p'⟩ := Inv_sq I1 hq
 refine en1_begins (begins_sq kd a its.toArray) p' fun h' he hit hk => wpAny_pyIter_enum he ?_
 have I2 : Inv X pins σ H1 { s1 with heap := h' } := I1.kept (t' := s1.toks) hk
 refine ⟨s1.heap.objs.size + 1, [s1.heap.objs.size + 1, s1.heap.objs.size], _, _, H1, rfl, I2, turn_en kd a (s1.heap.objs.size + 1) s1.heap.objs.size, ⟨⟨.none, by simpa using he⟩, IterH.new hit, Nat.succ_ne_self _, Nat.ne_of_lt p'.lt, Nat.ne_of_lt (Nat.lt_succ_of_lt p'.lt)⟩, fun b hb => ?_, q⟩
 have e' : b = s1.heap.objs.size + 1 ∨ b = s1.heap.objs.size := by simpa using hb
 have hle : s1.heap.objs.size ≤ b := by rcases e' with z | z <;> (rw [z]; first | exact Nat.le_refl _ | exact Nat.le_add_right _ _)
 exact I1.fpOk hle (I1.hok.fresh hle)⟩
end Mir
namespace Mir
open PySem PySem.Spec L2
open PyProof.Rows hiding St
inductive Fl where
 | nx (eta : IS) | rt (w : W) | bk (eta : IS) | ct (eta : IS)
inductive FlV where
 | nx (o : St) | rt (v : V) | bk (o : St) | ct (o : St)
def RFl (K : PySem.W.Frag) (s : S4) : Fl → FlV → Prop
 | .nx eta, .nx o => Sl K s eta o
 | .rt w, .rt v => Rw K s w v
 | .bk eta, .bk o => Sl K s eta o
 | .ct eta, .ct o => Sl K s eta o
 | _, _ => False
def endQ (D : Ends) : FlV → Hp → Prop
 | .nx o, H => D.nx o H
 | .rt v, H => D.rt v H
 | .bk o, H => D.bk o H
 | .ct o, H => D.ct o H
abbrev tS (K : PySem.W.Frag) (ω : World) (Wx : WX) (F : M Fl) : TS := fun D σ H => tM K ω Wx (RFl K) F σ H (endQ D)
def ISt (X : Cx) (Wx : WX) (st : Stmt) (F : M Fl) : Prop := PS X st (tS X.K X.w Wx F)
def ISs (X : Cx) (Wx : WX) (st : List Stmt) (F : M Fl) : Prop := PSs X st (tS X.K X.w Wx F)
theorem Res.bind_assoc {A B C : Type} (r : Res A) (k : A → IH → Res B) (k' : B → IH → Res C) : (r.bind k).bind k' = r.bind fun a h => (k a h).bind k' := by cases r <;> rfl
def zbh : M Fl := fun eta hp => .ok Yeq hp
def thenF (B : M Fl) (f : Fl) (hp : IH) : Res Fl := match f with
 | .nx eta => B eta hp
 | f => .ok f hp
def mSeq (A B : M Fl) : M Fl := fun eta hp => (A eta hp).bind (thenF B)
def mRet (F : M W) : M Fl := fun eta hp => (F eta hp).bind fun a h1 => .ok (.rt a) h1
def mRetN : M Fl := fun _ hp => .ok (.rt Ybh) hp
def mDrop (F : M W) : M Fl := fun eta hp => (F eta hp).bind fun _ h1 => .ok Yeq h1
def mBrk : M Fl := fun eta hp => .ok (.bk eta) hp
def mCnt : M Fl := fun eta hp => .ok (.ct eta) hp
section
variable {K : PySem.W.Frag} {ω : World} {Wx : WX} {s : S4} {D : Ends}
theorem Go.nx {eta : IS} {σ : St} (R : Rel K ω s) (S : Sl K s eta σ) (g : Go K ω Wx (RFl K) s (.ok Yeq s.hp) (endQ D)) : D.nx σ s.H := g (.nx σ) s rfl Ym R S
theorem Go.ct {eta : IS} {σ : St} (R : Rel K ω s) (S : Sl K s eta σ) (g : Go K ω Wx (RFl K) s (.ok (.ct eta) s.hp) (endQ D)) : D.ct σ s.H := g (.ct σ) s rfl Ym R S
theorem Go.bk {eta : IS} {σ : St} (R : Rel K ω s) (S : Sl K s eta σ) (g : Go K ω Wx (RFl K) s (.ok (.bk eta) s.hp) (endQ D)) : D.bk σ s.H := g (.bk σ) s rfl Ym R S
theorem Go.rt {w : W} {v : V} (R : Rel K ω s) (S : Rw K s w v) (g : Go K ω Wx (RFl K) s (.ok (.rt w) s.hp) (endQ D)) : D.rt v s.H := g (.rt v) s rfl Ym R S
end
section
variable {X : Cx} {Wx : WX} {st : Stmt} {rest sts sts' : List Stmt} {A B : M Fl} {e : Expr} {F : M W} {T : M Bool} {c : Expr} {pos : Pos}
theorem zbu : ISs X Wx [] zbh := PSs.imp pss_nil fun D σ H h => by
 obtain ⟨s, eta, e1, R1, S1, g⟩ := h
 subst e1
 exact Go.nx R1 S1 g
theorem zah (h1 : ISt X Wx st A) (h2 : ISs X Wx rest B) : ISs X Wx (st :: rest) (mSeq A B) := PSs.imp (pss_cons h1 h2) fun D σ H h => by
 obtain ⟨s, eta, e1, R1, S1, g⟩ := h
 refine ⟨s, eta, e1, R1, S1, Go.bind g fun f fv s' A' R' f' _ g' => ?_⟩
 cases f <;> cases fv <;> first | exact f'.elim | skip
 ·exact ⟨s', _, rfl, R', f', g'⟩
 ·exact Go.rt (D := D) R' f' g'
 ·exact Go.bk (D := D) R' f' g'
 ·exact Go.ct (D := D) R' f' g'
theorem zan (h1 : ISt X Wx st A) : ISs X Wx [st] A := pss_one h1
theorem zav (he : IE X Wx e F) : ISt X Wx (.Return (some e) pos) (mRet F) := PS.imp (ps_ret he) fun D σ H h =>
 tM.bind1 (R := fun (x : V) (H1 : Hp) => D.rt x H1) (k := fun (a : W) _ hp => .ok (Fl.rt a) hp) h fun s eta a b R1 _ f1 g => Go.rt R1 f1 g
theorem st_expr (he : IE X Wx e F) (hs : swapsWith e none pos.line X.env = pure false := by rfl) : ISt X Wx (.Expr e pos) (mDrop F) := PS.imp (ps_expr he hs) fun D σ H h =>
 tM.bind1 (R := fun (x : V) (H1 : Hp) => D.nx σ H1) (k := fun (a : W) eta hp => .ok (Fl.nx eta) hp) h fun s eta a b R1 S1 f1 g => Go.nx R1 S1 g
theorem zdb (hc : IT X Wx c T) (ha : ISs X Wx sts A) (hb : ISs X Wx sts' B) : ISt X Wx (.If c sts sts' pos) (mIf T A B) := PS.imp (ps_if hc ha hb) fun D σ H h =>
 t_cond (R := fun (b : Bool) (H1 : Hp) => if b = true then tS X.K X.w Wx A D σ H1 else tS X.K X.w Wx B D σ H1) (k := fun b eta h1 => if b then A eta h1 else B eta h1) h fun s eta b R1 S1 g => by
  cases b with
  | true => exact ⟨s, eta, rfl, R1, S1, g⟩
  | false => exact ⟨s, eta, rfl, R1, S1, g⟩
end
structure TgOk (K : PySem.W.Frag) (ω : World) (g : TG) (G : W → IS → Option IS) (vs : List Nat) : Prop where
 run : ∀ (s : S4) (w : W) (v : V) (eta : IS) (σ : St) (eta' : IS), Rel K ω s → Rw K s w v → Sl K s eta σ → G w eta = some eta' →
  ∃ σ', Sl K s eta' σ' ∧ (∀ us : List Nat, (∀ i ∈ vs, i ∈ us) → wipe σ' us = wipe σ us) ∧ ∀ Q : St → Hp → Prop, Q σ' s.H → g v σ s.H Q
structure TgsOk (K : PySem.W.Frag) (ω : World) (g : TGs) (G : List W → IS → Option IS) (vs : List Nat) : Prop where
 run : ∀ (s : S4) (ws : List W) (xs : List V) (eta : IS) (σ : St) (eta' : IS), Rel K ω s → RwL K s ws xs → Sl K s eta σ → G ws eta = some eta' →
  ∃ σ', Sl K s eta' σ' ∧ (∀ us : List Nat, (∀ i ∈ vs, i ∈ us) → wipe σ' us = wipe σ us) ∧ ∀ Q : St → Hp → Prop, Q σ' s.H → g xs σ s.H Q
def gN (i : Nat) : W → IS → Option IS := fun w eta => some Yhs
theorem wipe_get {σ : St} {j : Nat} : ∀ {us : List Nat}, j ∉ us → (wipe σ us)[j]? = σ[j]?
 | [], _ => rfl
 | u :: us, h => by
  simp only [List.mem_cons, not_or] at h
  unfold wipe
  rw [List.getElem?_set_ne (Ne.symm h.1)]
  exact wipe_get h.2
theorem wipe_in {σ : St} {j : Nat} : ∀ {us : List Nat}, j ∈ us → j < σ.length → (wipe σ us)[j]? = some none
 | u :: us, h, hl => by
  unfold wipe
  by_cases e : u = j
  ·subst e
   rw [List.getElem?_set_self (by rw [wipe_length]; exact hl)]
  ·rw [List.getElem?_set_ne e]
   rcases List.mem_cons.mp h with h | h
   ·exact absurd h.symm e
   ·exact wipe_in h hl
theorem wipe_set {σ : St} {i : Nat} {x : Option V} {us : List Nat} (h : i ∈ us) : wipe (σ.set i x) us = wipe σ us := by
 apply List.ext_getElem?
 intro j
 by_cases hj : j ∈ us
 ·by_cases hl : j < σ.length
  ·rw [wipe_in hj Yie, wipe_in hj hl]
  ·rw [List.getElem?_eq_none Yht, List.getElem?_eq_none Yht]
 ·rw [wipe_get hj, wipe_get hj, List.getElem?_set_ne (fun e => hj (by rw [← e]; exact h))]
theorem zao {K : PySem.W.Frag} {ω : World} (i : Nat) : TgOk K ω (gName i) (gN i) [i] := ⟨fun s w v eta σ eta' R1 r S1 e => by
 simp only [gN, Option.some.injEq] at e
 subst e
 exact ⟨σ.set i (some v), S1.set i r, fun us h => wipe_set (h i Y4), fun Q q => q⟩⟩
def gsN : List W → IS → Option IS := fun ws eta => match ws with | [] => some eta | _ :: _ => none
def gsC (G : W → IS → Option IS) (Gs : List W → IS → Option IS) : List W → IS → Option IS := fun ws eta => match ws with
 | [] => none
 | w :: ws => (G w eta).bind fun eta' => Gs ws eta'
def gT (n : Nat) (Gs : List W → IS → Option IS) : W → IS → Option IS := fun w eta => match w with
 | .t (.tup ts) => if ts.length = n then Gs Yr eta else none
 | .t (.pr ts) => if ts.length = n then Gs Yr eta else none
 | _ => none
theorem ze8 {K : PySem.W.Frag} {ω : World} : TgsOk K ω gNil gsN [] := ⟨fun s ws xs eta σ eta' R1 r S1 e => by
 cases ws with
 | nil =>
  simp only [gsN, Option.some.injEq] at e
  subst e
  exact ⟨σ, S1, fun _ _ => rfl, fun Q q => ⟨r, q⟩⟩
 | cons _ _ => simp [gsN] at e⟩
theorem zbd {K : PySem.W.Frag} {ω : World} {g : TG} {gs : TGs} {G : W → IS → Option IS} {Gs : List W → IS → Option IS} {vs us : List Nat} (h1 : TgOk K ω g G vs) (h2 : TgsOk K ω gs Gs us) : TgsOk K ω (gCons g gs) (gsC G Gs) (vs ++ us) := ⟨fun s ws xs eta σ eta' R1 r S1 e => by
 cases ws with
 | nil => simp [gsC] at e
 | cons w ws =>
  simp only [gsC, Option.bind_eq_some_iff] at e
  obtain ⟨eta1, e1, e2⟩ := e
  obtain ⟨v, xr, ex, rv, rr⟩ := r
  obtain ⟨σ1, S2, w1, q1⟩ := h1.run s w v eta σ eta1 R1 rv S1 e1
  obtain ⟨σ2, S3, w2, q2⟩ := h2.run s ws xr eta1 σ1 eta' R1 rr S2 e2
  refine ⟨σ2, S3, fun u hu => ?_, fun Q q => ⟨v, xr, ex, q1 _ (q2 Q q)⟩⟩
  rw [w2 u fun i hi => hu i (List.mem_append_right _ hi), w1 u fun i hi => hu i (List.mem_append_left _ hi)]⟩
theorem tg_tup {K : PySem.W.Frag} {ω : World} {n : Nat} {gs : TGs} {Gs : List W → IS → Option IS} {vs : List Nat} (h : TgsOk K ω gs Gs vs) : TgOk K ω (gTup K n gs) (gT n Gs) vs := ⟨fun s w v eta σ eta' R1 r S1 e => by
 unfold gT at e
 split at e
 ·rename_i ts
  split at e
  ·rename_i hn
   obtain ⟨a, xs, ev, t, l⟩ : ∃ a vs, v = .ref a ∧ FTup K s.fz s.H a vs ∧ RfL K s.fz s.H ts vs := by simpa only [Rw, Rf] using r
   obtain ⟨σ', S2, w2, q2⟩ := h.run s Yr xs eta σ eta' R1 Yhu S1 e
   exact ⟨σ', S2, w2, fun Q q => ⟨a, xs, ev, t.sq, by rw [← RfL.length l]; exact hn, q2 Q q⟩⟩
  ·cases e
 ·rename_i ts
  split at e
  ·rename_i hn
   obtain ⟨a, xs, ev, t, l⟩ : ∃ a vs, v = .ref a ∧ FPr s.fz s.H a vs ∧ RfL K s.fz s.H ts vs := by simpa only [Rw, Rf] using r
   obtain ⟨σ', S2, w2, q2⟩ := h.run s Yr xs eta σ eta' R1 Yhu S1 e
   exact ⟨σ', S2, w2, fun Q q => ⟨a, xs, ev, t.sq, by rw [← RfL.length l]; exact hn, q2 Q q⟩⟩
  ·cases e
 ·cases e⟩
def mAsg (F : M W) (G : W → IS → Option IS) : M Fl := fun eta hp => (F eta hp).bind fun a h1 => match G a eta with | some e => .ok (.nx e) h1 | none => .bad
def mSet (i : Nat) (F : M W) : M Fl := fun eta hp => (F eta hp).bind fun a h1 => .ok (.nx Yfu) h1
section
variable {X : Cx} {Wx : WX} {e tg : Expr} {F : M W} {pos : Pos} {g : TG} {G : W → IS → Option IS} {vs : List Nat}
theorem st_asg (he : IE X Wx e F) (hg : PG X tg g) (ok : TgOk X.K X.w g G vs) (hs : swapsWithSole [tg] e pos.line X.env = pure false := by rfl) (hw : swappedStores [tg] e X.env = pure none := by rfl)
  (h1 : (assignEach [tg] X.env).map (·.2) = [assign tg X.env] := by rfl) : ISt X Wx (.Assign [tg] e pos) (mAsg F G) := PS.imp (ps_asg he hg hs hw h1) fun D σ H h =>
 tM.bind1 (R := fun (x : V) (H1 : Hp) => g x σ H1 D.nx) (k := fun (a : W) eta hp => match G a eta with | some e => .ok (Fl.nx e) hp | none => .bad) h fun s eta a b R1 S1 f1 g1 => by
  cases hG : G a eta with
  | none => simp only [hG] at g1; exact g1.elim
  | some e1 =>
   simp only [hG] at g1
   obtain ⟨σ', S2, _, q⟩ := ok.run s a b eta σ e1 R1 f1 S1 hG
   exact q _ (Go.nx R1 S2 g1)
theorem za5 (i : Nat) {x : Str} {pos' : Pos} (hN : X.N.Nodup) (he : IE X Wx e F) (hi : X.N[i]? = some x := by rfl) (hx : Loc X.env.scope x := by first | exact Or.inl rfl | exact Or.inr rfl) (hs : swapsWith e (some (.Name x pos')) pos.line X.env = pure false := by rfl) (hf : X.fn x = true ∨ X.env.scope.names.lookup x = some .local := by first | exact .inl rfl | exact .inr rfl | assumption) :
  ISt X Wx (.Assign [.Name x pos'] e pos) (mSet i F) := PS.imp (ps_set hN hi hx he hs hf) fun D σ H h =>
 tM.bind1 (R := fun (y : V) (H1 : Hp) => D.nx (σ.set i (some y)) H1) (k := fun (a : W) eta hp => .ok (Fl.nx Yfu) hp) h fun s eta a b R1 S1 f1 g1 => Go.nx R1 (S1.set i f1) g1
end
/-- a, b = x, y: all sides first -/
def mPar (is : List Nat) (F : M (List W)) : M Fl := fun eta hp => (F eta hp).bind fun ws h1 => if ws.length = is.length then .ok (.nx ((is.zip ws).foldl Yiy eta)) h1 else .bad
section
variable {X : Cx} {Wx : WX} {F : M (List W)} {pos : Pos}
theorem st_par2 {i j : Nat} {x y : Str} {a b : Expr} {px py pt : Pos} {kt k2 pt2} (hc : X.calm = true) (hN : X.N.Nodup) (ha : IA X Wx [a, b] F)
  (hw : swappedStores [.Tuple [.Name x px, .Name y py] kt pt] (.Tuple [a, b] k2 pt2) X.env = pure (some [x, y]) := by rfl) (hi : X.N[i]? = some x := by rfl) (hj : X.N[j]? = some y := by rfl) (hij : i ≠ j := by decide)
  (hx : X.env.scope.names.lookup x = some .local := by rfl) (hy : X.env.scope.names.lookup y = some .local := by rfl)
  (hs : swapsWithSole [.Tuple [.Name x px, .Name y py] kt pt] (.Tuple [a, b] k2 pt2) pos.line X.env = pure false := by rfl) :
  ISt X Wx (.Assign [.Tuple [.Name x px, .Name y py] kt pt] (.Tuple [a, b] k2 pt2) pos) (mPar [i, j] F) := PS.imp (ps_par hc hN hi hj hij hx hy ha hw hs) fun D σ H h =>
 tM.bind1 (R := fun (vs : List V) (H1 : Hp) => ∃ v w, vs = [v, w] ∧ D.nx ((σ.set i (some v)).set j (some w)) H1) (k := fun (ws : List W) eta hp => if ws.length = [i, j].length then .ok (Fl.nx (([i, j].zip ws).foldl Yiy eta)) hp else .bad) h fun s eta ws vs R1 S1 f1 g1 => by
  match ws, f1, g1 with
  | [w1, w2], ⟨v1, r1, e1, q1, v2, r2, e2, q2, e3⟩, g1 =>
   subst e3 e2 e1
   exact ⟨v1, v2, rfl, Go.nx R1 ((S1.set i q1).set j q2) g1⟩
  | [], _, g1 => exact g1.elim
  | [_], _, g1 => exact g1.elim
  | _ :: _ :: _ :: _, _, g1 =>
   rw [if_neg Y4] at g1
   exact g1.elim
end
/-- x op= e -/
def mAug (i : Nat) (f : Op2) (F : M W) : M Fl := fun eta hp => match eta[i]? with
 | some (some x) => (F eta hp).bind fun y h1 => (f x y h1).bind fun z h2 => .ok (.nx (eta.set i (some z))) h2
 | _ => .bad
def SrcF (K : PySem.W.Frag) (ω : World) (s : S4) (ws : List W) (J : It) : Prop := ∀ s', Aft s s' → Rel K ω s' → ∀ i : Nat,
 (∀ w, ws[i]? = some w → J.go i s'.H ∧ ∀ x H', J.yld i s'.H x H' → ∃ s2 : S4, s2.H = H' ∧ s2.hp = s'.hp ∧ Aft s' s2 ∧ Rel K ω s2 ∧ Rw K s2 w x) ∧ (i = ws.length → J.stop i s'.H)
def II (X : Cx) (Wx : WX) (tg e : Expr) (F : M (List W)) : Prop := PI X tg e (tM X.K X.w Wx (SrcF X.K X.w) F)
def forL (G : W → IS → Option IS) (B : M Fl) : List W → IS → IH → Res Fl
 | [], eta, hp => .ok Yeq hp
 | w :: ws, eta, hp => match G w eta with
  | none => .bad
  | some eta1 => (B eta1 hp).bind fun f h2 => match f with
   | .nx e => forL G B ws e h2
   | .ct e => forL G B ws e h2
   | .bk e => .ok (.nx e) h2
   | .rt w => .ok (.rt w) h2
def mFor (Fi : M (List W)) (G : W → IS → Option IS) (B : M Fl) : M Fl := fun eta hp => (Fi eta hp).bind fun ws h1 => forL G B ws eta h1
section
variable {X : Cx} {Wx : WX} {tg iter : Expr} {Fi : M (List W)} {pos : Pos} {g : TG} {G : W → IS → Option IS} {vs : List Nat} {body : List Stmt} {B : M Fl}
theorem st_for (hp : PassesOwn Yo X.A X.env X.xe) (hc : X.calm = true) (hi : II X Wx tg iter Fi) (hg : PG X tg g) (ok : TgOk X.K X.w g G vs) (hb : ISs X Wx body B)
  (hs : ∀ x, foldedSetIterable iter X.env x = pure x := by intro _; rfl) : ISt X Wx (.For tg iter body [] pos) (mFor Fi G B) := PS.imp (ps_for hp hc hi hg hb hs) fun D σ H h =>
 tM.bind1 (R := fun (J : It) (H1 : Hp) => ∃ Wv : Nat → Nat → St → Hp → Prop, (∃ m, Wv 0 m σ H1) ∧ ∀ i m σ H, Wv i m σ H →
   (J.stop i H ∧ D.nx σ H) ∨ (J.go i H ∧ ∃ N : St → Hp → Prop, (∀ σ' H', N σ' H' → ∃ m', m' < m ∧ Wv (i + 1) m' σ' H') ∧ ∀ x H', J.yld i H x H' → g x σ H' fun σ2 H2 => tS X.K X.w Wx B { D with nx := N, ct := N, bk := D.nx } σ2 H2))
  (k := fun (ws : List W) eta hp => forL G B ws eta hp) h fun s eta ws J R1 S1 src g1 => by
  refine ⟨fun i m σ H => m = ws.length - i ∧ i ≤ ws.length ∧ ∃ s' eta', s'.H = H ∧ Aft s s' ∧ Rel X.K X.w s' ∧ Sl X.K s' eta' σ ∧ Go X.K X.w Wx (RFl X.K) s' (forL G B (ws.drop i) eta' s'.hp) (endQ D), ⟨ws.length, by simp, Nat.zero_le _, s, eta, rfl, Aft.refl s, R1, S1, by simpa using g1⟩, ?_⟩
  rintro i m σ H ⟨rfl, hi, s', eta', rfl, A1, R2, S2, g2⟩
  obtain ⟨q1, q2⟩ := src s' A1 R2 i
  by_cases hlt : i < ws.length
  ·obtain ⟨go, yl⟩ := q1 ws[i] (List.getElem?_eq_getElem hlt)
   refine .inr ⟨go, fun σ' H' => i + 1 ≤ ws.length ∧ ∃ s2 eta2, s2.H = H' ∧ Aft s s2 ∧ Rel X.K X.w s2 ∧ Sl X.K s2 eta2 σ' ∧ Go X.K X.w Wx (RFl X.K) s2 (forL G B (ws.drop (i + 1)) eta2 s2.hp) (endQ D), fun σ' H' n => ⟨ws.length - (i + 1), by omega, rfl, n⟩, fun x H' y => ?_⟩
   obtain ⟨s3, e3, hp3, A3, R3, rw3⟩ := yl x H' y
   subst e3
   rw [List.drop_eq_getElem_cons hlt] at g2
   simp only [forL] at g2
   cases hG : G ws[i] eta' with
   | none => simp only [hG] at g2; exact g2.elim
   | some eta1 =>
    simp only [hG] at g2
    obtain ⟨σ4, S4', _, q4⟩ := ok.run s3 ws[i] x eta' σ eta1 R3 rw3 (S2.aft A3 R2) hG
    refine q4 _ ⟨s3, eta1, rfl, R3, S4', ?_⟩
    have g3 := Go.aft g2 A3
    rw [← hp3] at g3
    refine Go.bind g3 fun f fv s5 A5 R5 f5 _ g5 => ?_
    cases f <;> cases fv <;> first | exact f5.elim | skip
    ·exact ⟨hlt, s5, _, rfl, (A1.trans A3).trans A5, R5, f5, g5⟩
    ·exact Go.rt (D := D) R5 f5 g5
    ·exact Go.nx (D := D) R5 f5 g5
    ·exact ⟨hlt, s5, _, rfl, (A1.trans A3).trans A5, R5, f5, g5⟩
  ·have e : i = ws.length := by omega
   subst e
   refine .inl ⟨q2 rfl, ?_⟩
   rw [List.drop_length] at g2
   exact Go.nx R2 S2 g2
end
def ze1 (T : M Bool) (B : M Fl) : Nat → IS → IH → Res Fl
 | 0, _, _ => .bad
 | n + 1, eta, hp => (T eta hp).bind fun b h1 => if b then (B eta h1).bind fun f h2 => match f with
   | .nx e => ze1 T B n e h2
   | .ct e => ze1 T B n e h2
   | .bk e => .ok (.nx e) h2
   | .rt w => .ok (.rt w) h2
  else .ok Yeq h1
def mWhile (n : Nat) (T : M Bool) (B : M Fl) : M Fl := fun eta hp => ze1 T B n eta hp
section
variable {X : Cx} {Wx : WX} {c : Expr} {T : M Bool} {pos : Pos} {body : List Stmt} {B : M Fl}
theorem st_while (n : Nat) (hp : PassesOwn Yo X.A X.env X.xe) (hc : IT X Wx c T) (hb : ISs X Wx body B) : ISt X Wx (.While c body [] pos) (mWhile n T B) := PS.imp (ps_while hp hc hb) fun D σ H h => by
 obtain ⟨s, eta, e1, R1, S1, g⟩ := h
 refine ⟨fun m σ H => ∃ s' eta', s'.H = H ∧ Rel X.K X.w s' ∧ Sl X.K s' eta' σ ∧ Go X.K X.w Wx (RFl X.K) s' (ze1 T B m eta' s'.hp) (endQ D), ⟨n, s, eta, e1, R1, S1, g⟩, ?_⟩
 rintro m σ H ⟨s', eta', rfl, R2, S2, g2⟩
 cases m with
 | zero => exact g2.elim
 | succ m =>
  simp only [ze1] at g2
  refine ⟨s', eta', rfl, R2, S2, Go.bind g2 fun b bv s3 A3 R3 f3 _ g3 => ?_⟩
  subst f3
  cases b with
  | false => exact Go.nx R3 (S2.aft A3 R2) g3
  | true =>
   simp only [if_true] at g3
   refine ⟨fun σ' H' => ∃ s' eta', s'.H = H' ∧ Rel X.K X.w s' ∧ Sl X.K s' eta' σ' ∧ Go X.K X.w Wx (RFl X.K) s' (ze1 T B m eta' s'.hp) (endQ D), fun σ' H' n => ⟨m, Nat.lt_succ_self m, n⟩, ?_⟩
   refine ⟨s3, eta', rfl, R3, S2.aft A3 R2, Go.bind g3 fun f fv s5 A5 R5 f5 _ g5 => ?_⟩
   cases f <;> cases fv <;> first | exact f5.elim | skip
   ·exact ⟨s5, _, rfl, R5, f5, g5⟩
   ·exact Go.rt (D := D) R5 f5 g5
   ·exact Go.nx (D := D) R5 f5 g5
   ·exact ⟨s5, _, rfl, R5, f5, g5⟩
end
def W0 : WX := fun _ _ _ _ => False
def noEr {A : Type} (r : Res A) : Res A := match r with
 | .er _ _ _ => .bad
 | r => r
theorem noEr_bind {A B : Type} (r : Res A) (k : A → IH → Res B) : noEr (r.bind k) = (noEr r).bind fun a h => noEr (k a h) := by cases r <;> rfl
theorem Go.noEr {A B : Type} {K : PySem.W.Frag} {ω : World} {Wx Wx' : WX} {Fam : S4 → A → B → Prop} {s : S4} {r : Res A} {Q : B → Hp → Prop} (g : Go K ω Wx Fam s (noEr r) Q) : Go K ω Wx' Fam s r Q := by
 cases r with
 | ok a h => exact g
 | er e eta h => exact g.elim
 | bad => exact g
def turnL (G : W → IS → Option IS) (T : M Bool) (E : M W) (eta : IS) (w : W) (hp : IH) : Res (Option W) := match G w eta with
 | none => .bad
 | some eta1 => (T eta1 hp).bind fun b h1 => if b then (E eta1 h1).bind fun y h2 => .ok (some y) h2 else .ok none h1
def zdt (G : W → IS → Option IS) (T : M Bool) (E : M W) (eta : IS) : List W → IH → Res (List W)
 | [], hp => .ok [] hp
 | w :: ws, hp => (noEr (turnL G T E eta w hp)).bind fun o h1 => (zdt G T E eta ws h1).bind fun r h2 => .ok (match o with | some y => y :: r | none => r) h2
def wipeI (eta : IS) (vs : List Nat) : IS := vs.foldr (fun v e => e.set v none) eta
/-- fin: zas (a tree), newL (a live list) -/
def zbq (fin : OpN) (Fi : M (List W)) (G : W → IS → Option IS) (T : M Bool) (E : M W) (vs : List Nat) : M W := fun eta hp => (Fi eta hp).bind fun ws h1 => if ws.length ≤ 16777216 then (zdt G T E (wipeI eta vs) ws h1).bind fun r h2 => fin r h2 else .bad
/-- an untracked-by-us object is changed (a comprehension's list while it is made) -/
def S4.setD (s : S4) (D : Addr) (o : HO) : S4 := ⟨s.rho, s.fz, s.hp, upd s.H D o⟩
section
variable {K : PySem.W.Frag} {ω : World}
mutual
theorem Rf.congr {fz fz' : Addr → Prop} {H H' : Hp} (hf : ∀ a, fz a → fz' a) (k : ∀ a, fz a → H' a = H a) : ∀ (x : T) (v : V), Rf K fz H x v → Rf K fz' H' x v
 | .non, _, h => by simpa [Rf] using h
 | .bl _, _, h => by simpa [Rf] using h
 | .int _, _, h => by simpa [Rf] using h
 | .str _, _, h => by simpa [Rf] using h
 | .ty _, _, h => by simpa [Rf] using h
 | .cls _, _, h => by simpa [Rf] using h
 | .exc _ _ _, _, h => by simp [Rf] at h
 | .tup xs, v, h => by
  simp only [Rf] at h ⊢
  obtain ⟨a, vs, e, t, l⟩ := h
  refine ⟨a, vs, e, ?_, RfL.congr hf k xs vs l⟩
  rcases t with ⟨f, o, t, d⟩ | t
  ·exact .inl ⟨hf a f, o, (k a f).trans t, d⟩
  ·exact .inr t
 | .pr xs, v, h => by
  simp only [Rf] at h ⊢
  obtain ⟨a, vs, e, t, l⟩ := h
  exact ⟨a, vs, e, ⟨hf a t.1, (k a t.1).trans t.2⟩, RfL.congr hf k xs vs l⟩
 | .dit ks xs, v, h => by
  simp only [Rf] at h ⊢
  obtain ⟨a, vs, e, t, n, l⟩ := h
  exact ⟨a, vs, e, ⟨hf a t.1, (k a t.1).trans t.2⟩, n, RfL.congr hf k xs vs l⟩
 | .lst xs, v, h => by
  simp only [Rf] at h ⊢
  obtain ⟨a, vs, e, t, l⟩ := h
  exact ⟨a, vs, e, ⟨hf a t.1, (k a t.1).trans t.2⟩, RfL.congr hf k xs vs l⟩
 | .scr xs, v, h => by
  simp only [Rf] at h ⊢
  obtain ⟨a, vs, e, t, l⟩ := h
  exact ⟨a, vs, e, t.imp (fun t => ⟨hf a t.1, let ⟨o, u⟩ := t.2; ⟨o, (k a t.1).trans u⟩⟩) id, RfL.congr hf k xs vs l⟩
 | .dic ks xs, v, h => by
  simp only [Rf] at h ⊢
  obtain ⟨a, vs, e, t, n, l⟩ := h
  exact ⟨a, vs, e, ⟨hf a t.1, let ⟨o, u⟩ := t.2; ⟨o, (k a t.1).trans u⟩⟩, n, RfL.congr hf k xs vs l⟩
 | .ins c ns xs, v, h => by
  simp only [Rf] at h ⊢
  obtain ⟨a, C, vs, e, cn, t, n, l⟩ := h
  exact ⟨a, C, vs, e, cn, ⟨hf a t.1, let ⟨o, u⟩ := t.2; ⟨o, (k a t.1).trans u⟩⟩, n, RfL.congr hf k xs vs l⟩
theorem RfL.congr {fz fz' : Addr → Prop} {H H' : Hp} (hf : ∀ a, fz a → fz' a) (k : ∀ a, fz a → H' a = H a) : ∀ (xs : List T) (vs : List V), RfL K fz H xs vs → RfL K fz' H' xs vs
 | [], _, h => by simpa [RfL] using h
 | x :: xs, vs, h => by
  simp only [RfL] at h ⊢
  obtain ⟨v, r, e, a, b⟩ := h
  exact ⟨v, r, e, Rf.congr hf k x v a, RfL.congr hf k xs r b⟩
end
theorem Rw.congr {s s' : S4} (hr : s'.rho = s.rho) (hf : ∀ a, s.fz a → s'.fz a) (k : ∀ a, s.fz a → s'.H a = s.H a) {w : W} {v : V} (h : Rw K s w v) : Rw K s' w v := by
 cases w with
 | t x => exact Rf.congr hf k x v h
 | r i => obtain ⟨a, e1, e2⟩ := h; exact ⟨a, by rw [hr]; exact e1, e2⟩
theorem RwL.congr {s s' : S4} (hr : s'.rho = s.rho) (hf : ∀ a, s.fz a → s'.fz a) (k : ∀ a, s.fz a → s'.H a = s.H a) : ∀ {ws : List W} {vs : List V}, RwL K s ws vs → RwL K s' ws vs
 | [], _, h => h
 | x :: xs, vs, h => by
  obtain ⟨v, r, e, a, b⟩ := h
  exact ⟨v, r, e, a.congr hr hf k, RwL.congr hr hf k b⟩
theorem RwK.congr {s s' : S4} (hr : s'.rho = s.rho) (hf : ∀ a, s.fz a → s'.fz a) (k : ∀ a, s.fz a → s'.H a = s.H a) : ∀ {ws : List (Key × W)} {vs : List (Key × V)}, RwK K s ws vs → RwK K s' ws vs
 | [], _, h => h
 | x :: xs, vs, h => by
  obtain ⟨v, r, e, a, b⟩ := h
  exact ⟨v, r, e, a.congr hr hf k, RwK.congr hr hf k b⟩
theorem RwF.congr {s s' : S4} (hr : s'.rho = s.rho) (hf : ∀ a, s.fz a → s'.fz a) (k : ∀ a, s.fz a → s'.H a = s.H a) : ∀ {ws : List (Str × W)} {vs : List (Str × V)}, RwF K s ws vs → RwF K s' ws vs
 | [], _, h => h
 | x :: xs, vs, h => by
  obtain ⟨v, r, e, a, b⟩ := h
  exact ⟨v, r, e, a.congr hr hf k, RwF.congr hr hf k b⟩
theorem RwD.congr {s s' : S4} (hr : s'.rho = s.rho) (hf : ∀ a, s.fz a → s'.fz a) (k : ∀ a, s.fz a → s'.H a = s.H a) : ∀ {ws : List (T × W)} {vs : List (NestedKey × Addr × V)}, RwD K s ws vs → RwD K s' ws vs
 | [], _, h => h
 | x :: xs, vs, h => by
  obtain ⟨q, b, v, r, e, h1, h2, h3, h4, h5⟩ := h
  exact ⟨q, b, v, r, e, h1, h2, Rf.congr hf k _ _ h3, h4.congr hr hf k, RwD.congr hr hf k h5⟩
theorem CellOk.congr {s s' : S4} (hr : s'.rho = s.rho) (hf : ∀ a, s.fz a → s'.fz a) (k : ∀ a, s.fz a → s'.H a = s.H a) {a : Addr} {c : Cell} {o : Option HO} (h : CellOk K ω s a c o) : CellOk K ω s' a c o := by
 cases c with
 | lst ws => obtain ⟨vs, e, l⟩ := h; exact ⟨vs, e, l.congr hr hf k⟩
 | dic kvs => obtain ⟨vs, e, l⟩ := h; exact ⟨vs, e, l.congr hr hf k⟩
 | ins c fs => obtain ⟨C, dx, vs, e, cn, l⟩ := h; exact ⟨C, dx, vs, e, cn, l.congr hr hf k⟩
 | dit kvs => obtain ⟨vs, e, l⟩ := h; exact ⟨vs, e, l.congr hr hf k⟩
 | tpl ws => obtain ⟨ob, vs, e, d, l⟩ := h; exact ⟨ob, vs, e, d, l.congr hr hf k⟩
 | dil kvs => obtain ⟨ob, vs, e, l⟩ := h; exact ⟨ob, vs, e, l.congr hr hf k⟩
variable {s s' : S4} {D : Addr} {o : HO}
theorem setD_k (nf : ¬ s.fz D) : ∀ a, s.fz a → (s.setD D o).H a = s.H a := fun a f => upd_ne fun z => nf (z ▸ f)
theorem rel_setD (R : Rel K ω s) (nr : D ∉ s.rho) (nf : ¬ s.fz D) : Rel K ω (s.setD D o) := by
 have tr : ∀ a, s.H a ≠ none → (s.setD D o).H a ≠ none := fun a h => by
  show upd s.H D o a ≠ none
  by_cases q : a = D
  ·rw [q, upd_same]; intro z; cases z
  ·rw [upd_ne q]; exact h
 refine ⟨R.len, R.nd, fun a m => tr a (R.trk a m), fun a f => tr a (R.ftrk a f), R.fz, fun i c a e1 e2 => ?_⟩
 have ne : a ≠ D := fun z => nr (z ▸ List.mem_of_getElem? e2)
 show CellOk K ω (s.setD D o) a c (upd s.H D o a)
 rw [upd_ne ne]
 exact CellOk.congr (s := s) (s' := s.setD D o) rfl (fun _ f => f) (setD_k nf) (R.cell i c a e1 e2)
/-- what is known of D stays behind a run -/
theorem Aft.away (A : Aft s s') (h : s.H D = some o) (nr : D ∉ s.rho) (nf : ¬ s.fz D) : s'.H D = some o ∧ D ∉ s'.rho ∧ ¬ s'.fz D := by
 have nl : ¬ Live s D := fun ⟨i, c, _, e⟩ => nr (List.mem_of_getElem? e)
 refine ⟨A.keep D o h nl, fun m => ?_, fun f => ?_⟩
 ·obtain ⟨ex, e, n⟩ := A.pre
  rw [e] at m
  rcases List.mem_append.mp m with m | m
  ·exact nr m
  ·rw [n D m] at h; cases h
 ·rcases A.fnew D f with f | f | f
  ·exact nf f
  ·rw [f] at h; cases h
  ·exact nl f
theorem Aft.setD {s0 : S4} (A : Aft s0 s) (h0 : s0.H D = none) {o' : HO} : Aft s0 (s.setD D o') := by
 refine ⟨A.pre, A.fz, fun a u e nl => ?_, A.fnew, A.live, fun a h => ?_⟩
 ·show upd s.H D o' a = some u
  rw [upd_ne (ne_of_none e h0)]; exact A.keep a u e nl
 ·show upd s.H D o' a ≠ none
  by_cases q : a = D
  ·rw [q, upd_same]; intro z; cases z
  ·rw [upd_ne q]; exact A.trk a h
theorem Go.bind0 {Wx : WX} {A B C E : Type} {Fam : S4 → A → B → Prop} {Gam : S4 → C → E → Prop} {s0 s : S4} {r : Res A} {k : A → IH → Res C} {Q : E → Hp → Prop} {R : B → Hp → Prop} (g : Go K ω Wx Gam s0 (r.bind k) Q) (A0 : Aft s0 s)
  (h : ∀ a b s', Aft s s' → Rel K ω s' → Fam s' a b → Go K ω Wx Gam s0 (k a s'.hp) Q → R b s'.H) : Go K ω Wx Fam s r R := by
 cases r with
 | ok x hp =>
  intro b s2 h1 h2 h3 h4
  subst h1
  exact h x b s2 h2 h3 h4 g
 | er e eta hp => exact Go.aft (Fam := Fam) (r := .er e eta hp) (Q := R) (show Go K ω Wx Fam s0 (.er e eta hp) R from g) A0
 | bad => exact g
end
/-- what the end of a comprehension asks: the list at D is handed on -/
def FinOk (K : PySem.W.Frag) (ω : World) (Wx : WX) (fin : OpN) : Prop := ∀ (s0 s : S4) (ws : List W) (vs : List V) (D : Addr) (Q : VK), Aft s0 s → Rel K ω s → s0.H D = none → D ∉ s.rho → ¬ s.fz D → s.H D = some (.lst vs) → RwL K s ws vs → Go K ω Wx (Rw K) s0 (fin ws s.hp) Q →
 Q (.ref D) s.H
theorem zbj {K : PySem.W.Frag} {ω : World} {Wx : WX} : FinOk K ω Wx zas := by
 intro s0 s ws vs D Q A R h0 nr nf hD l g
 unfold zas at g
 split at g
 ·rename_i ts ht
  split at g
  ·rename_i hz
   rw [zcu ht] at l
   have R2 : Rel K ω ⟨s.rho, fun a => s.fz a ∨ a = D, s.hp, s.H⟩ := by
    refine ⟨R.len, R.nd, R.trk, fun a f => ?_, fun a l f => ?_, fun i c a e1 e2 => CellOk.congr (s := s) (s' := ⟨s.rho, fun a => s.fz a ∨ a = D, s.hp, s.H⟩) rfl (fun _ f => Or.inl f) Ya3 (R.cell i c a e1 e2)⟩
    ·rcases f with f | f
     ·exact R.ftrk a f
     ·rw [f, hD]; intro z; cases z
    ·rcases f with f | f
     ·exact R.fz a l f
     ·obtain ⟨i, c, _, e⟩ := l
      exact nr (f ▸ List.mem_of_getElem? e)
   refine g (.ref D) ⟨s.rho, fun a => s.fz a ∨ a = D, s.hp, s.H⟩ rfl ⟨A.pre, fun a f => .inl (A.fz a f), A.keep, fun a f => ?_, A.live, A.trk⟩ R2 ?_
   ·rcases f with f | f
    ·exact A.fnew a f
    ·exact .inr (.inl (by rw [f]; exact h0))
   ·simp only [Rw, Rf]
    exact ⟨D, vs, rfl, ⟨.inr rfl, hD⟩, RfL.congr (fun _ f => .inl f) Ya3 _ _ Ye6⟩
  ·exact g.elim
 ·exact g.elim
section
variable {X : Cx} {Wx : WX} {elt tg iter : Expr} {Fi : M (List W)} {pos : Pos} {g : TG} {G : W → IS → Option IS} {vs : List Nat} {T : M Bool} {E : M W} {fin : OpN} {own : List (Str × Nat)}
theorem t_comp (us : List Nat) (ok : TgOk X.K X.w g G vs) (hv : ∀ i ∈ vs, i ∈ us) (hf : FinOk X.K X.w Wx fin) : ∀ σ H Q, tE X.K X.w Wx (zbq fin Fi G T E us) σ H Q →
  tLc (tM X.K X.w Wx (SrcF X.K X.w) Fi) g (tT X.K X.w W0 T) (tE X.K X.w W0 E) us σ H Q := fun σ H Q h =>
 tM.bind1 (R := fun (J : It) (H1 : Hp) => ∀ D, H1 D = none → ∃ Wv : Nat → Nat → Hp → Prop, (∃ m, Wv 0 m (upd H1 D (.lst []))) ∧ ∀ i m H, Wv i m H →
   (J.stop i H ∧ Q (.ref D) H) ∨ (J.go i H ∧ ∃ Nx : Hp → Prop, (∀ H', Nx H' → ∃ m', m' < m ∧ Wv (i + 1) m' H') ∧ ∀ x H', J.yld i H x H' → g x (wipe σ us) H' fun σ2 H2 => wipe σ2 us = wipe σ us ∧ tT X.K X.w W0 T σ2 H2 fun b H3 =>
    if b = true then tE X.K X.w W0 E σ2 H3 fun y H4 => ∃ acc, H4 D = some (.lst acc) ∧ acc.length < sizeLine ∧ Nx (upd H4 D (.lst (acc ++ [y]))) else Nx H3))
  (k := fun (ws : List W) eta hp => if ws.length ≤ 16777216 then (zdt G T E (wipeI eta us) ws hp).bind fun r h2 => fin r h2 else .bad) h fun s0 eta ws J R0 S0 src g0 D hD => by
  split at g0
  ·rename_i hz
   have hz' : ws.length ≤ sizeLine := by rw [sizeLine_eq]; exact hz
   have hw : Sl X.K s0 (wipeI eta us) (wipe σ us) := S0.wipe us
   refine ⟨fun i m H => m = ws.length - i ∧ i ≤ ws.length ∧ ∃ (s : S4) (acc : List W) (xs : List V), s.H = H ∧ Aft s0 s ∧ Rel X.K X.w s ∧ D ∉ s.rho ∧ ¬ s.fz D ∧ s.H D = some (.lst xs) ∧ RwL X.K s acc xs ∧ acc.length ≤ i ∧
     Go X.K X.w Wx (Rw X.K) s0 ((zdt G T E (wipeI eta us) (ws.drop i) s.hp).bind fun r h => fin (acc ++ r) h) Q, ⟨ws.length, by simp, Nat.zero_le _, s0.setD D (.lst []), [], [], rfl, (Aft.refl s0).setD hD, rel_setD R0 (R0.fresh hD).1 (R0.fresh hD).2, (R0.fresh hD).1, (R0.fresh hD).2, upd_same, rfl, Nat.le_refl _, g0⟩, ?_⟩
   rintro i m H ⟨rfl, hi, s, acc, xs, rfl, A1, R1, nr, nf, hDx, l1, hl1, g1⟩
   obtain ⟨q1, q2⟩ := src s A1 R1 i
   by_cases hlt : i < ws.length
   ·obtain ⟨go, yl⟩ := q1 ws[i] (List.getElem?_eq_getElem hlt)
    refine .inr ⟨go, fun H' => i + 1 ≤ ws.length ∧ ∃ (s : S4) (acc : List W) (xs : List V), s.H = H' ∧ Aft s0 s ∧ Rel X.K X.w s ∧ D ∉ s.rho ∧ ¬ s.fz D ∧ s.H D = some (.lst xs) ∧ RwL X.K s acc xs ∧ acc.length ≤ i + 1 ∧
     Go X.K X.w Wx (Rw X.K) s0 ((zdt G T E (wipeI eta us) (ws.drop (i + 1)) s.hp).bind fun r h => fin (acc ++ r) h) Q, fun H' n => ⟨ws.length - (i + 1), by omega, rfl, n⟩, fun x H' y => ?_⟩
    obtain ⟨s3, e3, hp3, A3, R3, rw3⟩ := yl x H' y
    subst e3
    obtain ⟨hD3, nr3, nf3⟩ := A3.away hDx nr nf
    have l3 := RwL.aft A3 R1 _ _ l1
    have A03 := A1.trans A3
    rw [List.drop_eq_getElem_cons hlt] at g1
    rw [← hp3] at g1
    simp only [zdt, Res.bind_assoc, turnL] at g1
    cases hG : G ws[i] (wipeI eta us) with
    | none => simp only [hG, noEr] at g1; exact g1.elim
    | some eta1 =>
     simp only [hG, noEr_bind, Res.bind_assoc] at g1
     obtain ⟨σ2, S2, w2, q4⟩ := ok.run s3 ws[i] x (wipeI eta us) (wipe σ us) eta1 R3 rw3 ((hw.aft A03 R0)) hG
     have wi : wipe (wipe σ us) us = wipe σ us := by
      apply List.ext_getElem?
      intro j
      by_cases hj : j ∈ us
      ·by_cases hl : j < σ.length
       ·rw [wipe_in hj (by rw [wipe_length]; exact hl), wipe_in hj hl]
       ·rw [List.getElem?_eq_none (by rw [wipe_length, wipe_length]; simpa using hl), List.getElem?_eq_none Yht]
      ·rw [wipe_get hj]
     refine q4 _ ⟨(w2 us hv).trans wi, s3, eta1, rfl, R3, S2, Go.noEr (Go.bind0 g1 A03 fun b bv s4 A4 R4 f4 g4 => ?_)⟩
     subst f4
     obtain ⟨hD4, nr4, nf4⟩ := A4.away hD3 nr3 nf3
     have l4 := RwL.aft A4 R3 _ _ l3
     have A04 := A03.trans A4
     cases b with
     | false =>
      simp only [Bool.false_eq_true, if_false, noEr, Res.bind] at g4
      rw [if_neg Bool.false_ne_true]
      exact ⟨hlt, s4, acc, xs, rfl, A04, R4, nr4, nf4, hD4, l4, by omega, g4⟩
     | true =>
      simp only [if_true, noEr_bind, Res.bind_assoc] at g4
      rw [if_pos rfl]
      refine ⟨s4, eta1, rfl, R4, S2.aft A4 R3, Go.noEr (Go.bind0 g4 A04 fun yw yv s5 A5 R5 f5 g5 => ?_)⟩
      obtain ⟨hD5, nr5, nf5⟩ := A5.away hD4 nr4 nf4
      have l5 := RwL.aft A5 R4 _ _ l4
      have A05 := A04.trans A5
      refine ⟨xs, hD5, by rw [← RwL.length l5]; omega, hlt, s5.setD D (.lst (xs ++ [yv])), acc ++ [yw], xs ++ [yv], rfl, A05.setD hD, rel_setD R5 nr5 nf5, nr5, nf5, upd_same, ?_, by simp; omega, ?_⟩
      ·exact RwL.append (RwL.congr (s := s5) (s' := s5.setD D _) rfl (fun _ f => f) (setD_k nf5) l5) ⟨yv, [], rfl, Rw.congr (s := s5) (s' := s5.setD D _) rfl (fun _ f => f) (setD_k nf5) f5, rfl⟩
      ·simp only [noEr, Res.bind] at g5
       have e : ∀ (r : Res (List W)), (r.bind fun r h2 => (Res.ok (yw :: r) h2).bind fun r h => fin (acc ++ r) h) = (r.bind fun r h => fin ((acc ++ [yw]) ++ r) h) := fun r => by cases r <;> simp [Res.bind]
       have e2 := e (zdt G T E (wipeI eta us) (ws.drop (i + 1)) s5.hp)
       exact e2 ▸ g5
   ·have e : i = ws.length := by omega
    subst e
    refine .inl ⟨q2 rfl, ?_⟩
    rw [List.drop_length] at g1
    simp only [zdt, Res.bind, List.append_nil] at g1
    exact hf s0 s acc xs D Q A1 R1 hD nr nf hDx l1 g1
  ·exact g0.elim
end
end Mir
namespace Mir
open PySem PySem.Spec L2
open PyProof.Rows hiding St
structure FnG (P : Program) (w : World) (K : PySem.W.Frag) (mg : Str → Option Value) (base : Heap) (CX : CXT) (k : Nat) (f : Addr) (fd : FuncData) (ps : List Str) (sp : Sp) : Prop where
 len : ∀ vs H Q E, sp vs H Q E → vs.length = ps.length
 run : ∀ (A : Around) (outer : List Env) (s : Shared) (H : Hp) (args : Args) (us : List Value) (vs : List V) (Q : VK) (E : XK), Room k A → A.guards = some [] → Env0 P w K mg base A outer s H → BindsTo s fd args (ps.zip us) → Vals vs us →
  sp vs H Q E → codeAny Ych A (.call (.ref f) args) (CR CX outer P w H s Q E) s
section
variable {P : Program} {w : World} {K : PySem.W.Frag} {mg : Str → Option Value} {base : Heap} {CX : CXT} {f : Addr} {fd : FuncData} {ps : List Str} {sp : Sp}
theorem FnG.mono {j k : Nat} (F : FnG P w K mg base CX j f fd ps sp) (h : j ≤ k) : FnG P w K mg base CX k f fd ps sp :=
 ⟨F.len, fun A outer s H args us vs Q E hr hg => F.run A outer s H args us vs Q E (hr.mono h) hg⟩
/-- a def by its body -/
theorem Fun.okG {k : Nat} {x qual : Str} {st : Stmt} {N : List Str} {dvs : List V} {kws : List Yfi} (F : FunD K x qual (defArgs st) Yir Yde dvs kws f fd) (S : FnScope N ps Yde) (len : ∀ vs H Q E, sp vs H Q E → vs.length = ps.length)
  (hb : ∀ (cdv : Value) (A : Around) (outer : List Env) (s : Shared) (H : Hp) (vs : List V) (Q : VK) (E : XK), Room k Ybs → A.guards = some [] → sp vs H Q E →
   ∃ t, PSs Ydb Yir t ∧ t { nx := fun _ H' => Q .non H', rt := Q } (L2.start N vs) H) : FnG P w K mg base CX (k + 1) f fd ps sp := by
 obtain ⟨oc, od, dV, kV, doc, pm, an, cdv, ct, osl, rfl, lk, hcd, _, _⟩ := F.ex
 refine ⟨len, fun A outer s H args us vs Q E hr hgd e0 hbd r hsp => ?_⟩
 have hl := len _ _ _ _ hsp
 have keep : ∀ b o, base.get? b = some o → s.heap.get? b = some o := fun b o e => (e0.bs b o e).1
 have KX : K.In s.heap := e0.mod.kin.keeps keep
 have bound : ∀ y ∈ ps.zip us, (defScope st).names.lookup y.1 = some .local ∨ ((defScope st).names.lookup y.1 = some .cell ∧ ((cellsFrom Ybj (defScope st).names []).lookup y.1).isSome = true) := by
  rintro ⟨n, v⟩ hy
  refine (S.par n (List.of_mem_zip hy).1).imp id fun q => ⟨q, ?_⟩
  exact PySem.W.cellsFrom_some _ _ _ (.inl q)
 refine codeAny_call_function hr.depth (KX _ _ lk) rfl S.co S.gen rfl (PySem.W.codeRec_of KX hcd) (hbd _ _ _ _ ?_)
 refine wpAny_newFunctionEnv_cells S.kind bound ?_
 rintro env rfl s1 x
 refine ⟨(e0.mod.nolimit.keeps keep).keeps x.toInCall.keep, codeAny_func ?_⟩
 obtain ⟨t, ht, hq⟩ := hb cdv A outer s H vs Q E (hr.deeper _) hgd hsp
 have I := inv_start (CX := CX) (N := N) (E := E) S hr.hd e0 hl r x
 refine wpAny_mono (ht.run [] s1 (L2.start N vs) H _ I hq) ?_ fun e s' hs => hs
 have fin : ∀ {s' : Shared} {σ' : L2.St} {H' : Hp} {v : V} {u : Value}, Inv Ydb [] σ' H' s' → RelV v u → Q v H' → CE outer P w H s Q u s' :=
  fun {s' σ' H' v u} J rv q => ⟨v, H', J.os, J.bare, J.base, J.hok, rv, q⟩
 intro fl s' hs
 cases fl with
 | ret u => obtain ⟨v, σ', H', J, rv, q⟩ := hs; exact fin J rv q
 | next => obtain ⟨σ', H', J, q⟩ := hs; exact fin (v := V.non) (u := Value.none) J rfl q
 | brk => obtain ⟨_, _, _, q⟩ := hs; exact q.elim
 | cont => obtain ⟨_, _, _, q⟩ := hs; exact q.elim
end
section
variable {X : Cx} {CX : CXT} {k : Nat} {f C : Addr} {fd : FuncData} {ps : List Str} {sp : Sp} {dvs : List V} {ds : List Value} {E : XK} {x m : Str} {p pos apos : Pos} {e o : Expr} {es : List Expr} {ta : TE} {t : TA}
theorem runG {pins : List Yc5} {σ : L2.St} {H : Hp} {s : Shared} {Q : VK} {us : List Value} {vs : List V} (F : FnG X.prog X.w X.K X.mg X.base CX k f fd ps sp) (hr : Room k X.A) (hgd : X.A.guards = some []) (hb : Binds X.K fd ps ds) (hd : Vals dvs ds) (hx : Passes CX X E)
  (I : Inv X pins σ H s) (r : Vals vs us) (h : sp (vs ++ dvs) H Q E) : wpAny Yo X.A (call (.ref f) us) (EP X pins σ Q) X.xe s := by
 have r2 := r.append hd
 have hl : (us ++ ds).length = ps.length := r2.length.symm.trans (F.len _ _ _ _ h)
 refine wpAny_call (codeAny_mono (F.run X.A X.stack s H ⟨us, []⟩ (us ++ ds) (vs ++ dvs) Q E hr hgd I.env0 (hb s us I.kIn hl) r2 h) ?_)
 rintro (e | fl) s' hq
 ·exact hx pins σ H s e s' I hq
 ·cases fl <;> first | exact I.after hq | exact (show False from hq).elim
theorem pe_callG (F : FnG X.prog X.w X.K X.mg X.base CX k f fd ps sp) (hr : Room k X.A) (hgd : X.A.guards = some []) (hg : Gl X x) (hm : X.mg x = some (.ref f)) (hk : PySem.W.keepIn X.K (.ref f) = true) (hb : Binds X.K fd ps ds) (hd : Vals dvs ds) (hx : Passes CX X E)
  (ha : PA X Yal t) (hdb : (x == ("__debug__" : Str)) = false := by decide) (he : starEach Yal X.env = (false, eval e X.env) :: starEach es X.env := by rfl) (hpl : (backTo pos Ybq).any (·.1) = false := by rfl) :
  PE X Yah (tCall sp dvs E t) := ⟨fun pins s σ H Q I h => by
 refine wpAny_Call_Name_kw (ld_glob I hg hm ?_ hdb)
 refine PySem.W.callWith_K (h₀ := X.base) I.ok.mod.kin hk (thn (ha.run pos pins s σ H _ I h) ?_) he hpl
 rintro us s1 ⟨vs, H1, I1, r, q⟩
 exact ⟨I1.kIn, runG F hr hgd hb hd hx I1 r q⟩⟩
end
theorem law_callG {P : Program} {w : World} {K : PySem.W.Frag} {mg mb : Str → Option Value} {CX : CXT} {k : Nat} {fa a : Addr} {fd : FuncData} {x : Str} {sp : Sp} {s1 : Shared} {us : List Value} {ns : List Int}
  (KX : K.In s1.heap) (hns : s1.heap.Ns mainGlobals mg) (hb : s1.heap.Ns builtinsNs mb) (hbb : ∀ y : Str, y ≠ "__name__" → mb y = bootBuiltins y) (hlim : s1.heap.NoLimit) (hg : s1.gens = #[])
  (ha : s1.heap.get? a = some { cls := .type "list", data := .seq us.toArray }) (hi : IntsAre us ns) (hl : ns.length ≤ sizeLine) (hr : Room k callerA)
  (F : ∀ base : Heap, K.In base → base.Ns mainGlobals mg → FnG P w K mg base CX k fa fd [x] sp) (hbind : ∀ (s : Shared) (u : Value), BindsTo s fd ⟨[u], []⟩ [(x, u)])
  (hsp : ∀ H : Hp, ((∃ o, H a = some Yif) ∨ (∃ (o : Obj) (its : Array Value) (n : Nat), K.lookup a = some o ∧ o.cls = .type "list" ∧ o.dict = none ∧ o.data = .seq its n ∧ its.size ≤ sizeLine ∧ Vals Yd4 its.toList)) → sp [.ref a] H (fun v _ => v = .bl true) fun _ _ _ => False)
  (hCX : ∀ H e s', CX [] H s1 Yfv e s' → False) :
  codeAny Ych callerA (.call (.ref fa) ⟨[.ref a], []⟩) Yeu s1 := by
 have rv := vals_ints hi
 have lenV := hi.length
 have main : ∀ H : Hp, Only H → ((∃ o, H a = some Yif) ∨ (∃ (o : Obj) (its : Array Value) (n : Nat), K.lookup a = some o ∧ o.cls = .type "list" ∧ o.dict = none ∧ o.data = .seq its n ∧ its.size ≤ sizeLine ∧ Vals Yd4 its.toList)) → HOk P w H s1.heap →
   (∀ b, H b ≠ none → b = a) → (H a ≠ none → K.lookup a = none) →
   codeAny Ych callerA (.call (.ref fa) ⟨[.ref a], []⟩) Yeu s1 := by
  intro H hO hS hok hA hK
  have isA : ∀ {b : Addr} {u : HO}, H b = some u → b = a := fun {b u} q => hA b (by rw [q]; exact Option.some_ne_none u)
  have free : ∀ {b : Addr} {o : Obj} {es : Array DictEntry} {ep : Nat}, s1.heap.get? b = some o → o.data = .dict es ep → H b = none := fun {b o es ep} e d => by
   cases q : H b with
   | none => rfl
   | some u =>
    rw [isA q, ha] at e
    cases e
    cases (show Data.seq us.toArray _ = Data.dict es ep from d)
  have nsK : ∀ {b : Addr} {m : Str → Option Value}, s1.heap.Ns b m → (hidT s1.heap H).Ns b m := fun {b m} ⟨o, es, ep, e, d, r⟩ => ⟨o, es, ep, hidT_get e (free e d), d, r⟩
  have hKb : K.In (hidT s1.heap H) := fun b o e => hidT_get (KX b o e) (by
   cases q : H b with
   | none => rfl
   | some u =>
    obtain rfl := isA q
    rw [hK (by rw [q]; exact Option.some_ne_none u)] at e
    cases e)
  have hM : Mod K mg (hidT s1.heap H) := by
   obtain ⟨mc, m1, m2⟩ := hlim
   exact ⟨hKb, nsK hns, ⟨mb, nsK hb, hbb⟩, mc, nsK m1, m2⟩
  have e0 : Env0 P w K mg (hidT s1.heap H) callerA [] s1 H :=
   { frames := rfl, mod := hM, bs := fun b o e => of_hidT e, bsz := Nat.le_of_eq (hidT_size _ _), funs := trivial, frf := fun b q => absurd (show b ∈ ([] : List Addr) from q) Y4, hok := hok, bare := .of_eq hg }
  refine codeAny_mono ((F _ hKb (nsK hns)).run callerA [] s1 H ⟨[.ref a], []⟩ [.ref a] [.ref a] _ _ hr rfl e0 (hbind s1 (.ref a)) (.cons rfl .nil) (hsp H hS)) ?_
  rintro (e | fl) s' h
  ·exact (hCX H e s' h).elim
  ·cases fl with
   | ret u =>
    obtain ⟨v, H', os, bare, un, hok', r', q⟩ := h
    obtain rfl : v = .bl true := q
    obtain rfl : u = Value.bool true := r'
    refine ⟨rfl, OldK.of_keep fun b o e => ?_, os, bare⟩
    rcases hO b with z | ⟨ob, xs, z⟩
    ·exact un.keep b o e z (fun m => nomatch (show b ∈ ([] : List Addr) from m)) (fun m => nomatch m)
    ·have z2 := un.frzs b ob _ z
     have e1 := (hok b _ z).1
     have e2 := (hok' b _ z2).1
     rw [e] at e1
     cases e1
     exact e2
   | next => exact (show False from h).elim
   | brk => exact (show False from h).elim
   | cont => exact (show False from h).elim
 cases hk : K.lookup a with
 | some o =>
  have e := KX a o hk
  rw [ha] at e
  cases e
  refine main (fun _ => none) (fun _ => .inl rfl) (.inr ⟨_, us.toArray, _, hk, rfl, rfl, rfl, by rw [List.size_toArray, lenV]; exact hl, by simpa using rv⟩) ?_ (fun b z => absurd rfl z) fun z => absurd rfl z
  intro b u z
  cases (show (none : Option HO) = some u from z)
 | none =>
  refine main (fun b => if b = a then some (.frz { cls := .type "list", data := .seq us.toArray } (.lst Yd4)) else none) ?_ (.inl ⟨{ cls := .type "list", data := .seq us.toArray }, if_pos rfl⟩) ?_ ?_ fun _ => hk
  ·intro b
   by_cases hb : b = a
   ·exact .inr ⟨_, _, if_pos hb⟩
   ·exact .inl (if_neg hb)
  ·intro b u z
   by_cases hb : b = a
   ·cases (if_pos hb).symm.trans z
    subst hb
    exact ⟨ha, by rw [List.length_map]; exact hl, us, _, rv, ha⟩
   ·cases (if_neg hb).symm.trans z
  ·intro b z
   by_cases hb : b = a
   ·exact hb
   ·exact absurd (if_neg hb) z
/-- what k_head leaves, from the law's promise -/
theorem walkG {l : PySem.W.OpenLaw} {n k : Nat} {q : Program} {loose : List Str} {XP : (Str → Option Value) → Heap → Prop} {YP : World → Heap → Prop} {d : DefRec} {K : Params → PySem.W.Frag} {CX : World → CXT} {sp : World → Sp} {x : Str}
  (hn : l.most = some n) (hn2 : n ≤ sizeLine) (hdf : d.params.defaults = []) (hr : Room k callerA) (hY : ∀ (w : World) (h : Heap), YP w h → (K w.params).In h)
  (F : ∀ (w : World) (mg : Str → Option Value) (fa : Addr) (h : Heap), (K w.params).In h → h.Ns mainGlobals mg → mg d.name = some (.ref fa) →
   ∃ fd : FuncData, (∀ (s : Shared) (u : Value), BindsTo s fd ⟨[u], []⟩ [(x, u)]) ∧
    ∀ base : Heap, (K w.params).In base → base.Ns mainGlobals mg → FnG l.prog w (K w.params) mg base (CX w) k fa fd [x] (sp w))
  (hsp : ∀ (w : World) (H : Hp) (a : Addr) (ns : List Int), ns.length ≤ n → ((∃ o, H a = some Yif) ∨ (∃ (o : Obj) (its : Array Value) (m : Nat), (K w.params).lookup a = some o ∧ o.cls = .type "list" ∧ o.dict = none ∧ o.data = .seq its m ∧ its.size ≤ sizeLine ∧ Vals Yd4 its.toList)) →
   sp w [.ref a] H (fun v _ => v = .bl true) fun _ _ _ => False)
  (hCX : ∀ (w : World) (H : Hp) (s : Shared) (e : Value) (s' : Shared), CX w [] H s Yfv e s' → False) :
  PySem.W.WalkO q loose XP YP l.row.toRowW d [] (fun f vs => PySem.call f vs) := by
 refine Att.attach_call hn hdf ?_
 intro w s0 s1 mg mb fa o pm cd doc a us ns G Y ho hd hcd hmg hobj hints hlen hg
 have KX := hY w _ Y
 obtain ⟨fd, hb, hF⟩ := F w mg fa _ KX G.T.g hmg
 exact law_callG KX G.T.g G.T.b G.T.builtins G.T.nolimit hg hobj hints (Nat.le_trans hlen hn2) hr hF hb (fun H hS => hsp w H a ns hlen hS) fun H e s' => hCX w H s1 e s'
end Mir
namespace Mir
open PySem PySem.Spec L2
open PyProof.Rows hiding St
section
variable {K : PySem.W.Frag} {ω : World} {s : S4}
/-- a frozen sequence, as it lies -/
def FSq (K : PySem.W.Frag) (ω : World) (s : S4) (kd : Kd) (a : Addr) (ts : List T) : Prop := ∃ vs, Sq K s.H kd a vs ∧ RfL K s.fz s.H ts vs ∧ ∀ s', Aft s s' → Rel K ω s' → Sq K s'.H kd a vs
theorem fsq_of (R : Rel K ω s) {x : T} {v : V} (r : Rf K s.fz s.H x v) {ts : List T} (h : x = .tup ts ∨ x = .lst ts ∨ x = .scr ts) : ∃ kd a, v = .ref a ∧ FSq K ω s kd a ts := by
 rcases h with h | h | h <;> subst h
 ·obtain ⟨a, vs, e, t, l⟩ : ∃ a vs, v = .ref a ∧ FTup K s.fz s.H a vs ∧ RfL K s.fz s.H ts vs := by simpa only [Rf] using r
  exact ⟨.t, a, e, vs, t.sq, l, fun s' A _ => (t.aft A R).sq⟩
 ·obtain ⟨a, vs, e, t, l⟩ : ∃ a vs, v = .ref a ∧ FLst s.fz s.H a vs ∧ RfL K s.fz s.H ts vs := by simpa only [Rf] using r
  exact ⟨.l, a, e, vs, t.sq, l, fun s' A _ => (t.aft A R).sq⟩
 ·obtain ⟨a, vs, e, t, l⟩ : ∃ a vs, v = .ref a ∧ FScr K s.fz s.H a vs ∧ RfL K s.fz s.H ts vs := by simpa only [Rf] using r
  exact ⟨.l, a, e, vs, t.sq, l, fun s' A _ => (t.aft A R).sq⟩
/-- what a value walks, frozen -/
def seqT : W → Option (List T)
 | .t (.tup ts) => some ts
 | .t (.lst ts) => some ts
 | .t (.scr ts) => some ts
 | _ => none
theorem seqT_of {w : W} {ts : List T} (h : seqT w = some ts) : ∃ x, w = .t x ∧ (x = .tup ts ∨ x = .lst ts ∨ x = .scr ts) := by
 unfold seqT at h
 split at h <;> simp only [Option.some.injEq, reduceCtorEq] at h <;> subst h
 ·exact ⟨_, rfl, .inl rfl⟩
 ·exact ⟨_, rfl, .inr Ygm⟩
 ·exact ⟨_, rfl, .inr (.inr rfl)⟩
theorem fsq (R : Rel K ω s) {w : W} {v : V} {ts : List T} (h : seqT w = some ts) (r : Rw K s w v) : ∃ kd a, v = .ref a ∧ FSq K ω s kd a ts := by
 obtain ⟨x, rfl, hx⟩ := seqT_of h
 exact fsq_of R r hx
/-- plainly -/
theorem src_sq (R : Rel K ω s) {kd : Kd} {a : Addr} {ts : List T} (h : FSq K ω s kd a ts) : SrcF K ω s Yr (ItQ K kd a) := by
 obtain ⟨vs, _, l, st⟩ := h
 intro s' A' R' i
 have q := st s' A' R'
 have l' := RfL.aft A' R _ _ l
 have hl := RfL.length l
 refine ⟨fun w hw => ?_, fun e => ?_⟩
 ·obtain ⟨t, ht, rfl⟩ : ∃ t, ts[i]? = some t ∧ W.t t = w := by simpa using hw
  obtain ⟨v, hv, rv⟩ := RfL.get l' ht
  cases kd with
  | l => exact ⟨⟨vs, v, q, hv⟩, fun x H' y => ⟨s', y.1.symm, rfl, Aft.refl _, R', by
    have := y.2 vs q
    rw [hv] at this
    cases this
    exact rv⟩⟩
  | t => exact ⟨⟨vs, v, q, hv⟩, fun x H' y => ⟨s', y.1.symm, rfl, Aft.refl _, R', by
    have := y.2 vs q
    rw [hv] at this
    cases this
    exact rv⟩⟩
 ·cases kd with
  | l => exact ⟨vs, q, by rw [e, List.length_map, hl]; exact Nat.le_refl _⟩
  | t => exact ⟨vs, q, by rw [e, List.length_map, hl]; exact Nat.le_refl _⟩
theorem src_rng (lo : Int) (n : Nat) : SrcF K ω s ((List.range n).map fun i => W.t (.int (lo + (i : Nat)))) (Itr lo n) := by
 intro s' A' R' i
 refine ⟨fun w hw => ?_, fun e => ?_⟩
 ·have hi : i < n := by
   have := (List.getElem?_eq_some_iff.mp hw).1
   simpa using this
  refine ⟨hi, fun x H' y => ⟨s', y.1.symm, rfl, Aft.refl _, R', ?_⟩⟩
  have e : W.t (.int (lo + (i : Nat))) = w := by
   rw [List.getElem?_map, List.getElem?_range hi] at hw
   simpa using hw
  subst e
  simp only [Rw, Rf]
  exact y.2
 ·show n ≤ i
  rw [e]
  simp
/-- enumerate -/
def enumT : Nat → List T → List W
 | _, [] => []
 | i, t :: ts => .t (.pr [.int (i : Nat), t]) :: enumT (i + 1) ts
theorem enumT_get : ∀ (ts : List T) (j i : Nat), (enumT j ts)[i]? = (ts[i]?).map fun t => W.t (.pr [.int ((j + i : Nat)), t])
 | [], _, i => by simp [enumT]
 | t :: ts, j, 0 => by simp [enumT]
 | t :: ts, j, i + 1 => by
  simp only [enumT, List.getElem?_cons_succ]
  rw [enumT_get ts (j + 1) i, show j + 1 + i = j + (i + 1) by omega]
theorem enumT_length : ∀ (ts : List T) (j : Nat), (enumT j ts).length = ts.length
 | [], _ => rfl
 | t :: ts, j => by simp [enumT, enumT_length ts]
theorem src_en (R : Rel K ω s) {kd : Kd} {a : Addr} {ts : List T} (h : FSq K ω s kd a ts) : SrcF K ω s (enumT 0 ts) (ItEn K kd a) := by
 obtain ⟨vs, _, l, st⟩ := h
 intro s' A' R' i
 have q := st s' A' R'
 have l' := RfL.aft A' R _ _ l
 have hl := RfL.length l
 refine ⟨fun w hw => ?_, fun e => ⟨vs, q, by rw [e, enumT_length, hl]⟩⟩
 rw [enumT_get, Option.map_eq_some_iff] at hw
 obtain ⟨t, ht, rfl⟩ := hw
 obtain ⟨v, hv, rv⟩ := RfL.get l' ht
 refine ⟨⟨vs, v, q, hv⟩, fun x H' y => ?_⟩
 obtain ⟨p, x', ex, np, eH, hx⟩ := y
 have ev : x' = v := Option.some.inj ((hx vs q).symm.trans hv)
 subst ex eH ev
 refine ⟨s'.addF p (.tup [.int (i : Nat), x']), rfl, rfl, zbs R' np, zcd R' np, addF_pr R' np ?_⟩
 rw [Nat.zero_add]
 exact ⟨_, _, rfl, by simp [Rf], x', [], rfl, rv, by simp [RfL]⟩
/-- zip -/
def zipT : List T → List T → List W
 | t :: ts, u :: us => .t (.pr [t, u]) :: zipT ts us
 | _, _ => []
/-- a text, sign by sign -/
def signs (x : Str) : List W := x.cps.toList.map fun c => .t Ycn
theorem src_str (x : Str) : SrcF K ω s (signs x) (Its x) := by
 intro s' A' R' i
 refine ⟨fun w hw => ?_, fun e => ?_⟩
 ·unfold signs at hw
  rw [List.getElem?_map, Option.map_eq_some_iff] at hw
  obtain ⟨c, hc, rfl⟩ := hw
  have hc' : x.cps[i]? = some c := by simpa using hc
  refine ⟨(Array.getElem?_eq_some_iff.mp hc').1, fun v H' y => ⟨s', y.1.symm, rfl, Aft.refl _, R', ?_⟩⟩
  obtain ⟨_, c', h1, h2⟩ := y
  rw [hc'] at h1
  cases h1
  simp only [Rw, Rf]
  exact h2
 ·show x.cps.size ≤ i
  rw [e]
  simp [signs]
end
def rng1 (ws : List W) (hp : IH) : Res (List W) := match ws with
 | [.t (.int j)] => if -(2 ^ 62) ≤ j ∧ j < 2 ^ 62 then .ok ((List.range j.toNat).map fun i => W.t (.int (0 + (i : Nat)))) hp else .bad
 | _ => .bad
def rng2 (ws : List W) (hp : IH) : Res (List W) := match ws with
 | [.t (.int i), .t (.int j)] => if -(2 ^ 62) ≤ i ∧ i < 2 ^ 62 ∧ -(2 ^ 62) ≤ j ∧ j < 2 ^ 62 then .ok Yh8 hp else .bad
 | _ => .bad
def enum1 (ws : List W) (hp : IH) : Res (List W) := match ws with
 | [a] => (match seqT a with | some ts => .ok (enumT 0 ts) hp | none => .bad)
 | _ => .bad
def zip2 (ws : List W) (hp : IH) : Res (List W) := match ws with
 | [a, b] => (match seqT a, seqT b with | some ts, some us => .ok (zipT ts us) hp | _, _ => .bad)
 | _ => .bad
def sqI (a : W) (hp : IH) : Res (List W) := match seqT a with | some ts => .ok Yr hp | none => .bad
def strI (a : W) (hp : IH) : Res (List W) := match a with | .t (.str x) => .ok (signs x) hp | _ => .bad
def mSq (F : M W) : M (List W) := fun eta hp => (F eta hp).bind sqI
def mStrI (F : M W) : M (List W) := fun eta hp => (F eta hp).bind strI
def mSrc (f : List W → IH → Res (List W)) (Fs : M (List W)) : M (List W) := fun eta hp => (Fs eta hp).bind f
section
variable {X : Cx} {Wx : WX} {tg a b e : Expr} {F : M W} {Fs : M (List W)} {p pos tpos : Pos} {elts : List Expr} {kk : Nat}
theorem Go.src {s : S4} {ws : List W} {J : It} {Q : It → Hp → Prop} (R : Rel X.K X.w s) (g : Go X.K X.w Wx (SrcF X.K X.w) s (.ok ws s.hp) Q) (h : SrcF X.K X.w s ws J) : Q J s.H := g J s rfl Ym R h
/-- a list or a tuple -/
theorem zd0 (he : IE X Wx e F) : II X Wx tg e (mSq F) := PI.imp (pi_sq he) fun σ H Q h =>
 tM.bind1 (R := fun (x : V) (H1 : Hp) => ∃ kd a xs, x = .ref a ∧ Sq X.K H1 kd a xs ∧ Q (ItQ X.K kd a) H1) (k := fun (a : W) _ h1 => sqI a h1) h fun s eta w v R1 S1 f1 g => by
  unfold sqI at g
  cases hq : seqT w with
  | none => simp only [hq] at g; exact g.elim
  | some ts =>
   simp only [hq] at g
   obtain ⟨kd, a, ev, fs⟩ := fsq R1 hq f1
   exact ⟨kd, a, _, ev, fs.choose_spec.1, Go.src R1 g (src_sq R1 fs)⟩
theorem ii_str (he : IE X Wx e F) : II X Wx tg e (mStrI F) := PI.imp (pi_str he) fun σ H Q h =>
 tM.bind1 (R := fun (x : V) (H1 : Hp) => ∃ z, x = .str z ∧ Q (Its z) H1) (k := fun (a : W) _ h1 => strI a h1) h fun s eta w v R1 S1 f1 g => by
  unfold strI at g
  split at g
  ·rename_i x
   simp only [Rw, Rf] at f1
   exact ⟨x, f1, Go.src R1 g (src_str x)⟩
  ·exact g.elim
theorem rwl1 {K : PySem.W.Frag} {s : S4} {a : W} {vs : List V} (h : RwL K s [a] vs) : ∃ v, vs = [v] ∧ Rw K s a v := by
 obtain ⟨v, r, e, q, n⟩ := h
 rw [show r = [] from n] at e
 exact ⟨v, e, q⟩
theorem ii_rng1 (hg : Gl X "range") (hm : X.mg "range" = none) (ha : IA X Wx [a] Fs) (hs : starEach [a] X.env = [(false, eval a X.env)] := by rfl) : II X Wx tg (.Call (.Name "range" p) [a] [] pos) (mSrc rng1 Fs) := PI.imp (pi_range1 hg hm ha hs) fun σ H Q h =>
 tM.bind1 (R := fun (vs : List V) (H1 : Hp) => ∃ j : Int, vs = [.int j] ∧ -(2 ^ 62) ≤ j ∧ j < 2 ^ 62 ∧ Q (Itr 0 j.toNat) H1) (k := fun (ws : List W) _ h1 => rng1 ws h1) h fun s eta ws vs R1 S1 f1 g => by
  unfold rng1 at g
  split at g
  ·rename_i j
   split at g
   ·rename_i hj
    obtain ⟨v, ev, rv⟩ := rwl1 f1
    simp only [Rw, Rf] at rv
    subst rv
    exact ⟨j, ev, hj.1, hj.2, Go.src R1 g (src_rng 0 _)⟩
   ·exact g.elim
  ·exact g.elim
theorem ii_en (hg : Gl X "enumerate") (hm : X.mg "enumerate" = none) (ha : IA X Wx [a] Fs) (hs : starEach [a] X.env = [(false, eval a X.env)] := by rfl) : II X Wx (.Tuple elts kk tpos) (.Call (.Name "enumerate" p) [a] [] pos) (mSrc enum1 Fs) := PI.imp (pi_en hg hm ha hs) fun σ H Q h =>
 tM.bind1 (R := fun (vs : List V) (H1 : Hp) => ∃ kd a xs, vs = [.ref a] ∧ Sq X.K H1 kd a xs ∧ Q (ItEn X.K kd a) H1) (k := fun (ws : List W) _ h1 => enum1 ws h1) h fun s eta ws vs R1 S1 f1 g => by
  unfold enum1 at g
  split at g
  ·rename_i w
   cases hq : seqT w with
   | none => simp only [hq] at g; exact g.elim
   | some ts =>
    simp only [hq] at g
    obtain ⟨v, ev, rv⟩ := rwl1 f1
    obtain ⟨kd, a, ev2, fs⟩ := fsq R1 hq rv
    subst ev2
    exact ⟨kd, a, _, ev, fs.choose_spec.1, Go.src R1 g (src_en R1 fs)⟩
  ·exact g.elim
end
section
variable {X : Cx} {Wx : WX} {elt tg iter : Expr} {ifs : List Expr} {scope : Scope} {own : List (Str × Nat)} {Fi : M (List W)} {pos : Pos} {g : TG} {G : W → IS → Option IS} {vs : List Nat} {tt : TT} {T : M Bool} {E : M W} {fin : OpN}
def mYes : M Bool := fun _ hp => .ok true hp
/-- a clause's tests -/
def ITs (X : Cx) (ifs : List Expr) (T : M Bool) : Prop := PTs X ifs (tT X.K X.w W0 T)
theorem PTs.imp {t t' : TT} (h : PTs X ifs t) (i : ∀ σ H Q, t' σ H Q → t σ H Q) : PTs X ifs t' := ⟨fun pins s σ H Q I hw => h.run pins s σ H Q I Yg5⟩
theorem zch : ITs X [] mYes := PTs.imp pts_nil fun σ H Q h => by
 obtain ⟨s, eta, e1, R1, S1, g⟩ := h
 subst e1
 exact g true s rfl Ym R1 rfl
theorem its_one {c : Expr} (h : IT X W0 c T) : ITs X [c] T := pts_one h
theorem zcc (hc : X.calm = true) (hN : X.N.Nodup) (hi : II X Wx tg iter Fi) (ok : BlkOk X.N X.env.scope scope own)
  (hg : ∀ (s : Shared) (H : Hp) (C : Addr) (cl : List (Str × Addr)) (fp : List Addr), PG Ya0 tg g) (tok : TgOk X.K X.w g G vs)
  (ht : ∀ (s : Shared) (H : Hp) (C : Addr) (cl : List (Str × Addr)) (fp : List Addr), ITs Ya0 ifs T)
  (he : ∀ (s : Shared) (H : Hp) (C : Addr) (cl : List (Str × Addr)) (fp : List Addr), IE Ya0 W0 elt E) (hf : FinOk X.K X.w Wx fin) (hv : ∀ i ∈ vs, i ∈ own.map (·.2) := by decide) (hs : ∀ x, foldedSetIterable iter X.env x = pure x := by intro _; rfl) :
  IE X Wx Yfe (zbq fin Fi G T E (own.map (·.2))) := PE.imp (pe_lc (tt := tT X.K X.w W0 T) (te := tE X.K X.w W0 E) hc hN hi ok hg ht he hs) (t_comp _ tok hv hf)
theorem st_comp {i : Nat} {y : Str} {py spos : Pos} (hc : X.calm = true) (hN : X.N.Nodup) (hy : X.N[i]? = some y) (hyl : X.env.scope.names.lookup y = some .local)
  (hsw : swapsWith Yfe (some (.Name y py)) spos.line X.env = pure true) (hi : II X Wx tg iter Fi) (ok : BlkOk X.N X.env.scope scope own)
  (hg : ∀ (s : Shared) (H : Hp) (C : Addr) (cl : List (Str × Addr)) (fp : List Addr), PG Ya0 tg g) (tok : TgOk X.K X.w g G vs)
  (ht : ∀ (s : Shared) (H : Hp) (C : Addr) (cl : List (Str × Addr)) (fp : List Addr), ITs Ya0 ifs T)
  (he : ∀ (s : Shared) (H : Hp) (C : Addr) (cl : List (Str × Addr)) (fp : List Addr), IE Ya0 W0 elt E) (hf : FinOk X.K X.w Wx fin) (hv : ∀ i ∈ vs, i ∈ own.map (·.2) := by decide) (hs : ∀ x, foldedSetIterable iter X.env x = pure x := by intro _; rfl) :
  ISt X Wx (.Assign [.Name y py] Yfe spos) (mSet i (zbq fin Fi G T E (own.map (·.2)))) := PS.imp (ps_setLc (tt := tT X.K X.w W0 T) (te := tE X.K X.w W0 E) hc hN hy hyl hsw hi ok hg ht he hs) fun D σ H h => by
 have h' : tE X.K X.w Wx (zbq fin Fi G T E (own.map (·.2))) σ H (fun x H1 => D.nx (σ.set i (some x)) H1) :=
  tM.bind1 (R := fun (y : V) (H1 : Hp) => D.nx (σ.set i (some y)) H1) (k := fun (a : W) eta hp => .ok (Fl.nx Yfu) hp) h fun s eta a b R1 S1 f1 g1 => Go.nx R1 (S1.set i f1) g1
 exact t_comp _ tok hv hf σ H _ h'
end
/-- a def's function: its body at its parameters; a live result may not be younger than the call -/
def fnM (n nn : Nat) (B : M Fl) : OpN := fun ws hp => if ws.length = n then (match B Yfz hp with
  | .ok (.rt w) h => .ok w h
  | .ok (.nx _) h => .ok Ybh h
  | .er e _ h => .er e [] h
  | _ => .bad) else .bad
/-- .. of trees alone: its own cells are dropped -/
def fnP (n nn : Nat) (B : M Fl) : OpN := fun ws hp => if ws.length = n ∧ (allT ws).isSome = true then (match B Yfz [] with
  | .ok (.rt (.t x)) _ => .ok (.t x) hp
  | .ok (.nx _) _ => .ok Ybh hp
  | _ => .bad) else .bad
/-- the promise made of a function -/
def spM (K : PySem.W.Frag) (ω : World) (f : OpN) (n : Nat) : Sp := fun vs H Q _ => ∃ (s : S4) (ws : List W), s.H = H ∧ Rel K ω s ∧ RwL K s ws vs ∧ ws.length = n ∧ Go K ω W0 (Rw K) s (noEr (f ws s.hp)) Q
section
variable {K : PySem.W.Frag} {ω : World}
theorem spM_len {f : OpN} {n : Nat} {vs : List V} {H : Hp} {Q : VK} {E : XK} (h : spM K ω f n vs H Q E) : vs.length = n := by
 obtain ⟨s, ws, _, _, l, e, _⟩ := h
 rw [← RwL.length l, e]
theorem sl_start {s : S4} {N : List Str} {ws : List W} {vs : List V} (l : RwL K s ws vs) : Sl K s (ws.map some ++ List.replicate (N.length - ws.length) none) (L2.start N vs) := by
 have hl := RwL.length l
 refine ⟨by simp [L2.start, hl], fun i w e => ?_⟩
 by_cases hi : i < ws.length
 ·rw [List.getElem?_append_left (by simpa using hi), List.getElem?_map] at e
  cases q : ws[i]? with
  | none => rw [q] at e; cases e
  | some w' =>
   rw [q] at e
   cases e
   obtain ⟨v, h1, h2⟩ := RwL.get l q
   refine ⟨v, ?_, h2⟩
   unfold L2.start
   rw [List.getElem?_append_left (by rw [List.length_map, ← hl]; exact hi), List.getElem?_map, h1]
   rfl
 ·rw [List.getElem?_append_right (by simpa using hi), List.getElem?_replicate] at e
  split at e <;> cases e
/-- a run over the caller's heap without its cells -/
def S4.bare (s : S4) : S4 := ⟨[], s.fz, [], s.H⟩
theorem rel_bare {s : S4} (R : Rel K ω s) : Rel K ω s.bare := ⟨rfl, List.nodup_nil, fun a m => absurd m (by simp [S4.bare]), R.ftrk, fun a l => by obtain ⟨i, c, e, _⟩ := l; simp [S4.bare] at e, fun i c a e => by simp [S4.bare] at e⟩
theorem Rf.bare {s : S4} {x : T} {v : V} (h : Rw K s (.t x) v) : Rw K s.bare (.t x) v := h
theorem aft_bare {s s' : S4} (R : Rel K ω s) (A : Aft s.bare s') : Aft s ⟨s.rho, s'.fz, s.hp, s'.H⟩ ∧ (Rel K ω s' → Rel K ω ⟨s.rho, s'.fz, s.hp, s'.H⟩) := by
 have nl : ∀ a, ¬ Live s.bare a := fun a l => by obtain ⟨i, c, e, _⟩ := l; simp [S4.bare] at e
 have A1 : Aft s ⟨s.rho, s'.fz, s.hp, s'.H⟩ := by
  refine ⟨⟨[], by simp, by simp⟩, A.fz, fun a o e _ => A.keep a o e (nl a), fun a f => ?_, fun a l => .inl l, A.trk⟩
  rcases A.fnew a f with f | f | f
  ·exact .inl f
  ·exact .inr (.inl f)
  ·exact (nl a f).elim
 refine ⟨A1, fun R' => ⟨R.len, R.nd, fun a m => A.trk a (R.trk a m), R'.ftrk, fun a l f => ?_, fun i c a e1 e2 => ?_⟩⟩
 ·rcases A.fnew a f with f | f | f
  ·exact R.fz a l f
  ·obtain ⟨i, c, e1, e2⟩ := l
   exact R.liveH e1.1 e2 f
  ·exact nl a f
 ·have q := R.cell i c a e1 e2
  have ha : s.H a ≠ none := R.liveH e1 e2
  cases hq : s.H a with
  | none => exact absurd hq ha
  | some o =>
   show CellOk K ω _ a c (s'.H a)
   rw [A.keep a o hq (nl a), ← hq]
   exact q.aft A1 R
variable {P : Program} {w : World} {mg : Str → Option Value} {base : Heap}
theorem okM {x qual : Str} {st : Stmt} {f : Addr} {fd : FuncData} {N ps : List Str} {k : Nat} {B : M Fl} {dfs : List V} {kws : List Yfi} (F : FunD K x qual (defArgs st) Yir Yde dfs kws f fd) (S : FnScope N ps Yde)
  (hb : ∀ (cdv : Value) (A : Around) (outer : List Env) (s : Shared) (H : Hp) (E : XK), Room k Ybs → A.guards = some [] → ISs (cxOf Yn P w K mg base N qual Yde f cdv A outer s H E).nox W0 Yir B) :
  FnG P w K mg base Yn (k + 1) f fd ps (spM K w (fnM ps.length N.length B) ps.length) := by
 refine Fun.okG F S (fun vs H Q E h => spM_len h) fun cdv A outer s H vs Q E hr hgd h => ⟨_, PSs.nox (hb cdv A outer s H E hr hgd), ?_⟩
 obtain ⟨s0, ws, e1, R1, l, el, g⟩ := h
 refine ⟨s0, _, e1, R1, sl_start l, ?_⟩
 unfold fnM at g
 rw [if_pos el] at g
 rw [el]
 cases hB : B (ws.map some ++ List.replicate (N.length - ps.length) none) s0.hp with
 | ok fl hp =>
  rw [hB] at g
  cases fl with
  | rt wr => exact fun b s' h1 h2 h3 h4 => by cases b <;> first | exact h4.elim | exact g _ s' h1 h2 h3 h4
  | nx e => exact fun b s' h1 h2 h3 h4 => by cases b <;> first | exact h4.elim | exact g .non s' h1 h2 h3 (by simp [Rw, Rf])
  | bk e => exact g.elim
  | ct e => exact g.elim
 | er e eta hp => rw [hB] at g; exact g.elim
 | bad => rw [hB] at g; exact g.elim
theorem okP {x qual : Str} {st : Stmt} {f : Addr} {fd : FuncData} {N ps : List Str} {k : Nat} {B : M Fl} {dfs : List V} {kws : List Yfi} (F : FunD K x qual (defArgs st) Yir Yde dfs kws f fd) (S : FnScope N ps Yde)
  (hb : ∀ (cdv : Value) (A : Around) (outer : List Env) (s : Shared) (H : Hp) (E : XK), Room k Ybs → A.guards = some [] → ISs (cxOf Yn P w K mg base N qual Yde f cdv A outer s H E).nox W0 Yir B) :
  FnG P w K mg base Yn (k + 1) f fd ps (spM K w (fnP ps.length N.length B) ps.length) := by
 refine Fun.okG F S (fun vs H Q E h => spM_len h) fun cdv A outer s H vs Q E hr hgd h => ⟨_, PSs.nox (hb cdv A outer s H E hr hgd), ?_⟩
 obtain ⟨s0, ws, e1, R1, l, el, g⟩ := h
 unfold fnP at g
 cases ht : allT ws with
 | none => simp only [ht, Option.isSome_none, Bool.false_eq_true, and_false, if_false] at g; exact g.elim
 | some ts =>
  rw [if_pos ⟨el, by rw [ht]; rfl⟩] at g
  have lb : RwL K s0.bare ws vs := by
   rw [zcu ht] at l ⊢
   exact (RwL.of_trees (s := s0.bare)).mpr ((RwL.of_trees (s := s0)).mp l)
  refine ⟨s0.bare, _, e1, rel_bare R1, sl_start lb, ?_⟩
  rw [el]
  show Go K w W0 (RFl K) s0.bare (B _ []) _
  cases hB : B (ws.map some ++ List.replicate (N.length - ps.length) none) [] with
  | ok fl hp =>
   rw [hB] at g
   cases fl with
   | rt wr =>
    cases wr with
    | t y =>
     intro b s' h1 h2 h3 h4
     cases b <;> first | exact h4.elim | exact g _ ⟨s0.rho, s'.fz, s0.hp, s'.H⟩ rfl (aft_bare R1 h2).1 ((aft_bare R1 h2).2 h3) h4
    | r i => exact g.elim
   | nx e =>
    intro b s' h1 h2 h3 h4
    cases b <;> first | exact h4.elim | exact g .non ⟨s0.rho, s'.fz, s0.hp, s'.H⟩ rfl (aft_bare R1 h2).1 ((aft_bare R1 h2).2 h3) (by simp [Rw, Rf])
   | bk e => exact g.elim
   | ct e => exact g.elim
  | er e eta hp => rw [hB] at g; exact g.elim
  | bad => rw [hB] at g; exact g.elim
end
theorem zbk {n nn : Nat} {B : M Fl} : ∀ ws hp, ws.length ≠ n → fnM n nn B ws hp = .bad := fun ws hp h => by unfold fnM; rw [if_neg h]
theorem zbc {n nn : Nat} {B : M Fl} : ∀ ws hp, ws.length ≠ n → fnP n nn B ws hp = .bad := fun ws hp h => by unfold fnP; rw [if_neg fun z => h z.1]
/-- f(e, ..), then the defaults -/
def zaq (f : OpN) (ds : List T) (Fs : M (List W)) : M W := fun eta hp => (Fs eta hp).bind fun ws h1 => noEr (f (ws ++ ds.map W.t) h1)
section
variable {X : Cx} {Wx : WX} {k : Nat} {f : Addr} {fd : FuncData} {ps : List Str} {m : OpN} {n : Nat} {x : Str} {p pos : Pos} {e : Expr} {es : List Expr} {Fs : M (List W)} {dvs : List V} {ds : List Value} {dts : List T}
theorem zap (Fk : FnG X.prog X.w X.K X.mg X.base Ydf k f fd ps Yf0) (hr : Room k X.A) (hgd : X.A.guards = some []) (hg : Gl X x) (hm : X.mg x = some (.ref f)) (hk : PySem.W.keepIn X.K (.ref f) = true) (hb : Binds X.K fd ps ds) (hd : Vals dvs ds) (hdt : ∀ s, RwL X.K s (dts.map W.t) dvs) (hl : ∀ ws hp, ws.length ≠ n → m ws hp = .bad) (ha : IA X Wx Yal Fs)
  (hdb : (x == ("__debug__" : Str)) = false := by decide) (he : starEach Yal X.env = (false, eval e X.env) :: starEach es X.env := by rfl) (hpl : (backTo pos Ybq).any (·.1) = false := by rfl) : IE X Wx Yah (zaq m dts Fs) :=
 PE.imp (pe_callG Fk hr hgd hg hm hk hb hd passL ha hdb he hpl) fun σ H Q h =>
  tM.bind1 (R := fun (vs : List V) (H1 : Hp) => spM X.K X.w m n (vs ++ dvs) H1 Q E0) (k := fun (ws : List W) _ h1 => noEr (m (ws ++ dts.map W.t) h1)) h fun s eta ws vs R1 S1 f1 g => by
   refine ⟨s, ws ++ dts.map W.t, rfl, R1, RwL.append f1 (hdt s), ?_, ?_⟩
   ·by_cases e : (ws ++ dts.map W.t).length = n
    ·exact e
    ·rw [hl _ _ e] at g; exact g.elim
   ·cases hq : m (ws ++ dts.map W.t) s.hp with
    | ok a h => rw [hq] at g; exact g
    | er e eta h => rw [hq] at g; exact g.elim
    | bad => rw [hq] at g; exact g.elim
end
end Mir
namespace Mir
open PySem PySem.Spec L2
open PyProof.Rows hiding St
def opI (C : Int → Int → Bool) (g : Int → Int → Int) : Op2 := fun a b hp => match a, b with
 | .t (.int i), .t (.int j) => if C i j = true then .ok (.t (.int (g i j))) hp else .bad
 | _, _ => .bad
def opC (g : Int → Int → Bool) : Op2 := fun a b hp => match a, b with
 | .t (.int i), .t (.int j) => .ok (.t (.bl (g i j))) hp
 | _, _ => .bad
def cYes : Int → Int → Bool := fun _ _ => true
def cMul : Int → Int → Bool := fun i j => decide (i.natAbs.log2 + j.natAbs.log2 < 1000000)
def cDiv : Int → Int → Bool := fun _ j => decide (0 < j ∧ j.natAbs.log2 < 9000)
def cMod : Int → Int → Bool := fun _ j => decide (0 < j)
def cPow : Int → Int → Bool := fun i j => decide (0 ≤ j ∧ j ≤ 1000000 ∧ i.natAbs < 2 ^ 64)
section
variable {K : PySem.W.Frag} {ω : World} {Wx : WX}
theorem ok_opI {C : Int → Int → Bool} {g : Int → Int → Int} {P : Int → Int → Prop} (h : ∀ i j, C i j = true → P i j) : zec K ω Wx (opI C g) (rI P fun i j => .int (g i j)) := by
 intro s a b x y Q R ra rb go
 unfold opI at go
 split at go
 ·rename_i i j
  split at go
  ·rename_i hc
   simp only [Rw, Rf] at ra rb
   exact ⟨i, j, ra, rb, h i j hc, go _ s rfl Ym R Yl⟩
  ·exact go.elim
 ·exact go.elim
theorem ok_opI0 {g : Int → Int → Int} : zec K ω Wx (opI cYes g) (rI0 fun i j => .int (g i j)) := by
 intro s a b x y Q R ra rb go
 unfold opI at go
 split at go
 ·rename_i i j
  rw [if_pos (show cYes i j = true from rfl)] at go
  simp only [Rw, Rf] at ra rb
  exact ⟨i, j, ra, rb, go _ s rfl Ym R Yl⟩
 ·exact go.elim
theorem ok_opC {g : Int → Int → Bool} : zec K ω Wx (opC g) (rI0 fun i j => .bl (g i j)) := by
 intro s a b x y Q R ra rb go
 unfold opC at go
 split at go
 ·rename_i i j
  simp only [Rw, Rf] at ra rb
  exact ⟨i, j, ra, rb, go _ s rfl Ym R Yl⟩
 ·exact go.elim
end
abbrev iSub : Op2 := opI cYes fun i j => i - j
abbrev iDiv : Op2 := opI cDiv fun i j => i / j
abbrev iMod : Op2 := opI cMod fun i j => i % j
abbrev iPow : Op2 := opI cPow fun i j => i ^ j.toNat
abbrev iLe : Op2 := opC fun i j => decide (i ≤ j)
abbrev iGt : Op2 := opC fun i j => decide (j < i)
abbrev iGe : Op2 := opC fun i j => decide (j ≤ i)
section
variable {X : Cx} {Wx : WX} {a b c e : Expr} {Fa Fb Fc F : M W} {pos : Pos}
theorem ie_sub (ha : IE X Wx a Fa) (hb : IE X Wx b Fb) : IE X Wx (.BinOp a .Sub b pos) (mBin iSub Fa Fb) := ie_bin op_sub ok_opI0 ha hb
theorem ie_div (ha : IE X Wx a Fa) (hb : IE X Wx b Fb) : IE X Wx (.BinOp a .FloorDiv b pos) (mBin iDiv Fa Fb) := ie_bin op_fdivW (ok_opI fun i j h => by simpa [cDiv, CDivW] using h) ha hb
theorem ie_mod (ha : IE X Wx a Fa) (hb : IE X Wx b Fb) : IE X Wx (.BinOp a .Mod b pos) (mBin iMod Fa Fb) := ie_bin op_mod (ok_opI fun i j h => by simpa [cMod] using h) ha hb
theorem ie_pow (ha : IE X Wx a Fa) (hb : IE X Wx b Fb) : IE X Wx (.BinOp a .Pow b pos) (mBin iPow Fa Fb) := ie_bin op_pow (ok_opI fun i j h => by simpa [cPow, CPow] using h) ha hb
theorem it_gt (ha : IE X Wx a Fa) (hb : IE X Wx b Fb) : IT X Wx (.Compare a [.Gt] [b] pos) (zae asB (mBin iGt Fa Fb)) := it_cmp op_gt ok_opC ha hb (nomark _)
theorem it_ge (ha : IE X Wx a Fa) (hb : IE X Wx b Fb) : IT X Wx (.Compare a [.GtE] [b] pos) (zae asB (mBin iGe Fa Fb)) := it_cmp op_ge ok_opC ha hb (nomark _)
def iNeg : Op1 := fun a hp => match a with | .t (.int i) => .ok (.t (.int (-i))) hp | _ => .bad
theorem ie_neg (ha : IE X Wx a Fa) : IE X Wx (.UnaryOp .USub a pos) (mUn iNeg Fa) := ie_un un_neg (fun s a x Q R ra go => by
 unfold iNeg at go
 split at go
 ·simp only [Rw, Rf] at ra
  exact ⟨_, ra, go _ s rfl Ym R Yl⟩
 ·exact go.elim) ha
end
def eqW (neg : Bool) : Op2 := fun a b hp => match asT hp a, asT hp b with
 | some x, some y => if fit x 60 = true ∧ fit y 60 = true then .ok (.t (.bl (if neg then !eqT x y else eqT x y))) hp else .bad
 | _, _ => .bad
def isN (neg : Bool) : Op2 := fun a b hp => match b with
 | .t .non => (match a with
  | .t .non => .ok (.t (.bl (!neg))) hp
  | _ => .ok (.t (.bl neg)) hp)
 | _ => .bad
def isB (neg : Bool) : Op2 := fun a b hp => match a, b with
 | .t (.bl i), .t (.bl j) => .ok Yje hp
 | _, _ => .bad
def inW (neg : Bool) : Op2 := fun a b hp => match asT hp a, (items hp b).bind allT with
 | some x, some ys => if fit x 60 = true ∧ fitL ys 60 = true then .ok (.t (.bl (if neg then !(ys.any fun y => eqT y x) else ys.any fun y => eqT y x))) hp else .bad
 | _, _ => .bad
section
variable {K : PySem.W.Frag} {ω : World} {Wx : WX}
theorem ok_eq : zec K ω Wx Ys (rEqP K) := by
 intro s a b x y Q R ra rb go
 unfold eqW at go
 cases h1 : asT s.hp a with
 | none => simp only [h1] at go; exact go.elim
 | some u =>
  cases h2 : asT s.hp b with
  | none => simp only [h1, h2] at go; exact go.elim
  | some v =>
   simp only [h1, h2] at go
   split at go
   ·rename_i hf
    have p1 := zef u 60 hf.1
    have p2 := zef v 60 hf.2
    refine ⟨dat u, dat v, asT_dp R h1 ra hf.1, asT_dp R h2 rb hf.2, p1.1, p2.1, p1.2, ?_⟩
    rw [eqT_dat u v 60 60 hf.1 hf.2]
    exact go _ s rfl Ym R Yl
   ·exact go.elim
theorem ok_ne : zec K ω Wx Yv (rNeP K) := by
 intro s a b x y Q R ra rb go
 unfold eqW at go
 cases h1 : asT s.hp a with
 | none => simp only [h1] at go; exact go.elim
 | some u =>
  cases h2 : asT s.hp b with
  | none => simp only [h1, h2] at go; exact go.elim
  | some v =>
   simp only [h1, h2] at go
   split at go
   ·rename_i hf
    have p1 := zef u 60 hf.1
    have p2 := zef v 60 hf.2
    refine ⟨dat u, dat v, asT_dp R h1 ra hf.1, asT_dp R h2 rb hf.2, p1.1, p2.1, p1.2, ?_⟩
    rw [eqT_dat u v 60 60 hf.1 hf.2]
    exact go _ s rfl Ym R Yl
   ·exact go.elim
theorem rf_non {s : S4} {w : W} {v : V} (r : Rw K s w v) : (v = .non ↔ w = .t .non) := by
 cases w with
 | r i => obtain ⟨a, _, e⟩ := r; subst e; simp
 | t x =>
  cases x <;> simp only [Rw, Rf] at r <;> first
   | (subst r; simp)
   | (obtain ⟨a, _, e, _⟩ := r; subst e; simp)
   | (obtain ⟨a, _, _, e, _⟩ := r; subst e; simp)
   | (obtain ⟨a, e, _⟩ := r; subst e; simp)
   | exact r.elim
theorem ok_isN : zec K ω Wx (isN false) (fun x y H Q => y = .non ∧ Q (.bl (decide (x = .non))) H) := by
 intro s a b x y Q R ra rb go
 unfold isN at go
 split at go
 ·refine ⟨by simpa only [Rw, Rf] using rb, ?_⟩
  split at go
  ·have e : x = .non := by simpa only [Rw, Rf] using ra
   rw [decide_eq_true e]
   exact go _ s rfl Ym R Yl
  ·rename_i hn
   have e : ¬ x = .non := fun e => hn ((rf_non ra).mp e)
   rw [decide_eq_false e]
   exact go _ s rfl Ym R Yl
 ·exact go.elim
theorem ok_notN : zec K ω Wx Yis (fun x y H Q => y = .non ∧ Q (.bl (!decide (x = .non))) H) := by
 intro s a b x y Q R ra rb go
 unfold isN at go
 split at go
 ·refine ⟨by simpa only [Rw, Rf] using rb, ?_⟩
  split at go
  ·have e : x = .non := by simpa only [Rw, Rf] using ra
   rw [decide_eq_true e]
   exact go _ s rfl Ym R Yl
  ·rename_i hn
   have e : ¬ x = .non := fun e => hn ((rf_non ra).mp e)
   rw [decide_eq_false e]
   exact go _ s rfl Ym R Yl
 ·exact go.elim
theorem items_dp {s : S4} (R : Rel K ω s) {w : W} {v : V} {ys : List T} {n : Nat} (h : (items s.hp w).bind allT = some ys) (r : Rw K s w v) (f : fitL ys n = true) : Dp K s.H v (.list (datL ys)) ∨ Dp K s.H v (.tuple (datL ys)) := by
 rw [Option.bind_eq_some_iff] at h
 obtain ⟨ws, h1, h2⟩ := h
 obtain ⟨p, xs, e, q, l⟩ := items_sq R h1 r
 subst e
 rw [zcu h2] at l
 have d := RfL.dp ys xs n f Ye6
 rcases q with q | q
 ·exact .inr (.tup q d)
 ·exact .inl (.lst q d)
theorem any_dat {x : T} {n m : Nat} (fx : fit x n = true) : ∀ (ys : List T), fitL ys m = true → (datL ys).any (fun z => PyData.eqv z (dat x)) = ys.any fun y => eqT y x
 | [], _ => rfl
 | y :: ys, f => by
  simp only [fitL, Bool.and_eq_true] at f
  simp only [datL, List.any_cons, eqT_dat y x m n f.1 fx, any_dat fx ys f.2]
theorem ok_in {neg : Bool} : zec K ω Wx (inW neg) (rInP K neg) := by
 intro s a b x y Q R ra rb go
 unfold inW at go
 cases h1 : asT s.hp a with
 | none => simp only [h1] at go; exact go.elim
 | some u =>
  cases h2 : (items s.hp b).bind allT with
  | none => simp only [h1, h2] at go; exact go.elim
  | some ys =>
   simp only [h1, h2] at go
   split at go
   ·rename_i hf
    have p1 := zef u 60 hf.1
    have p2 := fit_plainL ys 60 hf.2
    refine ⟨dat u, datL ys, asT_dp R h1 ra hf.1, items_dp R h2 rb hf.2, p1.1, p2.1, p1.2, ?_⟩
    rw [any_dat hf.1 ys hf.2]
    exact go _ s rfl Ym R Yl
   ·exact go.elim
end
section
variable {X : Cx} {Wx : WX} {a b c e : Expr} {Fa Fb Fc F : M W} {pos : Pos}
theorem ie_eq (hu : X.A.units + 64 < cLine) (ha : IE X Wx a Fa) (hb : IE X Wx b Fb) : IE X Wx (.Compare a [.Eq] [b] pos) (mBin Ys Fa Fb) := ie_cmp (op_eqP hu) ok_eq ha hb (nomark _)
theorem zd1 (hu : X.A.units + 64 < cLine) (ha : IE X Wx a Fa) (hb : IE X Wx b Fb) : IT X Wx (.Compare a [.Eq] [b] pos) (zae asB (mBin Ys Fa Fb)) := it_cmp (op_eqP hu) ok_eq ha hb (nomark _)
theorem zfa (hu : X.A.units + 64 < cLine) (ha : IE X Wx a Fa) (hb : IE X Wx b Fb) : IT X Wx (.Compare a [.NotEq] [b] pos) (zae asB (mBin Yv Fa Fb)) := it_cmp (op_neP hu) ok_ne ha hb (nomark _)
theorem ie_notN (ha : IE X Wx a Fa) (hb : IE X Wx b Fb) : IE X Wx (.Compare a [.IsNot] [b] pos) (mBin Yis Fa Fb) := ie_cmp op_notN ok_notN ha hb (nomark _)
theorem it_isN (ha : IE X Wx a Fa) (hb : IE X Wx b Fb) : IT X Wx (.Compare a [.Is] [b] pos) (zae asB (mBin (isN false) Fa Fb)) := it_cmp op_isN ok_isN ha hb (nomark _)
theorem it_notN (ha : IE X Wx a Fa) (hb : IE X Wx b Fb) : IT X Wx (.Compare a [.IsNot] [b] pos) (zae asB (mBin Yis Fa Fb)) := it_cmp op_notN ok_notN ha hb (nomark _)
theorem it_in (hu : X.A.units + 64 < cLine) (ha : IE X Wx a Fa) (hb : IE X Wx b Fb) (hm : behindInMarks .In b = false := by rfl) : IT X Wx (.Compare a [.In] [b] pos) (zae asB (mBin (inW false) Fa Fb)) := it_cmp (op_inP hu) ok_in ha hb hm
theorem it_nin (hu : X.A.units + 64 < cLine) (ha : IE X Wx a Fa) (hb : IE X Wx b Fb) (hm : behindInMarks .NotIn b = false := by rfl) : IT X Wx (.Compare a [.NotIn] [b] pos) (zae asB (mBin (inW true) Fa Fb)) := it_cmp (op_ninP hu) ok_in ha hb hm
end
def ixW : Op2 := fun a b hp => match b with
 | .t (.int i) => (match a with
  | .t (.str z) => (match atI z.cps.toList i with | some c => if z.length ≤ 16777216 then .ok (.t Ycn) hp else .bad | none => .bad)
  | a => (match (items hp a).bind fun ws => atI ws i with | some w => .ok w hp | none => .bad))
 | _ => .bad
section
variable {K : PySem.W.Frag} {ω : World} {Wx : WX}
theorem atI_rw {s : S4} {ws : List W} {vs : List V} {i : Int} {w : W} (l : RwL K s ws vs) (h : atI ws i = some w) : ∃ v, atI vs i = some v ∧ Rw K s w v := by
 unfold atI at h ⊢
 rw [Option.bind_eq_some_iff] at h
 obtain ⟨j, h1, h2⟩ := h
 obtain ⟨v, q1, q2⟩ := RwL.get l h2
 exact ⟨v, by rw [← RwL.length l, h1]; exact q1, q2⟩
theorem ok_ix : zec K ω Wx ixW (rIx K) := by
 intro s a b x y Q R ra rb go
 unfold ixW at go
 split at go
 ·rename_i i
  have ey : y = .int i := by simpa only [Rw, Rf] using rb
  split at go
  ·rename_i z
   have ex : x = .str z := by simpa only [Rw, Rf] using ra
   split at go
   ·rename_i c hc
    split at go
    ·rename_i hz
     exact .inr (.inr ⟨z, i, c, ex, ey, by rw [sizeLine_eq]; exact hz, hc, go _ s rfl Ym R Yl⟩)
    ·exact go.elim
   ·exact go.elim
  ·split at go
   ·rename_i w hw
    rw [Option.bind_eq_some_iff] at hw
    obtain ⟨ws, h1, h2⟩ := hw
    obtain ⟨p, xs, e, q, l⟩ := items_sq R h1 ra
    obtain ⟨v, h3, h4⟩ := atI_rw l h2
    rcases q with q | q
    ·exact .inr (.inl ⟨p, xs, i, v, e, ey, q, h3, go _ s rfl Ym R h4⟩)
    ·exact .inl ⟨p, xs, i, v, e, ey, q, h3, go _ s rfl Ym R h4⟩
   ·exact go.elim
 ·exact go.elim
end
section
variable {X : Cx} {Wx : WX} {a b c e : Expr} {Fa Fb Fc F : M W} {pos : Pos}
theorem zal (ha : IE X Wx a Fa) (hb : IE X Wx b Fb) (hs : PlainIx b := by intro _ _; rfl) : IE X Wx (.Subscript a b pos) (mBin ixW Fa Fb) := ie_ix ix_seq ok_ix ha hb hs
end
abbrev MO := M (Option Int)
def zat : MO := fun _ hp => .ok none hp
def zbt (F : M W) : MO := fun eta hp => (F eta hp).bind fun a h1 => match a with | .t (.int i) => .ok (some i) h1 | _ => .bad
def IO (X : Cx) (Wx : WX) (e : Option Expr) (F : MO) : Prop := PO X e (tM X.K X.w Wx Yig F)
def cutL {A : Type} (xs : List A) (lo hi : Option Int) : List A := (xs.drop (HT.sIx xs.length 0 lo)).take (HT.sIx xs.length xs.length hi - HT.sIx xs.length 0 lo)
/-- a slice: of a frozen list a frozen one, of a live list a frozen one -/
def slW (a : W) (lo hi : Option Int) (hp : IH) : Res W := match a with
 | .t (.str z) => if z.length ≤ 16777216 then .ok (.t (.str (cutS z lo hi))) hp else .bad
 | .t (.tup ts) => .ok (.t (.tup Yg6)) hp
 | .t (.lst ts) => .ok (.t (.lst Yg6)) hp
 | .t (.scr ts) => .ok (.t (.lst Yg6)) hp
 | .r i => (match (getL hp i).bind allT with | some ts => .ok (.t (.lst Yg6)) hp | none => .bad)
 | _ => .bad
def mSl (Fa : M W) (Fl Fh : MO) : M W := fun eta hp => (Fa eta hp).bind fun a h1 => (Fl eta h1).bind fun l h2 => (Fh eta h2).bind fun h h3 => slW a l h h3
section
variable {X : Cx} {Wx : WX} {a b c e : Expr} {lo hi : Option Expr} {Fa Fb Fc F : M W} {Fl Fh : MO} {pos p2 : Pos}
theorem PO.imp {e : Option Expr} {t t' : TO} (h : PO X e t) (i : ∀ σ H Q, t' σ H Q → t σ H Q) : PO X e t' := ⟨fun pins s σ H Q I hw => h.run pins s σ H Q I Yg5⟩
theorem zb5 : IO X Wx none zat := PO.imp po_none fun σ H Q h => by
 obtain ⟨s, eta, e1, R1, S1, g⟩ := h
 subst e1
 exact g none s rfl Ym R1 rfl
theorem zbr (h : IE X Wx e F) : IO X Wx (some e) (zbt F) := PO.imp (po_some h) fun σ H Q h =>
 tM.bind1 (R := fun (x : V) (H1 : Hp) => ∃ i, x = .int i ∧ Q (some i) H1) (k := fun (a : W) _ h1 => (match a with | .t (.int i) => .ok (some i) h1 | _ => .bad : Res (Option Int))) h fun s eta a b R1 _ f1 g => by
  split at g
  ·rename_i i
   simp only [Rw, Rf] at f1
   exact ⟨i, f1, g (some i) s rfl Ym R1 rfl⟩
  ·exact g.elim
theorem cut_rf {K : PySem.W.Frag} {s : S4} : ∀ {ts : List T} {vs : List V} (n m : Nat), RfL K s.fz s.H ts vs → RfL K s.fz s.H ((ts.drop n).take m) ((vs.drop n).take m) := by
 intro ts vs n
 induction n generalizing ts vs with
 | zero =>
  intro m
  induction m generalizing ts vs with
  | zero => intro _; simp [RfL]
  | succ m ih =>
   intro h
   cases ts with
   | nil => simp only [RfL] at h; subst h; simp [RfL]
   | cons t ts =>
    simp only [RfL] at h
    obtain ⟨v, r, e, a, b⟩ := h
    subst e
    simp only [List.drop_zero, List.take_succ_cons, RfL]
    exact ⟨v, _, rfl, a, by simpa using ih b⟩
 | succ n ih =>
  intro m h
  cases ts with
  | nil => simp only [RfL] at h; subst h; simp [RfL]
  | cons t ts =>
   simp only [RfL] at h
   obtain ⟨v, r, e, a, b⟩ := h
   subst e
   simpa using ih m b
theorem cutL_rf {K : PySem.W.Frag} {s : S4} {ts : List T} {vs : List V} (lo hi : Option Int) (h : RfL K s.fz s.H ts vs) : RfL K s.fz s.H Yg6 (cutV vs lo hi) := by
 unfold cutL cutV
 rw [RfL.length h]
 exact cut_rf _ _ h
theorem cutL_whole {A : Type} {ts : List A} {lo hi : Option Int} (h : HT.sIx ts.length 0 lo = 0 ∧ HT.sIx ts.length ts.length hi = ts.length) : cutL ts lo hi = ts := by
 unfold cutL
 rw [h.1, h.2]
 simp
theorem SlR.or3 {r1 r2 r3 : V → Option Int → Option Int → Hp → VK → Prop} (h1 : SlR X r1) (h2 : SlR X r2) (h3 : SlR X r3) : SlR X (fun x lo hi H Q => r1 x lo hi H Q ∨ (r2 x lo hi H Q ∨ r3 x lo hi H Q)) := h1.or (h2.or h3)
/-- t[lo:hi]: the whole of it is t itself; the object of a new one is known -/
def rSlB (K : PySem.W.Frag) : V → Option Int → Option Int → Hp → VK → Prop := fun x l u H Q => ∃ a xs, x = .ref a ∧ SqT K H a xs ∧
 (HT.sIx xs.length 0 l = 0 ∧ HT.sIx xs.length xs.length u = xs.length → Q (.ref a) H) ∧
 (¬ (HT.sIx xs.length 0 l = 0 ∧ HT.sIx xs.length xs.length u = xs.length) → ∀ (p : Addr) (o : Obj), H p = none → o.dict = none → Q (.ref p) (upd H p (.frz o (.tup (cutV xs l u)))))
theorem sl_tupB : SlR X (rSlB X.K) := by
 intro pn s0 σ H x v vl vu l u sl Q J rx hs pl pu h
 obtain ⟨a, xs, ex, hx, q1, q2⟩ := h
 subst ex
 cases rx
 obtain ⟨its, r, ht, hz⟩ := J.tuple hx
 have hlen : its.toArray.size = xs.length := by rw [List.size_toArray]; exact r.length.symm
 by_cases hw : HT.sIx xs.length 0 l = 0 ∧ HT.sIx xs.length xs.length u = xs.length
 ·exact ⟨"tuple", _, PyProof.Rows.slot_tuple_getitem.lookup, ht.typeIs, getItem_tuple_whole ht hs pl pu (by rw [hlen]; exact hw) ⟨.ref a, H, J, rfl, q1 hw⟩⟩
 ·refine ⟨"tuple", _, PyProof.Rows.slot_tuple_getitem.lookup, ht.typeIs, HT.getItem_tuple_cut ht hs pl pu (by rw [hlen]; exact hw) ?_ (by rw [hlen]; exact hz)⟩
  rw [hlen]
  exact laid_tup (t' := s0.toks) J ((r.drop (HT.sIx xs.length 0 l)).take (HT.sIx xs.length xs.length u - HT.sIx xs.length 0 l)) (Nat.le_trans (cutV_length xs l u) hz) (q2 hw)
theorem zbg (ha : IE X Wx a Fa) (hl : IO X Wx lo Fl) (hh : IO X Wx hi Fh) : IE X Wx (.Subscript a (.Slice lo hi none p2) pos) (mSl Fa Fl Fh) :=
 PE.imp (pe_slice (SlR.or3 sl_list sl_tupB sl_str) ha hl hh) fun σ H Q h =>
  tM.bind1 (R := fun (x : V) (H1 : Hp) => tM X.K X.w Wx Yig Fl σ H1 fun l H2 => tM X.K X.w Wx Yig Fh σ H2 fun u H3 => rSlL X.K x l u H3 Q ∨ (rSlB X.K x l u H3 Q ∨ rSlS x l u H3 Q))
   (k := fun (w : W) eta h1 => (Fl eta h1).bind fun l h2 => (Fh eta h2).bind fun h h3 => slW w l h h3) h fun s eta w v R1 S1 f1 g => by
   refine ⟨s, eta, rfl, R1, S1, Go.bind g fun l l' s2 A2 R2 e2 _ g2 => ?_⟩
   subst e2
   refine ⟨s2, eta, rfl, R2, S1.aft A2 R1, Go.bind g2 fun u u' s3 A3 R3 e3 _ g3 => ?_⟩
   subst e3
   have f3 := (f1.aft A2 R1).aft A3 R2
   unfold slW at g3
   split at g3
   ·rename_i z
    split at g3
    ·rename_i hz
     simp only [Rw, Rf] at f3
     exact .inr (.inr ⟨z, f3, by rw [sizeLine_eq]; exact hz, g3 _ s3 rfl (Aft.refl s3) R3 Yl⟩)
    ·exact g3.elim
   ·rename_i ts
    obtain ⟨p, xs, e, t, q⟩ : ∃ a vs, v = .ref a ∧ FTup X.K s3.fz s3.H a vs ∧ RfL X.K s3.fz s3.H ts vs := by simpa only [Rw, Rf] using f3
    have hl := RfL.length q
    refine .inr (.inl ⟨p, xs, e, t.sq, fun hw => ?_, fun hw p' o np d => ?_⟩)
    ·refine g3 (.ref p) s3 rfl (Aft.refl s3) R3 ?_
     rw [← hl] at hw
     rw [cutL_whole hw]
     simp only [Rw, Rf]
     exact ⟨p, xs, rfl, t, q⟩
    ·exact g3 (.ref p') (s3.addF p' (.frz o (.tup (cutV xs l u)))) rfl (zbs R3 np) (zcd R3 np) (addF_tup R3 np d (cutL_rf l u q))
   ·rename_i ts
    obtain ⟨p, xs, e, t, q⟩ : ∃ a vs, v = .ref a ∧ FLst s3.fz s3.H a vs ∧ RfL X.K s3.fz s3.H ts vs := by simpa only [Rw, Rf] using f3
    exact .inl ⟨p, xs, e, t.sq, fun p' np => g3 (.ref p') Yiz rfl (zbs R3 np) (zcd R3 np) (zen R3 np (cutL_rf l u q))⟩
   ·rename_i ts
    obtain ⟨p, xs, e, t, q⟩ : ∃ a vs, v = .ref a ∧ FScr X.K s3.fz s3.H a vs ∧ RfL X.K s3.fz s3.H ts vs := by simpa only [Rw, Rf] using f3
    exact .inl ⟨p, xs, e, t.sq, fun p' np => g3 (.ref p') Yiz rfl (zbs R3 np) (zcd R3 np) (zen R3 np (cutL_rf l u q))⟩
   ·rename_i i
    split at g3
    ·rename_i ts hq
     rw [Option.bind_eq_some_iff] at hq
     obtain ⟨ws, h1, h2⟩ := hq
     obtain ⟨p, xs, e', _, e2, l', _⟩ := R3.lst h1 f3
     rw [zcu h2] at l'
     exact .inl ⟨p, xs, e', .inl (.inl e2), fun p' np => g3 (.ref p') Yiz rfl (zbs R3 np) (zcd R3 np) (zen R3 np (cutL_rf l u (RwL.of_trees.mp l')))⟩
    ·exact g3.elim
   ·exact g3.elim
end
end Mir
namespace Mir
open PySem PySem.Spec L2
open PyProof.Rows hiding St
def zey (hp : IH) : W → Option (List W)
 | .t (.lst xs) => some Yip
 | .t (.scr xs) => some Yip
 | .t _ => none
 | .r i => getL hp i
def asI : W → Option Int | .t (.int i) => some i | _ => none
def asBl : W → Option Bool | .t (.bl b) => some b | _ => none
def asS : W → Option Str | .t (.str b) => some b | _ => none
def allW {A : Type} (f : W → Option A) : List W → Option (List A)
 | [] => some []
 | w :: ws => (f w).bind fun a => (allW f ws).map fun r => a :: r
section
variable {K : PySem.W.Frag} {ω : World} {s : S4}
theorem litems_sq (R : Rel K ω s) {w : W} {v : V} {ws : List W} (h : zey s.hp w = some ws) (r : Rw K s w v) : ∃ p xs, v = .ref p ∧ SqL K s.H p xs ∧ RwL K s ws xs := by
 unfold zey at h
 split at h
 ·simp only [Option.some.injEq] at h
  subst h
  obtain ⟨p, xs, e, t, q⟩ : ∃ a vs, v = .ref a ∧ FLst s.fz s.H a vs ∧ RfL K s.fz s.H _ vs := by simpa only [Rw, Rf] using r
  exact ⟨p, xs, e, t.sq, RwL.of_trees.mpr q⟩
 ·simp only [Option.some.injEq] at h
  subst h
  obtain ⟨p, xs, e, t, q⟩ : ∃ a vs, v = .ref a ∧ FScr K s.fz s.H a vs ∧ RfL K s.fz s.H _ vs := by simpa only [Rw, Rf] using r
  exact ⟨p, xs, e, t.sq, RwL.of_trees.mpr q⟩
 ·cases h
 ·obtain ⟨a, vs, e, _, e2, l, _⟩ := R.lst h r
  exact ⟨a, vs, e, .inl (.inl e2), l⟩
theorem allB_eq : ∀ {ws : List W} {ns : List Bool} {vs : List V}, allW asBl ws = some ns → RwL K s ws vs → vs = ns.map V.bl
 | [], ns, vs, h, r => by
  simp only [allW, Option.some.injEq] at h
  subst h
  exact r
 | w :: ws, ns, vs, h, r => by
  simp only [allW, Option.bind_eq_some_iff, Option.map_eq_some_iff] at h
  obtain ⟨a, h1, m, h2, h3⟩ := h
  subst h3
  obtain ⟨v, t, e, rv, rt⟩ := r
  subst e
  rw [allB_eq h2 rt]
  unfold asBl at h1
  split at h1
  ·simp only [Option.some.injEq] at h1
   subst h1
   simp only [Rw, Rf] at rv
   rw [rv]; rfl
  ·cases h1
theorem RwL.one {w : W} {vs : List V} (r : RwL K s [w] vs) : ∃ v, vs = [v] ∧ Rw K s w v := by
 obtain ⟨v, t, e, a, b⟩ := r
 rw [show t = [] from b] at e
 exact ⟨v, e, a⟩
theorem RwL.two {w u : W} {vs : List V} (r : RwL K s [w, u] vs) : ∃ v x, vs = [v, x] ∧ Rw K s w v ∧ Rw K s u x := by
 obtain ⟨v, t, e, a, b⟩ := r
 obtain ⟨x, e2, b2⟩ := RwL.one b
 exact ⟨v, x, by rw [e, e2], a, b2⟩
/-- ints, texts, as trees -/
theorem ints_rf {fz : Addr → Prop} {H : Hp} : ∀ ns : List Int, RfL K fz H (ns.map T.int) Yd4
 | [] => by simp [RfL]
 | n :: ns => by simp only [List.map_cons, RfL]; exact ⟨_, _, rfl, by simp [Rf], ints_rf ns⟩
theorem strs_rf {fz : Addr → Prop} {H : Hp} : ∀ ns : List Str, RfL K fz H (ns.map T.str) (ns.map V.str)
 | [] => by simp [RfL]
 | n :: ns => by simp only [List.map_cons, RfL]; exact ⟨_, _, rfl, by simp [Rf], strs_rf ns⟩
end
def oLen : OpN := fun ws hp => match ws with
 | [.t (.str z)] => if z.length ≤ 16777216 then .ok (.t (.int z.length)) hp else .bad
 | [w] => (match items hp w with | some xs => .ok (.t (.int xs.length)) hp | none => .bad)
 | _ => .bad
def oInt : OpN := fun ws hp => match ws with
 | [.t (.int i)] => .ok Ya4 hp
 | [.t (.bl b)] => .ok (.t (.int (if b then 1 else 0))) hp
 | _ => .bad
def oAbs : OpN := fun ws hp => match ws with
 | [.t (.int i)] => .ok (.t Yja) hp
 | _ => .bad
def oMax2 : OpN := fun ws hp => match ws with
 | [.t (.int i), .t (.int j)] => .ok (.t (.int (if j > i then j else i))) hp
 | _ => .bad
def oMin2 : OpN := fun ws hp => match ws with
 | [.t (.int i), .t (.int j)] => .ok (.t (.int (if j < i then j else i))) hp
 | _ => .bad
def oOnL {A : Type} (f : W → Option A) (g : List A → IH → Res W) : OpN := fun ws hp => match ws with
 | [w] => (match (zey hp w).bind (allW f) with | some ns => g ns hp | none => .bad)
 | _ => .bad
abbrev oAll : OpN := oOnL asBl fun bs hp => .ok (.t (.bl (bs.all id))) hp
def oListF : OpN := fun ws hp => match ws with
 | [w] => (match (items hp w).bind allT with | some ts => .ok Yad hp | none => .bad)
 | _ => .bad
def oListL : OpN := fun ws hp => match ws with
 | [w] => (match items hp w with | some xs => .ok Ydc (hp ++ [some (.lst xs)]) | none => .bad)
 | _ => .bad
def oTup : OpN := fun ws hp => match ws with
 | [.t (.tup ts)] => .ok Yaq hp
 | [w] => (match (zey hp w).bind allT with | some ts => .ok Yaq hp | none => .bad)
 | _ => .bad
def oStr : OpN := fun ws hp => match ws with
 | [.t (.str z)] => .ok (.t (.str z)) hp
 | [.t (.int i)] => if i.natAbs.log2 < 1920 then .ok (.t (.str (toString i))) hp else .bad
 | _ => .bad
section
variable {K : PySem.W.Frag} {ω : World} {Wx : WX}
theorem zb3 : OpNOk K ω Wx oLen (fun xs H Q => ∃ x n, xs = [x] ∧ LenV K x H n ∧ Q (.int n) H) := by
 intro s ws xs Q R r go
 unfold oLen at go
 split at go
 ·obtain ⟨v, e, rv⟩ := RwL.one r
  subst e
  simp only [Rw, Rf] at rv
  subst rv
  split at go
  ·rename_i hz
   exact ⟨_, _, rfl, ⟨by rw [sizeLine_eq]; exact hz, rfl⟩, go _ s rfl Ym R Yl⟩
  ·exact go.elim
 ·obtain ⟨v, e, rv⟩ := RwL.one r
  subst e
  split at go
  ·rename_i ys hi
   obtain ⟨p, zs, e, q, l⟩ := items_sq R hi rv
   subst e
   refine ⟨_, zs.length, rfl, ?_, by rw [← RwL.length l]; exact go _ s rfl Ym R Yl⟩
   rcases q with q | q
   ·exact .inr ⟨zs, q, rfl⟩
   ·exact .inl ⟨zs, q, rfl⟩
  ·exact go.elim
 ·exact go.elim
theorem ok_int : OpNOk K ω Wx oInt (fun xs H Q => (∃ i, xs = [.int i] ∧ Q (.int i) H) ∨ ∃ k, xs = [.bl k] ∧ Q (.int (if k then 1 else 0)) H) := by
 intro s ws xs Q R r go
 unfold oInt at go
 split at go
 ·obtain ⟨v, e, rv⟩ := RwL.one r
  simp only [Rw, Rf] at rv
  subst e rv
  exact .inl ⟨_, rfl, go _ s rfl Ym R Yl⟩
 ·obtain ⟨v, e, rv⟩ := RwL.one r
  simp only [Rw, Rf] at rv
  subst e rv
  exact .inr ⟨_, rfl, go _ s rfl Ym R Yl⟩
 ·exact go.elim
theorem ok_abs : OpNOk K ω Wx oAbs (fun xs H Q => ∃ i, xs = [.int i] ∧ Q Yja H) := by
 intro s ws xs Q R r go
 unfold oAbs at go
 split at go
 ·obtain ⟨v, e, rv⟩ := RwL.one r
  simp only [Rw, Rf] at rv
  subst e rv
  exact ⟨_, rfl, go _ s rfl Ym R Yl⟩
 ·exact go.elim
theorem ok_max2 : OpNOk K ω Wx oMax2 (fun xs H Q => ∃ i j, xs = [.int i, .int j] ∧ Q (.int (if j > i then j else i)) H) := by
 intro s ws xs Q R r go
 unfold oMax2 at go
 split at go
 ·obtain ⟨v, u, e, rv, ru⟩ := RwL.two r
  simp only [Rw, Rf] at rv ru
  subst e rv ru
  exact ⟨_, _, rfl, go _ s rfl Ym R Yl⟩
 ·exact go.elim
theorem ok_min2 : OpNOk K ω Wx oMin2 (fun xs H Q => ∃ i j, xs = [.int i, .int j] ∧ Q (.int (if j < i then j else i)) H) := by
 intro s ws xs Q R r go
 unfold oMin2 at go
 split at go
 ·obtain ⟨v, u, e, rv, ru⟩ := RwL.two r
  simp only [Rw, Rf] at rv ru
  subst e rv ru
  exact ⟨_, _, rfl, go _ s rfl Ym R Yl⟩
 ·exact go.elim
theorem onL {A : Type} {f : W → Option A} {g : List A → IH → Res W} {s : S4} {ws : List W} {xs : List V} {Q : VK} (R : Rel K ω s) (r : RwL K s ws xs) (go : Go K ω Wx (Rw K) s (oOnL f g ws s.hp) Q) :
  ∃ p zs ys ns, xs = [V.ref p] ∧ SqL K s.H p zs ∧ RwL K s ys zs ∧ allW f ys = some ns ∧ Go K ω Wx (Rw K) s (g ns s.hp) Q := by
 unfold oOnL at go
 split at go
 ·obtain ⟨v, e, rv⟩ := RwL.one r
  split at go
  ·rename_i ns hn
   rw [Option.bind_eq_some_iff] at hn
   obtain ⟨ys, h1, h2⟩ := hn
   obtain ⟨p, zs, ev, q, l⟩ := litems_sq R h1 rv
   subst e ev
   exact ⟨p, zs, ys, ns, rfl, q, l, h2, go⟩
  ·exact go.elim
 ·exact go.elim
theorem ok_all : OpNOk K ω Wx oAll (rAll K) := by
 intro s ws xs Q R r go
 obtain ⟨p, zs, ys, ns, e, q, l, h, go⟩ := onL R r go
 rw [allB_eq h l] at q
 exact ⟨p, ns, e, q, go _ s rfl Ym R Yl⟩
theorem ok_listF : OpNOk K ω Wx oListF Yc6 := by
 intro s ws xs Q R r go
 unfold oListF at go
 split at go
 ·obtain ⟨v, e, rv⟩ := RwL.one r
  split at go
  ·rename_i ts ht
   rw [Option.bind_eq_some_iff] at ht
   obtain ⟨ys, h1, h2⟩ := ht
   obtain ⟨p, zs, ev, q, l⟩ := items_sq R h1 rv
   subst e ev
   rw [zcu h2] at l
   exact ⟨p, zs, rfl, q.symm, fun p' np => go (.ref p') (s.addF p' (.lst zs)) rfl (zbs R np) (zcd R np) (zen R np Ye6)⟩
  ·exact go.elim
 ·exact go.elim
theorem ok_listL : OpNOk K ω Wx oListL Yc6 := by
 intro s ws xs Q R r go
 unfold oListL at go
 split at go
 ·obtain ⟨v, e, rv⟩ := RwL.one r
  split at go
  ·rename_i ys h1
   obtain ⟨p, zs, ev, q, l⟩ := items_sq R h1 rv
   subst e ev
   exact ⟨p, zs, rfl, q.symm, fun p' np => go (.ref p') (s.addL p' (.lst ys) (.lst zs)) rfl (aft_addL R np) (rel_addL R np ⟨zs, rfl, l⟩) (addL_r R)⟩
  ·exact go.elim
 ·exact go.elim
end
/-- tuple(x), the object of a new one known -/
def rTupS (K : PySem.W.Frag) : List V → Hp → VK → Prop := fun xs H Q => ∃ p ys, xs = [.ref p] ∧ ((SqL K H p ys ∧ ∀ (q : Addr) (o : Obj), H q = none → o.dict = none → Q (.ref q) (upd H q (.frz o (.tup ys)))) ∨ (SqT K H p ys ∧ Q (.ref p) H))
theorem call_tupS {X : Cx} : CallR X (.type "tuple") (rTupS X.K) := by
 intro pn s0 σ H xs us Q J r h
 obtain ⟨p, ys, rfl, h⟩ := h
 obtain ⟨u, rfl, rx⟩ := vals1 r
 cases rx
 rcases h with ⟨hq, q⟩ | ⟨hq, q⟩
 ·obtain ⟨its, rv, pl, hz⟩ := J.list hq
  refine call_tuple_list pl.isList (fun h' kp => ?_) (by rw [List.size_toArray, ← rv.length]; exact hz)
  exact laid_tup (s := { s0 with heap := h' }) (t' := s0.toks) (J.kept (t' := s0.toks) kp) rv hz q
 ·obtain ⟨its, rv, pl, hz⟩ := J.tuple hq
  exact call_tuple_same pl ⟨.ref p, H, J, rfl, q⟩
section
variable {K : PySem.W.Frag} {ω : World} {Wx : WX}
theorem ok_tup : OpNOk K ω Wx oTup (rTupS K) := by
 intro s ws xs Q R r go
 unfold oTup at go
 split at go
 ·obtain ⟨v, e, rv⟩ := RwL.one r
  subst e
  have rv' := rv
  obtain ⟨a, vs, ev, t, l⟩ : ∃ a vs, v = .ref a ∧ FTup K s.fz s.H a vs ∧ RfL K s.fz s.H _ vs := by simpa only [Rw, Rf] using rv
  subst ev
  exact ⟨a, vs, rfl, .inr ⟨t.sq, go _ s rfl Ym R rv'⟩⟩
 ·obtain ⟨v, e, rv⟩ := RwL.one r
  split at go
  ·rename_i ts ht
   rw [Option.bind_eq_some_iff] at ht
   obtain ⟨ys, h1, h2⟩ := ht
   obtain ⟨p, zs, ev, q, l⟩ := litems_sq R h1 rv
   subst e ev
   rw [zcu h2] at l
   exact ⟨p, zs, rfl, .inl ⟨q, fun p' o np d => go (.ref p') (s.addF p' (.frz o (.tup zs))) rfl (zbs R np) (zcd R np) (addF_tup R np d Ye6)⟩⟩
  ·exact go.elim
 ·exact go.elim
theorem call_strS {X : Cx} : CallR X (.type "str") Yc2 := CallR.or SkE.call_str_str call_str_int
theorem ok_str : OpNOk K ω Wx oStr Yc2 := by
 intro s ws xs Q R r go
 unfold oStr at go
 split at go
 ·obtain ⟨v, e, rv⟩ := RwL.one r
  simp only [Rw, Rf] at rv
  subst e rv
  exact .inl ⟨_, rfl, go _ s rfl Ym R Yl⟩
 ·obtain ⟨v, e, rv⟩ := RwL.one r
  simp only [Rw, Rf] at rv
  subst e rv
  split at go
  ·rename_i hz
   exact .inr ⟨_, rfl, hz, go _ s rfl Ym R Yl⟩
  ·exact go.elim
 ·exact go.elim
end
section
variable {X : Cx} {Wx : WX} {e : Expr} {es : List Expr} {Fs : M (List W)} {pos p : Pos} {x : Str} {id Ty : String} {f : OpN} {r : List V → Hp → VK → Prop}
theorem t_app (hf : OpNOk X.K X.w Wx f r) : ∀ σ H Q, tE X.K X.w Wx (mApp f Fs) σ H Q → tCB r (tA X.K X.w Wx Fs) σ H Q := fun σ H Q h =>
 tM.bind1 (R := fun (xs : List V) (H1 : Hp) => r xs H1 Q) (k := fun (a : List W) _ hp => f a hp) h fun s eta a b R1 _ f1 g => hf s a b Q R1 f1 g
theorem zb8 (hc : CallR X (.builtin id) r) (hf : OpNOk X.K X.w Wx f r) (ha : IA X Wx Yal Fs) (hm : X.mg x = none) (hg : Gl X x := by rfl) (hv : bootBuiltins x = some (.builtin id) := by with_unfolding_all rfl) (hn : x ≠ "__name__" := by decide) (hdb : (x == ("__debug__" : Str)) = false := by decide)
  (he : starEach Yal X.env = (false, eval e X.env) :: starEach es X.env := by rfl) (hpl : (backTo pos Ybq).any (·.1) = false := by rfl) : IE X Wx Yah (mApp f Fs) :=
 PE.imp (pe_callB hc hg hm hv ha hn hdb he hpl) (t_app hf)
theorem ie_bt (hc : CallR X (.type Ty) r) (hf : OpNOk X.K X.w Wx f r) (ha : IA X Wx Yal Fs) (hm : X.mg x = none) (hg : Gl X x := by rfl) (hv : bootBuiltins x = some (.type Ty) := by with_unfolding_all rfl) (hn : x ≠ "__name__" := by decide) (hdb : (x == ("__debug__" : Str)) = false := by decide)
  (he : starEach Yal X.env = (false, eval e X.env) :: starEach es X.env := by rfl) (hpl : (backTo pos Ybq).any (·.1) = false := by rfl) : IE X Wx Yah (mApp f Fs) :=
 PE.imp (pe_callTy hc hg hm hv ha hn hdb he hpl) (t_app hf)
end
end Mir
namespace Mir
open PySem PySem.Spec L2
open PyProof.Rows hiding St
abbrev OpM := W → List W → IH → Res W
def OpMOk (K : PySem.W.Frag) (ω : World) (Wx : WX) (f : OpM) (r : V → List V → Hp → VK → Prop) : Prop :=
 ∀ (s : S4) (w : W) (ws : List W) (x : V) (xs : List V) (Q : VK), Rel K ω s → Rw K s w x → RwL K s ws xs → Go K ω Wx (Rw K) s (f w ws s.hp) Q → r x xs s.H Q
def mMeth0 (ty : W → IH → Bool) (f : OpM) (Fo : M W) : M W := fun eta hp => (Fo eta hp).bind fun w h1 => if ty w h1 = true then f w [] h1 else .bad
def zfd (ty : W → IH → Bool) (f : OpM) (Fo : M W) (Fa : M (List W)) : M W := fun eta hp => (Fo eta hp).bind fun w h1 => if ty w h1 = true then (Fa eta h1).bind fun ws h2 => f w ws h2 else .bad
def isL (w : W) (hp : IH) : Bool := (zey hp w).isSome
def isTp (w : W) (hp : IH) : Bool := match w with | .t (.tup _) => true | _ => false
section
variable {X : Cx} {Wx : WX} {o e : Expr} {es : List Expr} {Fo : M W} {Fs : M (List W)} {name : Str} {apos cpos : Pos} {id : String} {f : OpM} {r : V → List V → Hp → VK → Prop}
theorem isL_ty {K : PySem.W.Frag} {ω : World} {s : S4} {w : W} {v : V} (R : Rel K ω s) (r : Rw K s w v) (h : isL w s.hp = true) : tyV K "list" v s.H := by
 unfold isL at h
 obtain ⟨ws, hw⟩ := Option.isSome_iff_exists.mp h
 obtain ⟨p, xs, e, q, _⟩ := litems_sq R hw r
 subst e
 exact .inl ⟨rfl, xs, q⟩
theorem ie_lm0 (slot : Slot "list" name id) (hty : typeOf (.builtin id) = pure (.type "method_descriptor")) (hm : MtR X id r) (hf : OpMOk X.K X.w Wx f r) (ho : IE X Wx o Fo)
  (hbase : attributeBase o name X.env Yd5 = eval o X.env := by rfl) (hline : (apos.endLine == cpos.line) = true := by rfl) : IE X Wx (.Call (.Attribute o name apos) [] [] cpos) (mMeth0 isL f Fo) :=
 PE.imp (pe_bm0 F.plainAttrs_list slot hty hm ho hbase hline) fun σ H Q h =>
  tM.bind1 (R := fun (x : V) (H1 : Hp) => tyV X.K "list" x H1 ∧ r x [] H1 Q) (k := fun (w : W) _ h1 => if isL w h1 = true then f w [] h1 else .bad) h fun s eta a b R1 _ f1 g => by
   split at g
   ·rename_i ht
    exact ⟨isL_ty R1 f1 ht, hf s a [] b [] Q R1 f1 rfl g⟩
   ·exact g.elim
theorem ie_lm (slot : Slot "list" name id) (hty : typeOf (.builtin id) = pure (.type "method_descriptor")) (hm : MtR X id r) (hf : OpMOk X.K X.w Wx f r) (ho : IE X Wx o Fo) (ha : IA X Wx Yal Fs)
  (hbase : attributeBase o name X.env Yd5 = eval o X.env := by rfl)
  (hfew : ((backTo cpos (starEach Yal X.env)).all (fun x => !x.1) && (backToKw cpos Ygr).all (fun x => x.1.isSome) && decide ((e :: es).length + ([] : List Keyword).length + (if ([] : List Keyword).isEmpty then 0 else 1) < 30)) = true := by rfl)
  (hline : (apos.endLine == cpos.line) = true := by rfl) (hs : starEach Yal X.env = (false, eval e X.env) :: starEach es X.env := by rfl) (hp : (backTo cpos Ybq).any (·.1) = false := by rfl) :
  IE X Wx (.Call (.Attribute o name apos) Yal [] cpos) (zfd isL f Fo Fs) :=
 PE.imp (pe_bm F.plainAttrs_list slot hty hm ho ha hbase hfew hline hs hp) fun σ H Q h =>
  tM.bind1 (R := fun (x : V) (H1 : Hp) => tyV X.K "list" x H1 ∧ tA X.K X.w Wx Fs σ H1 fun xs H2 => r x xs H2 Q) (k := fun (w : W) eta h1 => if isL w h1 = true then (Fs eta h1).bind fun ws h2 => f w ws h2 else .bad) h fun s eta a b R1 S1 f1 g => by
   split at g
   ·rename_i ht
    exact ⟨isL_ty R1 f1 ht, s, eta, rfl, R1, S1, Go.bind g fun ws xs s' A' R' r' _ g' => hf s' a ws b xs Q R' (f1.aft A' R1) r' g'⟩
   ·exact g.elim
end
def zb0 : OpM := fun w ws hp => match w, ws with
 | .r i, [x] => (match getL hp i with | some xs => if xs.length < 16777216 then .ok Ybh (hp.set i (some (.lst (xs ++ [x])))) else .bad | none => .bad)
 | _, _ => .bad
/-- what is a list of its own in the heap -/
def hitems (hp : IH) : W → Option (List W)
 | .t (.lst xs) => some Yip
 | .t _ => none
 | .r i => getL hp i
def oPop : OpM := fun w ws hp => match w, ws with
 | .r i, [] => (match getL hp i with | some xs => (match xs[xs.length - 1]? with | some y => .ok y (hp.set i (some (.lst xs.dropLast))) | none => .bad) | none => .bad)
 | _, _ => .bad
def oPopAt : OpM := fun w ws hp => match w, ws with
 | .r i, [.t (.int k)] => (match getL hp i with
  | some xs => if -(2 ^ 63) ≤ k ∧ k < 2 ^ 63 then (match seqIndex? k xs.length with | some j => (match xs[j]? with | some y => .ok y (hp.set i (some (.lst (xs.eraseIdx j)))) | none => .bad) | none => .bad) else .bad
  | none => .bad)
 | _, _ => .bad
section
variable {K : PySem.W.Frag} {ω : World} {Wx : WX}
theorem RwL.dropLast {s : S4} : ∀ {ws : List W} {vs : List V}, RwL K s ws vs → RwL K s ws.dropLast vs.dropLast
 | [], _, h => by rw [show _ = [] from h]; rfl
 | [x], _, h => by
  obtain ⟨v, r, e, a, b⟩ := h
  rw [show r = [] from b] at e
  subst e
  rfl
 | x :: y :: ws, _, h => by
  obtain ⟨v, r, e, a, b⟩ := h
  subst e
  have b' := b
  obtain ⟨v2, r2, e2, a2, b2⟩ := b'
  subst e2
  exact ⟨v, _, rfl, a, RwL.dropLast b⟩
theorem RwL.eraseIdx {s : S4} : ∀ {ws : List W} {vs : List V} (j : Nat), RwL K s ws vs → RwL K s (ws.eraseIdx j) (vs.eraseIdx j)
 | [], _, _, h => by rw [show _ = [] from h]; rfl
 | x :: ws, _, 0, h => by
  obtain ⟨v, r, e, a, b⟩ := h
  subst e
  exact b
 | x :: ws, _, j + 1, h => by
  obtain ⟨v, r, e, a, b⟩ := h
  subst e
  exact ⟨v, _, rfl, a, RwL.eraseIdx j b⟩
theorem RwL.setL {s : S4} : ∀ {ws : List W} {vs : List V} (j : Nat) {w : W} {v : V}, RwL K s ws vs → Rw K s w v → RwL K s (ws.set j w) (vs.set j v)
 | [], _, _, _, _, h, _ => by rw [show _ = [] from h]; rfl
 | x :: ws, _, 0, w, v, h, r => by
  obtain ⟨u, t, e, a, b⟩ := h
  subst e
  exact ⟨v, t, rfl, r, b⟩
 | x :: ws, _, j + 1, w, v, h, r => by
  obtain ⟨u, t, e, a, b⟩ := h
  subst e
  exact ⟨u, _, rfl, a, RwL.setL j b r⟩
/-- the items are set anew -/
theorem go_set {s : S4} {i : Nat} {a : Addr} {xs ys : List W} {us : List V} {w : W} {v : V} {Q : VK} (R : Rel K ω s) (h0 : getL s.hp i = some xs) (ha : s.rho[i]? = some a) (l : RwL K s ys us) (rv : Rw K s w v)
  (g : Go K ω Wx (Rw K) s (.ok w (s.hp.set i (some (.lst ys)))) Q) : Q v (upd s.H a (.lst us)) := by
 have A := aft_setL R (zcy h0) ha (c := .lst ys) (o := .lst us)
 exact g v (s.setL i a (.lst ys) (.lst us)) rfl A (rel_setL R (zcy h0) ha ⟨us, rfl, l⟩) (rv.aft A R)
theorem ok_append : OpMOk K ω Wx zb0 rAppend := by
 intro s w ws x xs Q R rx rxs go
 unfold zb0 at go
 split at go
 ·rename_i i y
  obtain ⟨u, e, ru⟩ := RwL.one rxs
  subst e
  split at go
  ·rename_i zs hz
   split at go
   ·rename_i hn
    obtain ⟨a, vs, ex, e1, e2, l, _⟩ := R.lst hz rx
    exact ⟨a, vs, u, ex, rfl, e2, by rw [← RwL.length l, sizeLine_eq]; exact hn, go_set R hz e1 (RwL.append l (show RwL K s [_] [u] from ⟨u, [], rfl, ru, rfl⟩)) Yl go⟩
   ·exact go.elim
  ·exact go.elim
 ·exact go.elim
theorem hitems_eq {s : S4} (R : Rel K ω s) {w : W} {v : V} {ws : List W} (h : hitems s.hp w = some ws) (r : Rw K s w v) : ∃ p xs, v = .ref p ∧ s.H p = some (.lst xs) ∧ RwL K s ws xs := by
 unfold hitems at h
 split at h
 ·simp only [Option.some.injEq] at h
  subst h
  obtain ⟨p, xs, e, t, q⟩ : ∃ a vs, v = .ref a ∧ FLst s.fz s.H a vs ∧ RfL K s.fz s.H _ vs := by simpa only [Rw, Rf] using r
  exact ⟨p, xs, e, t.2, RwL.of_trees.mpr q⟩
 ·cases h
 ·obtain ⟨a, vs, e, _, e2, l, _⟩ := R.lst h r
  exact ⟨a, vs, e, e2, l⟩
theorem ok_pop : OpMOk K ω Wx oPop rPop := by
 intro s w ws x xs Q R rx rxs go
 unfold oPop at go
 split at go
 ·rename_i i
  have e : xs = [] := rxs
  subst e
  split at go
  ·rename_i zs hz
   split at go
   ·rename_i y hy
    obtain ⟨a, vs, ex, e1, e2, l, _⟩ := R.lst hz rx
    obtain ⟨u, hu, ru⟩ := RwL.get l hy
    exact ⟨a, vs, u, ex, rfl, e2, by rw [← RwL.length l]; exact hu, go_set R hz e1 (RwL.dropLast l) ru go⟩
   ·exact go.elim
  ·exact go.elim
 ·exact go.elim
theorem ok_popAt : OpMOk K ω Wx oPopAt rPopAt := by
 intro s w ws x xs Q R rx rxs go
 unfold oPopAt at go
 split at go
 ·rename_i i k
  obtain ⟨u, e, ru⟩ := RwL.one rxs
  simp only [Rw, Rf] at ru
  subst e ru
  split at go
  ·rename_i zs hz
   split at go
   ·rename_i hk
    split at go
    ·rename_i j hj
     split at go
     ·rename_i y hy
      obtain ⟨a, vs, ex, e1, e2, l, _⟩ := R.lst hz rx
      obtain ⟨u, hu, ru⟩ := RwL.get l hy
      exact ⟨a, vs, k, j, u, ex, rfl, e2, hk.1, hk.2, by rw [← RwL.length l]; exact hj, hu, go_set R hz e1 (RwL.eraseIdx j l) ru go⟩
     ·exact go.elim
    ·exact go.elim
   ·exact go.elim
  ·exact go.elim
 ·exact go.elim
end
section
variable {X : Cx} {Wx : WX} {o e : Expr} {Fo : M W} {Fs : M (List W)} {apos cpos : Pos}
theorem zed (ho : IE X Wx o Fo) (ha : IA X Wx [e] Fs) (hb : attributeBase o "append" X.env Yd5 = eval o X.env := by rfl)
  (hfew : ((backTo cpos (starEach [e] X.env)).all (fun x => !x.1) && (backToKw cpos Ygr).all (fun x => x.1.isSome) && decide ([e].length + ([] : List Keyword).length + (if ([] : List Keyword).isEmpty then 0 else 1) < 30)) = true := by rfl)
  (hline : (apos.endLine == cpos.line) = true := by rfl) (hs : starEach [e] X.env = (false, eval e X.env) :: starEach [] X.env := by rfl) : IE X Wx (.Call (.Attribute o "append" apos) [e] [] cpos) (zfd isL zb0 Fo Fs) :=
 ie_lm F.slot_list_append F.type_list_append mt_append ok_append ho ha hb hfew hline hs rfl
theorem ie_pop (ho : IE X Wx o Fo) (hb : attributeBase o "pop" X.env Yd5 = eval o X.env := by rfl) (hline : (apos.endLine == cpos.line) = true := by rfl) :
  IE X Wx (.Call (.Attribute o "pop" apos) [] [] cpos) (mMeth0 isL oPop Fo) := ie_lm0 F.slot_list_pop F.type_list_pop mt_pop ok_pop ho hb hline
theorem ie_popAt (ho : IE X Wx o Fo) (ha : IA X Wx [e] Fs) (hb : attributeBase o "pop" X.env Yd5 = eval o X.env := by rfl)
  (hfew : ((backTo cpos (starEach [e] X.env)).all (fun x => !x.1) && (backToKw cpos Ygr).all (fun x => x.1.isSome) && decide ([e].length + ([] : List Keyword).length + (if ([] : List Keyword).isEmpty then 0 else 1) < 30)) = true := by rfl)
  (hline : (apos.endLine == cpos.line) = true := by rfl) (hs : starEach [e] X.env = (false, eval e X.env) :: starEach [] X.env := by rfl) : IE X Wx (.Call (.Attribute o "pop" apos) [e] [] cpos) (zfd isL oPopAt Fo Fs) :=
 ie_lm F.slot_list_pop F.type_list_pop mt_popAt ok_popAt ho ha hb hfew hline hs rfl
end
end Mir
namespace Mir
open PySem PySem.Spec L2
open PyProof.Rows hiding St
def asK : W → Option Key | .t (.int i) => some (.inl i) | .t (.str x) => some (.inr x) | _ => none
def getD (hp : IH) (i : Nat) : Option (List Yfy) := match hp[i]? with
 | some (some (.dic kvs)) => some kvs
 | _ => none
def valW (kvs : List Yfy) (k : Key) : Option W := (kvs.find? fun kv => decide (kv.1 = k)).map (·.2)
def putW (kvs : List Yfy) (k : Key) (w : W) : List Yfy :=
 if (kvs.any fun kv => decide (kv.1 = k)) = true then kvs.map (fun kv => if kv.1 = k then (kv.1, w) else kv) else kvs ++ [(k, w)]
def mergeW (kvs more : List Yfy) : List Yfy := more.foldl (fun acc kv => putW acc kv.1 kv.2) kvs
section
variable {K : PySem.W.Frag} {ω : World} {s : S4}
theorem getD_eq {hp : IH} {i : Nat} {ws : List Yfy} (h : getD hp i = some ws) : hp[i]? = some (some (.dic ws)) := by
 unfold getD at h
 split at h
 ·rename_i kvs e
  simp only [Option.some.injEq] at h
  rw [e, h]
 ·cases h
theorem Rel.dic (R : Rel K ω s) {i : Nat} {v : V} {ws : List Yfy} (g : getD s.hp i = some ws) (r : Rw K s (.r i) v) : ∃ a vs, v = .ref a ∧ s.rho[i]? = some a ∧ s.H a = some (.dK vs) ∧ RwK K s ws vs ∧ ¬ s.fz a := by
 obtain ⟨a, e1, e2⟩ := r
 obtain ⟨vs, h1, h2⟩ := R.cell i _ a (getD_eq g) e1
 exact ⟨a, vs, e2, e1, h1, h2, R.fz a ⟨i, _, ⟨getD_eq g, True.intro⟩, e1⟩⟩
theorem RwK.val (k : Key) : ∀ {ws : List (Key × W)} {vs : List (Key × V)} {w : W}, RwK K s ws vs → valW ws k = some w → ∃ v, valV vs k = some v ∧ Rw K s w v
 | [], _, _, _, h => by simp [valW] at h
 | x :: ws, _, w, r, h => by
  obtain ⟨v, t, e, a, b⟩ := r
  subst e
  by_cases q : x.1 = k
  ·refine ⟨v, valV_pos (p := (x.1, v)) q, ?_⟩
   have : x.2 = w := by simpa [valW, List.find?_cons, q] using h
   rw [← this]; exact a
  ·have h' : valW ws k = some w := by simpa [valW, List.find?_cons, q] using h
   obtain ⟨u, h1, h2⟩ := RwK.val k b h'
   exact ⟨u, by rw [valV_neg (p := (x.1, v)) q]; exact h1, h2⟩
theorem RwK.none (k : Key) : ∀ {ws : List (Key × W)} {vs : List (Key × V)}, RwK K s ws vs → valW ws k = none → valV vs k = none
 | [], _, r, _ => by rw [show _ = [] from r]; rfl
 | x :: ws, _, r, h => by
  obtain ⟨v, t, e, a, b⟩ := r
  subst e
  by_cases q : x.1 = k
  ·simp [valW, List.find?_cons, q] at h
  ·have h' : valW ws k = Option.none := by simpa [valW, List.find?_cons, q] using h
   rw [valV_neg (p := (x.1, v)) q]
   exact RwK.none k b h'
theorem RwK.any (k : Key) : ∀ {ws : List (Key × W)} {vs : List (Key × V)}, RwK K s ws vs → (vs.any fun kv => decide (kv.1 = k)) = ws.any fun kv => decide (kv.1 = k)
 | [], _, r => by rw [show _ = [] from r]; rfl
 | x :: ws, _, r => by
  obtain ⟨v, t, e, a, b⟩ := r
  subst e
  rw [List.any_cons, List.any_cons, RwK.any k b]
theorem RwK.repl (k : Key) {w : W} {v : V} (rv : Rw K s w v) : ∀ {ws : List (Key × W)} {vs : List (Key × V)}, RwK K s ws vs → RwK K s (ws.map fun kv => if kv.1 = k then (kv.1, w) else kv) (vs.map fun kv => if kv.1 = k then (kv.1, v) else kv)
 | [], _, r => by rw [show _ = [] from r]; rfl
 | x :: ws, _, r => by
  obtain ⟨u, t, e, a, b⟩ := r
  subst e
  rw [List.map_cons, List.map_cons]
  by_cases q : x.1 = k
  ·rw [if_pos q, if_pos q]
   exact ⟨v, _, rfl, rv, RwK.repl k rv b⟩
  ·rw [if_neg q, if_neg q]
   exact ⟨u, _, rfl, a, RwK.repl k rv b⟩
theorem RwK.snoc {k : Key} {w : W} {v : V} (rv : Rw K s w v) : ∀ {ws : List (Key × W)} {vs : List (Key × V)}, RwK K s ws vs → RwK K s (ws ++ [(k, w)]) (vs ++ [(k, v)])
 | [], _, r => by rw [show _ = [] from r]; exact ⟨v, [], rfl, rv, rfl⟩
 | x :: ws, _, r => by
  obtain ⟨u, t, e, a, b⟩ := r
  subst e
  exact ⟨u, _, rfl, a, RwK.snoc rv b⟩
theorem RwK.put (k : Key) {w : W} {v : V} (rv : Rw K s w v) {ws : List Yfy} {vs : List (Key × V)} (r : RwK K s ws vs) : RwK K s (putW ws k w) (putK vs k v) := by
 unfold putW putK
 rw [r.any k]
 split
 ·exact r.repl k rv
 ·exact r.snoc rv
theorem RwK.length : ∀ {ws : List (Key × W)} {vs : List (Key × V)}, RwK K s ws vs → ws.length = vs.length
 | [], _, r => by rw [show _ = [] from r]; rfl
 | x :: ws, _, r => by
  obtain ⟨u, t, e, a, b⟩ := r
  subst e
  rw [List.length_cons, List.length_cons, RwK.length b]
end
/-- d[k] -/
def dGet : Op2 := fun a b hp => match a, asK b with
 | .r i, some k => (match (getD hp i).bind fun kvs => valW kvs k with | some w => .ok w hp | none => .bad)
 | _, _ => .bad
/-- d[k] = v: the value, the dict, the key -/
def mDPut (Fd Fk Fv : M W) : M Fl := fun eta hp => (Fv eta hp).bind fun v h1 => (Fd eta h1).bind fun d h2 => (Fk eta h2).bind fun k h3 => match d, asK k with
 | .r i, some k => (match getD h3 i with | some kvs => if kvs.length < 16777216 then .ok Yeq (h3.set i (some (.dic (putW kvs k v)))) else .bad | none => .bad)
 | _, _ => .bad
def mVals : List (Key × M W) → M (List Yfy)
 | [] => fun _ hp => .ok [] hp
 | (k, F) :: r => fun eta hp => (F eta hp).bind fun w h1 => (mVals r eta h1).bind fun ws h2 => .ok ((k, w) :: ws) h2
def mDisp (ps : List (Key × M W)) : M W := fun eta hp => (mVals ps eta (hp ++ [some (.dic [])])).bind fun kvs h1 => match getD h1 hp.length with
 | some [] => if kvs.length ≤ 15 then .ok Ydc (h1.set hp.length (some (.dic (mergeW [] kvs)))) else .bad
 | _ => .bad
end Mir
namespace Mir
open PySem PySem.Spec L2
open PyProof.Rows hiding St
/-- t + u of tuples, the object of a new one known -/
def rCatB (K : PySem.W.Frag) : R2 := fun x y H Q => ∃ a b xs ys, x = .ref a ∧ y = .ref b ∧ SqT K H a xs ∧ SqT K H b ys ∧ xs.length + ys.length ≤ sizeLine ∧
 (xs = [] → Q (.ref b) H) ∧ (xs ≠ [] → ys = [] → Q (.ref a) H) ∧ (xs ≠ [] → ys ≠ [] → ∀ (p : Addr) (o : Obj), H p = none → o.dict = none → Q (.ref p) (upd H p (.frz o (.tup (xs ++ ys)))))
theorem op_catB {X : Cx} : OpR X (binaryOp .Add) (rCatB X.K) := by
 intro pn s0 σ H x y v u Q J rx ry h
 obtain ⟨a, b, xs, ys, ex, ey, ha, hb, hz, q0, q1, q2⟩ := h
 subst ex ey
 by_cases hx : xs = []
 ·exact op_catA pn s0 σ H _ _ v u Q J rx ry ⟨a, b, xs, ys, rfl, rfl, ha, hb, hz, q0, fun c => absurd hx c, fun c => absurd hx c⟩
 ·cases rx
  cases ry
  obtain ⟨its, r1, p1, _⟩ := J.tuple ha
  obtain ⟨its2, r2, p2, _⟩ := J.tuple hb
  refine HT.cat_tup p1 p2 (fun z => hx (r1.nil_iff.mp z)) (fun z => ⟨.ref a, H, J, rfl, q1 hx (r2.nil_iff.mp z)⟩) (fun z => ?_) (by rw [← r1.length, ← r2.length]; exact hz)
  exact laid_tup (t' := s0.toks) J (r1.append r2) (by rw [List.length_append]; exact hz) (q2 hx fun c => z (r2.nil_iff.mpr c))
def wAdd : Op2 := fun a b hp => match a, b with
 | .t (.int i), .t (.int j) => .ok (.t (.int (i + j))) hp
 | .t (.str x), .t (.str y) => if x.length + y.length ≤ 16777216 then .ok (.t (.str (x ++ y))) hp else .bad
 | .t (.tup xs), .t (.tup ys) => if xs.length + ys.length ≤ 16777216 then .ok (.t (.tup (xs ++ ys))) hp else .bad
 | a, b => (match (hitems hp a).bind allT, (hitems hp b).bind allT with
  | some xs, some ys => if xs.length + ys.length ≤ 16777216 then .ok Yjf hp else .bad
  | _, _ => .bad)
abbrev rAdd (K : PySem.W.Frag) : R2 := fun x y H Q => rI0 (fun i j => .int (i + j)) x y H Q ∨ (fun x y H Q => ∃ i j, x = .str i ∧ y = .str j ∧ i.length + j.length ≤ sizeLine ∧ Q (.str (i ++ j)) H : R2) x y H Q ∨ rCatB K x y H Q ∨ rCat x y H Q
theorem op_addA {X : Cx} : OpR X (binaryOp .Add) (rAdd X.K) := OpR.or op_add (OpR.or op_add_str (OpR.or op_catB op_cat))
section
variable {K : PySem.W.Frag} {ω : World} {Wx : WX}
theorem RfL.append {fz : Addr → Prop} {H : Hp} : ∀ {ws ws' : List T} {vs vs' : List V}, RfL K fz H ws vs → RfL K fz H ws' vs' → RfL K fz H (ws ++ ws') (vs ++ vs')
 | [], _, _, _, h, h' => by simp only [RfL] at h; subst h; exact h'
 | x :: xs, _, vs, _, h, h' => by
  simp only [RfL] at h
  obtain ⟨v, r, e, a, b⟩ := h
  subst e
  simp only [List.cons_append, RfL]
  exact ⟨v, _, rfl, a, RfL.append b h'⟩
theorem RfL.nil_of {fz : Addr → Prop} {H : Hp} {ts : List T} (h : RfL K fz H ts []) : ts = [] := by
 cases ts with
 | nil => rfl
 | cons t ts =>
  simp only [RfL] at h
  obtain ⟨v, r, e, _⟩ := h
  cases e
theorem ok_add : zec K ω Wx wAdd (rAdd K) := by
 intro s a b x y Q R ra rb go
 unfold wAdd at go
 split at go
 ·simp only [Rw, Rf] at ra rb
  exact .inl ⟨_, _, ra, rb, go _ s rfl Ym R Yl⟩
 ·split at go
  ·rename_i hz
   simp only [Rw, Rf] at ra rb
   exact .inr (.inl ⟨_, _, ra, rb, by rw [sizeLine_eq]; exact hz, go _ s rfl Ym R Yl⟩)
  ·exact go.elim
 ·split at go
  ·rename_i xs ys hz
   obtain ⟨p, us, e1, t1, q1⟩ : ∃ a vs, x = .ref a ∧ FTup K s.fz s.H a vs ∧ RfL K s.fz s.H xs vs := by simpa only [Rw, Rf] using ra
   obtain ⟨p2, us2, e2, t2, q2⟩ : ∃ a vs, y = .ref a ∧ FTup K s.fz s.H a vs ∧ RfL K s.fz s.H ys vs := by simpa only [Rw, Rf] using rb
   refine .inr (.inr (.inl ⟨p, p2, us, us2, e1, e2, t1.sq, t2.sq, by rw [← RfL.length q1, ← RfL.length q2, sizeLine_eq]; exact hz, fun c => ?_, fun _ c => ?_, fun _ _ q o np d => ?_⟩))
   ·subst c
    rw [RfL.nil_of q1] at go
    rw [← e2]
    exact go _ s rfl Ym R rb
   ·subst c
    rw [RfL.nil_of q2, List.append_nil] at go
    rw [← e1]
    exact go _ s rfl Ym R ra
   ·exact go (.ref q) (s.addF q (.frz o (.tup (us ++ us2)))) rfl (zbs R np) (zcd R np) (addF_tup R np d (RfL.append q1 q2))
  ·exact go.elim
 ·split at go
  ·rename_i xs ys hx hy
   split at go
   ·rename_i hz
    rw [Option.bind_eq_some_iff] at hx hy
    obtain ⟨ws, h1, h2⟩ := hx
    obtain ⟨ws2, h3, h4⟩ := hy
    obtain ⟨p, us, e1, t1, q1⟩ := hitems_eq R h1 ra
    obtain ⟨p2, us2, e2, t2, q2⟩ := hitems_eq R h3 rb
    rw [zcu h2] at q1
    rw [zcu h4] at q2
    have l1 := RwL.of_trees.mp q1
    have l2 := RwL.of_trees.mp q2
    exact .inr (.inr (.inr ⟨p, p2, us, us2, e1, e2, t1, t2, by rw [← RfL.length l1, ← RfL.length l2, sizeLine_eq]; exact hz, fun q np =>
     go (.ref q) (s.addF q (.lst (us ++ us2))) rfl (zbs R np) (zcd R np) (zen R np (RfL.append l1 l2))⟩))
   ·exact go.elim
  ·exact go.elim
end
def repT (n : Nat) (ts : List T) : List T := (List.replicate n ts).flatten
def wMul : Op2 := fun a b hp => match a, b with
 | .t (.int i), .t (.int j) => if cMul i j = true then .ok (.t (.int (i * j))) hp else .bad
 | a, .t (.int k) => (match (hitems hp a).bind allT with
  | some ts => if -(2 ^ 63) ≤ k ∧ k < 2 ^ 63 ∧ ts.length * k.toNat ≤ 16777216 then .ok (.t (.lst (repT k.toNat ts))) hp else .bad
  | none => .bad)
 | _, _ => .bad
abbrev rMulA : R2 := fun x y H Q => rI CMulW (fun i j => .int (i * j)) x y H Q ∨ rRep x y H Q
theorem op_mulA {X : Cx} : OpR X (binaryOp .Mult) rMulA := OpR.or op_mulW op_rep
theorem rep_rf {K : PySem.W.Frag} {fz : Addr → Prop} {H : Hp} {ts : List T} {vs : List V} (h : RfL K fz H ts vs) : ∀ n : Nat, RfL K fz H (repT n ts) (List.replicate n vs).flatten
 | 0 => by simp [repT, RfL]
 | n + 1 => by
  have := RfL.append h (rep_rf h n)
  simpa [repT, List.replicate_succ] using this
theorem ok_mul {K : PySem.W.Frag} {ω : World} {Wx : WX} : zec K ω Wx wMul rMulA := by
 intro s a b x y Q R ra rb go
 unfold wMul at go
 split at go
 ·split at go
  ·rename_i hc
   simp only [Rw, Rf] at ra rb
   exact .inl ⟨_, _, ra, rb, by simpa [cMul, CMulW] using hc, go _ s rfl Ym R Yl⟩
  ·exact go.elim
 ·rename_i k _
  split at go
  ·rename_i ts hx
   split at go
   ·rename_i hz
    rw [Option.bind_eq_some_iff] at hx
    obtain ⟨ws, h1, h2⟩ := hx
    obtain ⟨p, us, e1, t1, q1⟩ := hitems_eq R h1 ra
    rw [zcu h2] at q1
    have l1 := RwL.of_trees.mp q1
    have ey : y = .int k := by simpa only [Rw, Rf] using rb
    exact .inr ⟨p, k, us, e1, ey, t1, hz.1, hz.2.1, by rw [← RfL.length l1, sizeLine_eq]; exact hz.2.2, fun q np =>
     go (.ref q) (s.addF q (.lst (List.replicate k.toNat us).flatten)) rfl (zbs R np) (zcd R np) (zen R np (rep_rf l1 k.toNat))⟩
   ·exact go.elim
  ·exact go.elim
 ·exact go.elim
def wLt : Op2 := fun a b hp => match a, b with
 | .t (.int i), .t (.int j) => .ok (.t (.bl (decide (i < j)))) hp
 | .t (.str x), .t (.str y) => .ok (.t (.bl (ltCps x.cps.toList y.cps.toList))) hp
 | _, _ => .bad
abbrev rLtA : R2 := fun x y H Q => rI0 (fun i j => .bl (decide (i < j))) x y H Q ∨ (fun x y H Q => ∃ i j, x = .str i ∧ y = .str j ∧ Q (.bl (decide (i.cps.toList < j.cps.toList))) H : R2) x y H Q
theorem op_ltA {X : Cx} : OpR X (compareOp .Lt) rLtA := OpR.or op_lt op_lt_str
theorem ok_lt {K : PySem.W.Frag} {ω : World} {Wx : WX} : zec K ω Wx wLt rLtA := by
 intro s a b x y Q R ra rb go
 unfold wLt at go
 split at go
 ·simp only [Rw, Rf] at ra rb
  exact .inl ⟨_, _, ra, rb, go _ s rfl Ym R Yl⟩
 ·simp only [Rw, Rf] at ra rb
  exact .inr ⟨_, _, ra, rb, go _ s rfl Ym R (by simp only [Rw, Rf, ltCps_eq])⟩
 ·exact go.elim
section
variable {X : Cx} {Wx : WX} {a b c e : Expr} {Fa Fb Fc F : M W} {pos : Pos}
theorem zbm (ha : IE X Wx a Fa) (hb : IE X Wx b Fb) : IE X Wx (.BinOp a .Add b pos) (mBin wAdd Fa Fb) := ie_bin op_addA ok_add ha hb
theorem ie_mulA (ha : IE X Wx a Fa) (hb : IE X Wx b Fb) : IE X Wx (.BinOp a .Mult b pos) (mBin wMul Fa Fb) := ie_bin op_mulA ok_mul ha hb
theorem it_ltA (ha : IE X Wx a Fa) (hb : IE X Wx b Fb) : IT X Wx (.Compare a [.Lt] [b] pos) (zae asB (mBin wLt Fa Fb)) := it_cmp op_ltA ok_lt ha hb (nomark _)
theorem t_chain {f f' : Op2} {r r' : R2} (hf : zec X.K X.w Wx f r) (hf' : zec X.K X.w Wx f' r') : ∀ σ H Q, tE X.K X.w Wx (mChain f f' Fa Fb Fc) σ H Q → tChain r r' (tE X.K X.w Wx Fa) (tE X.K X.w Wx Fb) (tE X.K X.w Wx Fc) σ H Q := by
 intro σ H Q h
 refine tM.bind2 (Fam' := Rw X.K) (R := fun (x y : V) (H2 : Hp) => r x y H2 fun z H3 => ∃ k, z = .bl k ∧ (if k = true then tE X.K X.w Wx Fc σ H3 (fun w' H4 => r' y w' H4 Q) else Q Ycd H3))
  (k := fun a b eta h2 => (f a b h2).bind fun z h3 => match z with
   | .t (.bl true) => (Fc eta h3).bind fun c h4 => f' b c h4
   | .t (.bl false) => .ok (.t Ycd) h3
   | _ => .bad) Rw.keep h fun s eta a b a' b' R1 S1 f1 f2 g => ?_
 refine hf s a a' b b' _ R1 f1 f2 (Go.bind g fun z z' s2 A2 R2 r2 _ g2 => ?_)
 split at g2
 ·simp only [Rw, Rf] at r2
  subst r2
  refine ⟨true, rfl, ?_⟩
  rw [if_pos rfl]
  exact ⟨s2, eta, rfl, R2, S1.aft A2 R1, Go.bind g2 fun w w' s3 A3 R3 r3 _ g3 => hf' s3 a' w b' w' Q R3 ((f2.aft A2 R1).aft A3 R2) r3 g3⟩
 ·simp only [Rw, Rf] at r2
  subst r2
  refine ⟨false, rfl, ?_⟩
  rw [if_neg Ybz]
  exact g2 _ s2 rfl (Aft.refl s2) R2 Yl
 ·exact g2.elim
theorem it_chain {op op' : CmpOp} {f f' : Op2} {r r' : R2} (ho : OpR X (compareOp op) r) (hf : zec X.K X.w Wx f r) (ho' : OpR X (compareOp op') r') (hf' : zec X.K X.w Wx f' r') (ha : IE X Wx a Fa) (hb : IE X Wx b Fb) (hc : IE X Wx c Fc)
  (hm : lastMarks [op, op'] [b, c] = false := by with_unfolding_all rfl) : IT X Wx (.Compare a [op, op'] [b, c] pos) (zae asB (mChain f f' Fa Fb Fc)) := PT.imp (pt_chain ho ho' ha hb hc hm) fun σ H Q h => by
 have h' : tE X.K X.w Wx (mChain f f' Fa Fb Fc) σ H (fun x H1 => ∃ k, x = .bl k ∧ Q k H1) := tM.bind1 (R := fun (x : V) (H1 : Hp) => ∃ k, x = .bl k ∧ Q k H1) (k := fun (a : W) _ hp => asB a hp) h fun s eta a b R1 _ f1 g => go_asB R1 f1 g
 exact t_chain hf hf' σ H _ h'
end
end Mir
namespace Mir
open PySem PySem.Spec L2
open PyProof.Rows hiding St
def mParG (n : Nat) (Fs : M (List W)) (Gs : List W → IS → Option IS) : M Fl := fun eta hp => (Fs eta hp).bind fun ws h1 => if ws.length = n ∧ n ≤ 16777216 then (match Gs ws eta with | some e => .ok (.nx e) h1 | none => .bad) else .bad
section
variable {X : Cx} {Wx : WX} {e : Expr} {es tgs : List Expr} {Fs : M (List W)} {F : M W} {pos p1 p2 : Pos} {gs : TGs} {Gs : List W → IS → Option IS} {vs : List Nat} {n k1 k2 : Nat}
def gA (n : Nat) (Gs : List W → IS → Option IS) : W → IS → Option IS := fun w eta => match w with
 | .t (.tup ts) => if ts.length = n then Gs Yr eta else none
 | .t (.pr ts) => if ts.length = n then Gs Yr eta else none
 | .t (.lst ts) => if ts.length = n then Gs Yr eta else none
 | _ => none
theorem PG.or {t t' : TG} (h : PG X e t) (h' : PG X e t') : PG X e (fun v σ H Q => t v σ H Q ∨ t' v σ H Q) := ⟨fun pins s σ H v u Q I r hw => by
 rcases hw with q | q
 ·exact h.run pins s σ H v u Q I r q
 ·exact h'.run pins s σ H v u Q I r q⟩
theorem pg_any {k : Nat} (hc : X.calm = true) (h : PGs X tgs gs) (hn : (assignEach tgs X.env).length = n := by rfl) (hst : (assignEach tgs X.env).findIdx? (·.1) = none := by rfl) :
  PG X (.Tuple tgs k pos) (fun v σ H Q => gTup X.K n gs v σ H Q ∨ gLst X.K n gs v σ H Q) := PG.or (pg_tup hc h hn hst) (pg_lst hc h hn hst)
theorem tg_any {K : PySem.W.Frag} {ω : World} (h : TgsOk K ω gs Gs vs) : TgOk K ω (fun v σ H Q => gTup K n gs v σ H Q ∨ gLst K n gs v σ H Q) (gA n Gs) vs := ⟨fun s w v eta σ eta' R1 r S1 e => by
 unfold gA at e
 split at e
 ·rename_i ts
  split at e
  ·rename_i hn
   obtain ⟨a, xs, ev, t, l⟩ : ∃ a vs, v = .ref a ∧ FTup K s.fz s.H a vs ∧ RfL K s.fz s.H ts vs := by simpa only [Rw, Rf] using r
   obtain ⟨σ', S2, w2, q2⟩ := h.run s Yr xs eta σ eta' R1 Yhu S1 e
   exact ⟨σ', S2, w2, fun Q q => .inl ⟨a, xs, ev, t.sq, by rw [← RfL.length l]; exact hn, q2 Q q⟩⟩
  ·cases e
 ·rename_i ts
  split at e
  ·rename_i hn
   obtain ⟨a, xs, ev, t, l⟩ : ∃ a vs, v = .ref a ∧ FPr s.fz s.H a vs ∧ RfL K s.fz s.H ts vs := by simpa only [Rw, Rf] using r
   obtain ⟨σ', S2, w2, q2⟩ := h.run s Yr xs eta σ eta' R1 Yhu S1 e
   exact ⟨σ', S2, w2, fun Q q => .inl ⟨a, xs, ev, t.sq, by rw [← RfL.length l]; exact hn, q2 Q q⟩⟩
  ·cases e
 ·rename_i ts
  split at e
  ·rename_i hn
   obtain ⟨a, xs, ev, t, l⟩ : ∃ a vs, v = .ref a ∧ FLst s.fz s.H a vs ∧ RfL K s.fz s.H ts vs := by simpa only [Rw, Rf] using r
   obtain ⟨σ', S2, w2, q2⟩ := h.run s Yr xs eta σ eta' R1 Yhu S1 e
   exact ⟨σ', S2, w2, fun Q q => .inr ⟨a, xs, ev, t.sq, by rw [← RfL.length l]; exact hn, q2 Q q⟩⟩
  ·cases e
 ·cases e⟩
end
def mIput (Fd Fk Fv : M W) : M Fl := fun eta hp => (Fv eta hp).bind fun v h1 => (Fd eta h1).bind fun d h2 => (Fk eta h2).bind fun k h3 => match d, k with
 | .r i, .t (.int k) => (match getL h3 i with | some xs => (match ixN xs.length k with | some j => .ok Yeq (h3.set i (some (.lst (xs.set j v)))) | none => .bad) | none => .bad)
 | _, _ => .bad
section
variable {X : Cx} {Wx : WX} {o i value : Expr} {Fo Fi Fv : M W} {pos pos' : Pos}
theorem st_iput (ho : IE X Wx o Fo) (hi : IE X Wx i Fi) (hv : IE X Wx value Fv)
  (ha : ∀ v, assign (.Subscript o i pos') X.env v = (do
   let ov ← holding [v] Yd5
   let iv ← holding [v, ov] (eval i X.env)
   standAt pos'
   holding [v, ov, iv] (setItem ov iv v)
   release [v, ov, iv] []) := by intro _; rfl) (hs : swapsWithSole [.Subscript o i pos'] value pos.line X.env = pure false := by rfl) (hw : swappedStores [.Subscript o i pos'] value X.env = pure none := by rfl)
  (h1 : (assignEach [.Subscript o i pos'] X.env).map (·.2) = [assign (.Subscript o i pos') X.env] := by rfl) : ISt X Wx (.Assign [.Subscript o i pos'] value pos) (mIput Fo Fi Fv) :=
 PS.imp (ps_asg hv (pg_sub ho hi set_list ha) hs hw h1) fun D σ H h =>
  tM.bind1 (R := fun v H1 => tE X.K X.w Wx Fo σ H1 fun x H2 => tE X.K X.w Wx Fi σ H2 fun y H3 => rSetL x y v H3 fun H4 => D.nx σ H4)
   (k := fun v eta h1 => (Fo eta h1).bind fun d h2 => (Fi eta h2).bind fun k h3 => (match d, k with
    | .r i, .t (.int k) => (match getL h3 i with | some xs => (match ixN xs.length k with | some j => .ok (Fl.nx eta) (h3.set i (some (.lst (xs.set j v)))) | none => .bad) | none => .bad)
    | _, _ => .bad : Res Fl)) h fun s eta a b R1 S1 f1 g1 => by
   refine ⟨s, eta, rfl, R1, S1, Go.bind g1 fun d d' s2 A2 R2 r2 _ g2 => ?_⟩
   refine ⟨s2, eta, rfl, R2, S1.aft A2 R1, Go.bind g2 fun k k' s3 A3 R3 r3 _ g3 => ?_⟩
   have S3 := (S1.aft A2 R1).aft A3 R2
   have rd := r2.aft A3 R2
   have rv := (f1.aft A2 R1).aft A3 R2
   split at g3
   ·rename_i i k _ _
    split at g3
    ·rename_i xs hx
     split at g3
     ·rename_i j hj
      obtain ⟨p, vs, e, e1, e2, l, _⟩ := R3.lst hx rd
      have ek : k' = .int k := by simpa only [Rw, Rf] using r3
      have A := aft_setL R3 (zcy hx) e1 (c := .lst (xs.set j a)) (o := .lst (vs.set j b))
      exact ⟨p, vs, k, j, e, ek, e2, by rw [← RwL.length l]; exact hj, Go.nx (s := s3.setL i p (.lst (xs.set j a)) (.lst (vs.set j b))) (rel_setL R3 (zcy hx) e1 ⟨_, rfl, RwL.setL j l rv⟩) (S3.aft A R3) (Go.aft g3 A)⟩
     ·exact g3.elim
    ·exact g3.elim
   ·exact g3.elim
end
def mFz (i : Nat) (B : M Fl) : M Fl := fun eta hp => match eta[i]? with
 | some (some w) => (zc9 w hp).bind fun w' h1 => B (eta.set i (some w')) h1
 | _ => .bad
section
variable {X : Cx} {Wx : WX} {rest : List Stmt} {B : M Fl}
theorem sl_same {K : PySem.W.Frag} {s : S4} {eta : IS} {σ : St} (S1 : Sl K s eta σ) (i : Nat) {w : W} {v : V} (h : σ[i]? = some (some v)) (r : Rw K s w v) : Sl K s Yhs σ := by
 have q := S1.set i r
 have e : σ.set i (some v) = σ := by
  apply List.ext_getElem?
  intro j
  by_cases hj : i = j
  ·subst hj
   rw [List.getElem?_set_self (by exact (List.getElem?_eq_some_iff.mp h).1), h]
  ·rw [List.getElem?_set_ne hj]
 rw [e] at q
 exact q
theorem is_fz (i : Nat) (h : ISs X Wx rest B) : ISs X Wx rest (mFz i B) := PSs.imp h fun D σ H q => by
 obtain ⟨s, eta, e1, R1, S1, g⟩ := q
 unfold mFz at g
 split at g
 ·rename_i w hw
  obtain ⟨v, h1, h2⟩ := S1.2 i w hw
  cases w with
  | t x => exact ⟨s, _, e1, R1, sl_same S1 i h1 h2, g⟩
  | r j =>
   simp only [zc9] at g
   cases hl : (getL s.hp j).bind allT with
   | none => simp only [hl] at g; exact g.elim
   | some ts =>
    simp only [hl] at g
    rw [Option.bind_eq_some_iff] at hl
    obtain ⟨ws, q1, q2⟩ := hl
    obtain ⟨a, vs, e, ea, e2, l, _⟩ := R1.lst q1 h2
    subst e
    have A := aft_frz R1 (zcy q1) ea
    rw [zcu q2] at l
    refine ⟨s.frz j a, _, e1, rel_frz R1 (zcy q1) ea, sl_same (S1.aft A R1) i h1 ?_, Go.aft g A⟩
    simp only [Rw, Rf]
    exact ⟨a, vs, rfl, ⟨.inr rfl, e2⟩, RfL.aft A R1 _ _ Ye6⟩
 ·exact g.elim
end
def oRepr : OpN := fun ws hp => match ws with
 | [w] => (match asT hp w with
  | some x => if fit x 60 = true ∧ (dat x).showable = true ∧ (dat x).shown.length ≤ 16777216 then .ok (.t (.str (dat x).shown)) hp else .bad
  | none => .bad)
 | _ => .bad
theorem fit_nodict : ∀ (x : T) (n : Nat), fit x n = true → (dat x).hasDict = false
 | .non, _, _ => rfl
 | .bl _, _, _ => rfl
 | .int _, _, _ => rfl
 | .str _, _, _ => rfl
 | .tup xs, 0, h => by simp [fit] at h
 | .tup xs, n + 1, h => by
  have : ∀ (xs : List T), fitL xs n = true → PyData.hasDictAll (datL xs) = false := by
   intro xs
   induction xs with
   | nil => intro _; rfl
   | cons x xs ih =>
    intro h
    simp only [fitL, Bool.and_eq_true] at h
    simp only [datL, PyData.hasDictAll, fit_nodict x n h.1, ih h.2, Bool.or_self]
  simpa [dat, PyData.hasDict] using this xs Yio
 | .lst xs, 0, h => by simp [fit] at h
 | .lst xs, n + 1, h => by
  have : ∀ (xs : List T), fitL xs n = true → PyData.hasDictAll (datL xs) = false := by
   intro xs
   induction xs with
   | nil => intro _; rfl
   | cons x xs ih =>
    intro h
    simp only [fitL, Bool.and_eq_true] at h
    simp only [datL, PyData.hasDictAll, fit_nodict x n h.1, ih h.2, Bool.or_self]
  simpa [dat, PyData.hasDict] using this xs Yio
 | .scr _, _, h => by simp [fit] at h
 | .pr _, _, h => by simp [fit] at h
 | .ty _, _, h => by simp [fit] at h
 | .dic _ _, _, h => by simp [fit] at h
 | .ins _ _ _, _, h => by simp [fit] at h
 | .cls _, _, h => by simp [fit] at h
 | .dit _ _, _, h => by simp [fit] at h
 | .exc _ _ _, _, h => by simp [fit] at h
termination_by _ n => n
def rRepr (K : PySem.W.Frag) : List V → Hp → VK → Prop := fun xs H Q => ∃ v d, xs = [v] ∧ Dp K H v d ∧ d.hasDict = false ∧ d.showable = true ∧ d.depth ≤ 60 ∧ d.shown.length ≤ sizeLine ∧ Q (.str d.shown) H
theorem call_reprD {X : Cx} (hgd : X.A.guards = some []) (hu : X.A.units + 64 < cLine) : CallR X (.builtin "repr") (rRepr X.K) := by
 intro pn s0 σ H xs us Q J r h
 obtain ⟨v, d, rfl, hd, hnd, hs, hdp, hz, q⟩ := h
 obtain ⟨u, rfl, rx⟩ := vals1 r
 obtain ⟨as, rd⟩ := Dp.reads J d v u hd rx
 have fin : ∀ (h' : Heap) (t : Tok) (tk : Nat), (∀ b o, s0.heap.get? b = some o → h'.get? b = some o) → EP X pn σ Q (.str d.shown t) { s0 with heap := h', toks := tk } := fun h' t tk hk => ⟨.str d.shown, H, J.kept (t' := tk) hk, ⟨t, rfl⟩, q⟩
 cases d with
 | none => cases rd; exact PySem.P.repr_of_none Yfr
 | bool b =>
  cases rd
  cases b
  ·exact PySem.P.repr_of_bool Yfr
  ·exact PySem.P.repr_of_bool Yfr
 | int i =>
  cases rd
  exact PySem.P.repr_of_int (by simpa [PyData.showable] using hs) Yfr
 | str x =>
  cases rd
  rw [PyData.shown_str] at hz
  exact PySem.P.repr_of_str (by have := fin s0.heap s0.toks (s0.toks + 1) fun _ _ e => e; rwa [PyData.shown_str] at this) hz
 | list xs =>
  obtain ⟨a, ea⟩ : ∃ a, u = .ref a := by cases rd; exact ⟨_, rfl⟩
  subst ea
  exact repr_of_reads' rd hs (fun z => by rw [hnd] at z; cases z) hgd Yb (fun _ _ e => e) fin hz
 | tuple xs =>
  obtain ⟨a, ea⟩ : ∃ a, u = .ref a := by cases rd; exact ⟨_, rfl⟩
  subst ea
  exact repr_of_reads' rd hs (fun z => by rw [hnd] at z; cases z) hgd Yb (fun _ _ e => e) fin hz
 | dict kvs => simp [PyData.hasDict] at hnd
theorem ok_repr {K : PySem.W.Frag} {ω : World} {Wx : WX} : OpNOk K ω Wx oRepr (rRepr K) := by
 intro s ws xs Q R r go
 unfold oRepr at go
 split at go
 ·obtain ⟨v, e, rv⟩ := RwL.one r
  subst e
  split at go
  ·rename_i x hx
   split at go
   ·rename_i hf
    exact ⟨v, dat x, rfl, asT_dp R hx rv hf.1, fit_nodict x 60 hf.1, hf.2.1, (zef x 60 hf.1).2, by rw [sizeLine_eq]; exact hf.2.2, go _ s rfl Ym R Yl⟩
   ·exact go.elim
  ·exact go.elim
 ·exact go.elim
end Mir
namespace Mir
open PySem PySem.Spec L2
open PyProof.Rows hiding St
/-- xs[::-1], a list that lives on -/
def oRevL : Op1 := fun a hp => match zey hp a with
 | some ws => .ok Ydc (hp ++ [some (.lst ws.reverse)])
 | none => .bad
theorem RwL.rev {K : PySem.W.Frag} {s : S4} : ∀ {ts : List W} {vs : List V}, RwL K s ts vs → RwL K s ts.reverse vs.reverse
 | [], _, h => by rw [show _ = [] from h]; rfl
 | x :: xs, vs, h => by
  obtain ⟨v, r, e, a, b⟩ := h
  subst e
  rw [List.reverse_cons, List.reverse_cons]
  exact RwL.append (RwL.rev b) (show RwL K s [x] [v] from ⟨v, [], rfl, a, rfl⟩)
section
variable {X : Cx} {Wx : WX} {e st a : Expr} {F : M W} {pos p3 p p1 pos1 : Pos} {live : Bool}
theorem t_revLv : ∀ σ H Q, tE X.K X.w Wx (mUn oRevL F) σ H Q → tRevL X.K (tE X.K X.w Wx F) σ H Q := fun σ H Q h =>
 tM.bind1 (R := fun (x : V) (H1 : Hp) => ∃ a xs, x = .ref a ∧ SqL X.K H1 a xs ∧ ∀ p, H1 p = none → Q (.ref p) (upd H1 p (.lst xs.reverse))) (k := fun (a : W) _ hp => oRevL a hp) h fun s eta a b R1 _ f1 g => by
  unfold oRevL at g
  split at g
  ·rename_i ws h1
   obtain ⟨p, us, e1, t1, q1⟩ := litems_sq R1 h1 f1
   exact ⟨p, us, e1, t1, fun q np => g (.ref q) (s.addL q (.lst ws.reverse) (.lst us.reverse)) rfl (aft_addL R1 np) (rel_addL R1 np ⟨_, rfl, RwL.rev q1⟩) (addL_r R1)⟩
  ·exact g.elim
theorem ie_revL {k : Nat} {p1 p2 : Pos} (he : IE X Wx e F) : IE X Wx (.Subscript e (.Slice none none (some (.UnaryOp .USub (.Constant (.int 1) k p1) p2)) p3) pos) (mUn oRevL F) := PE.imp (pe_revL he) t_revLv
end
end Mir
namespace Mir
open PySem PySem.Spec L2
open PyProof.Rows hiding St
end Mir
namespace Mir
open PySem PySem.Spec L2
open PyProof.Rows hiding St
theorem Sl.congr {K : PySem.W.Frag} {s s' : S4} {eta : IS} {σ : St} (hr : s'.rho = s.rho) (hf : ∀ a, s.fz a → s'.fz a) (k : ∀ a, s.fz a → s'.H a = s.H a) (h : Sl K s eta σ) : Sl K s' eta σ :=
 ⟨h.1, fun i w e => let ⟨v, a, b⟩ := h.2 i w e; ⟨v, a, b.congr hr hf k⟩⟩
end Mir
namespace Mir
open PySem PySem.Spec L2
open PyProof.Rows hiding St
end Mir
namespace Mir
open PySem PySem.Spec L2
open PyProof.Rows hiding St
end Mir
namespace Mir
open PySem PySem.Spec L2
open Sem (wp)
end Mir
namespace Mir
open PySem PySem.Spec L2
open PyProof.Rows hiding St
section
variable {K : PySem.W.Frag} {ω : World} {s : S4}
theorem RwK.split : ∀ {ws : List (Key × W)} {vs : List (Key × V)} {ts : List T}, RwK K s ws vs → allT (ws.map (·.2)) = some ts → RfL K s.fz s.H ts (vs.map (·.2)) ∧ vs = (ws.map (·.1)).zip (vs.map (·.2)) := by
 intro ws
 induction ws with
 | nil =>
  intro vs ts h e
  rw [show vs = [] from h]
  have e' : ts = [] := by simpa [allT] using e.symm
  subst e'
  exact ⟨by simp [RfL], rfl⟩
 | cons x xs ih =>
  intro vs ts h e
  obtain ⟨v, r, e1, a, b⟩ := h
  subst e1
  have q := zcu e
  cases ts with
  | nil => cases q
  | cons t ts =>
   simp only [List.map_cons, List.cons.injEq] at q
   obtain ⟨q1, q2⟩ := q
   have e2 : allT (xs.map (·.2)) = some ts := by
    rw [q2]
    clear e ih q2 b
    induction ts with
    | nil => rfl
    | cons u us ih => simp [allT, ih]
   obtain ⟨i1, i2⟩ := ih b e2
   rw [q1] at a
   refine ⟨?_, ?_⟩
   ·simp only [List.map_cons, RfL]
    exact ⟨v, _, rfl, a, i1⟩
   ·simp only [List.map_cons, List.zip_cons_cons]
    rw [← i2]
end
def freezeD (w : W) (hp : IH) : Res W := match w with
 | .r i => (match getD hp i with
  | some kvs => (match allT (kvs.map (·.2)) with | some ts => .ok (.t (.dic (kvs.map (·.1)) ts)) (hp.set i none) | none => .bad)
  | none => .bad)
 | _ => .bad
def mFrzD (F : M W) : M W := fun eta hp => (F eta hp).bind fun a h1 => freezeD a h1
section
variable {X : Cx} {Wx : WX} {e m k v : Expr} {F Fd Fk Fv : M W} {pos : Pos}
theorem RwK.isSome {K : PySem.W.Frag} {s : S4} (k : Key) {ws : List Yfy} {vs : List (Key × V)} (r : RwK K s ws vs) : (valV vs k).isSome = (valW ws k).isSome := by
 cases h : valW ws k with
 | none => rw [r.none k h]; rfl
 | some w => obtain ⟨v, h1, _⟩ := r.val k h; rw [h1]; rfl
end
end Mir
namespace Mir
open PySem PySem.Spec L2
open PyProof.Rows hiding St
end Mir
namespace Mir
open PySem PySem.Spec L2
open PyProof.Rows hiding St
end Mir
namespace Mir
open PySem PySem.Spec L2
open PyProof.Rows hiding St
def keyT : T → Option Key
 | .int i => some (.inl i)
 | .str x => some (.inr x)
 | _ => none
def keysT : List T → Option (List Key)
 | [] => some []
 | t :: r => match keyT t, keysT r with
  | some k, some ks => some (k :: ks)
  | _, _ => none
def putG (kvs : List Ye8) (k : List Key) (v : T) : List Ye8 :=
 if (kvs.any fun kv => decide (kv.1 = k)) = true then kvs.map (fun kv => if kv.1 = k then (kv.1, v) else kv) else kvs ++ [(k, v)]
def valD2 (kvs : List Ye8) (k : List Key) : Option T := (kvs.find? fun kv => decide (kv.1 = k)).map (·.2)
section
variable {K : PySem.W.Frag} {ω : World} {Wx : WX} {s : S4}
abbrev RD (K : PySem.W.Frag) (fz : Addr → Prop) (H : Hp) : List Ye8 → List Yfx → Prop := Paired fun e p => p.1 = e.1 ∧ Rf K fz H e.2 p.2
theorem RD.any {fz : Addr → Prop} {H : Hp} {l : List Ye8} {kvs : List Yfx} (r : RD K fz H l kvs) (k : List Key) : (kvs.any fun kv => decide (kv.1 = k)) = l.any fun kv => decide (kv.1 = k) := by
 induction r with
 | nil => rfl
 | cons h t ih => simp only [List.any_cons, ih, h.1]
theorem RD.repl {fz : Addr → Prop} {H : Hp} {l : List Ye8} {kvs : List Yfx} (r : RD K fz H l kvs) (k : List Key) {x : T} {v : V} (h : Rf K fz H x v) :
  RD K fz H (l.map fun kv => if kv.1 = k then (kv.1, x) else kv) (kvs.map fun kv => if kv.1 = k then (kv.1, v) else kv) := by
 induction r with
 | nil => exact .nil
 | @cons e p _ _ h1 t ih =>
  rw [List.map_cons, List.map_cons]
  refine .cons ?_ ih
  by_cases q : e.1 = k
  ·rw [if_pos q, if_pos (h1.1.trans q)]; exact ⟨h1.1, h⟩
  ·rw [if_neg q, if_neg (fun z => q (h1.1.symm.trans z))]; exact h1
theorem RD.put {fz : Addr → Prop} {H : Hp} {l : List Ye8} {kvs : List Yfx} (r : RD K fz H l kvs) (k : List Key) {x : T} {v : V} (h : Rf K fz H x v) : RD K fz H (putG l k x) (putK kvs k v) := by
 unfold putG putK
 rw [r.any k]
 split
 ·exact r.repl k h
 ·exact Paired.snoc r ⟨rfl, h⟩
theorem RD.zip {fz : Addr → Prop} {H : Hp} {l : List Ye8} {kvs : List Yfx} (r : RD K fz H l kvs) : kvs = (l.map (·.1)).zip (kvs.map (·.2)) ∧ RfL K fz H (l.map (·.2)) (kvs.map (·.2)) := by
 induction r with
 | nil => exact ⟨rfl, by simp [RfL]⟩
 | @cons e p _ _ h t ih =>
  refine ⟨?_, ?_⟩
  ·simp only [List.map_cons, List.zip_cons_cons]
   rw [← ih.1, ← h.1]
  ·simp only [List.map_cons, RfL]
   exact ⟨_, _, rfl, h.2, ih.2⟩
theorem RD.of {fz : Addr → Prop} {H : Hp} : ∀ {ks : List (List Key)} {ts : List T} {vs : List V}, RfL K fz H ts vs → RD K fz H (ks.zip ts) (ks.zip vs)
 | [], _, _, _ => .nil
 | k :: ks, [], vs, h => by simp only [RfL] at h; rw [h]; exact .nil
 | k :: ks, t :: ts, vs, h => by
  simp only [RfL] at h
  obtain ⟨v, r, rfl, a, b⟩ := h
  exact .cons ⟨rfl, a⟩ (RD.of b)
theorem RD.val {fz : Addr → Prop} {H : Hp} {l : List Ye8} {kvs : List Yfx} (r : RD K fz H l kvs) (k : List Key) : (valD2 l k = none ∧ valV kvs k = none) ∨ ∃ x v, valD2 l k = some x ∧ valV kvs k = some v ∧ Rf K fz H x v := by
 induction r with
 | nil => exact .inl ⟨rfl, rfl⟩
 | @cons e p _ _ h t ih =>
  by_cases q : e.1 = k
  ·refine .inr ⟨e.2, p.2, ?_, valV_pos (h.1.trans q), h.2⟩
   simp [valD2, List.find?_cons, q]
  ·have e1 : valV (p :: _) k = valV _ k := valV_neg (r := by assumption) (fun z => q (h.1.symm.trans z))
   have e2 : ∀ r, valD2 (e :: r) k = valD2 r k := fun r => by simp [valD2, List.find?_cons, q]
   rw [e1, e2]
   exact ih
theorem keys_rf {fz : Addr → Prop} {H : Hp} : ∀ {ts : List T} {vs : List V} {ks : List Key}, keysT ts = some ks → RfL K fz H ts vs → vs = ks.map kV
 | [], vs, ks, h, r => by
  simp only [keysT, Option.some.injEq] at h
  subst h
  simp only [RfL] at r
  exact r
 | t :: ts, vs, ks, h, r => by
  unfold keysT at h
  split at h
  ·rename_i k ks' h1 h2
   cases h
   simp only [RfL] at r
   obtain ⟨v, r', rfl, a, b⟩ := r
   rw [keys_rf h2 b, List.map_cons]
   refine congrArg (· :: _) ?_
   unfold keyT at h1
   split at h1
   ·cases h1; simp only [Rf] at a; exact a
   ·cases h1; simp only [Rf] at a; exact a
   ·cases h1
  ·cases h
end
end Mir
namespace Mir
open PySem PySem.Spec L2
open PyProof.Rows hiding St
section
variable {prog : Program} {w : World}
theorem SeqH.there {h : Heap} {kd : Kd} {a : Addr} {its : Array Value} (x : SeqH h kd a its) : ∃ o, h.get? a = some o := by
 cases kd with
 | l => obtain ⟨o, e, _⟩ := x; exact ⟨o, e⟩
 | t => obtain ⟨o, e, _⟩ := x; exact ⟨o, e⟩
theorem SeqH.kp {h h' : Heap} {kd : Kd} {a : Addr} {its : Array Value} (x : SeqH h kd a its) (k : ∀ o, h.get? a = some o → h'.get? a = some o) : SeqH h' kd a its := by
 cases kd with
 | l => obtain ⟨o, e, r⟩ := x; exact ⟨o, k o e, r⟩
 | t => obtain ⟨o, e, r⟩ := x; exact ⟨o, k o e, r⟩
end
end Mir
namespace Mir
open PySem PySem.Spec L2
open PyProof.Rows hiding St
section
variable {A B : Type} {eta : IS} {hp : IH}
@[simp] theorem zaf {a : A} {k : A → IH → Res B} : (Res.ok a hp).bind k = k a hp := rfl
@[simp] theorem bind_bad {k : A → IH → Res B} : (Res.bad : Res A).bind k = .bad := rfl
@[simp] theorem bind_er {e : Ex} {k : A → IH → Res B} : (Res.er e eta hp : Res A).bind k = .er e eta hp := rfl
@[simp] theorem zc3 {a : A} : noEr (Res.ok a hp) = Res.ok a hp := rfl
@[simp] theorem noEr_bad : noEr (Res.bad : Res A) = .bad := rfl
@[simp] theorem then_nx {S : M Fl} {e : IS} : thenF S (.nx e) hp = S e hp := rfl
@[simp] theorem then_rt {S : M Fl} {w : W} : thenF S (.rt w) hp = .ok (.rt w) hp := rfl
@[simp] theorem then_bk {S : M Fl} {e : IS} : thenF S (.bk e) hp = .ok (.bk e) hp := rfl
@[simp] theorem then_ct {S : M Fl} {e : IS} : thenF S (.ct e) hp = .ok (.ct e) hp := rfl
@[simp] theorem p_var {i : Nat} : mVar i eta hp = (match eta[i]? with | some (some w) => .ok w hp | _ => .bad) := rfl
@[simp] theorem p_c {x : T} : mC x eta hp = (.ok (.t x) hp) := rfl
@[simp] theorem p_bin {f : Op2} {Fa Fb : M W} : mBin f Fa Fb eta hp = ((Fa eta hp).bind fun a h1 => (Fb eta h1).bind fun b h2 => f a b h2) := rfl
@[simp] theorem p_un {f : Op1} {Fa : M W} : mUn f Fa eta hp = ((Fa eta hp).bind fun a h1 => f a h1) := rfl
@[simp] theorem p_nil  : mNil eta hp = (.ok [] hp) := rfl
@[simp] theorem p_cons {Fa : M W} {Fr : M (List W)} : zab Fa Fr eta hp = ((Fa eta hp).bind fun a h1 => (Fr eta h1).bind fun r h2 => .ok (a :: r) h2) := rfl
@[simp] theorem p_star {Fa : M W} {Fr : M (List W)} : mStar Fa Fr eta hp = ((Fa eta hp).bind fun a h1 => match items h1 a with | some ws => (Fr eta h1).bind fun r h2 => .ok (ws ++ r) h2 | none => .bad) := rfl
@[simp] theorem p_app {f : OpN} {Fs : M (List W)} : mApp f Fs eta hp = ((Fs eta hp).bind fun a h1 => f a h1) := rfl
@[simp] theorem p_frz {F : M W} : mFrz F eta hp = ((F eta hp).bind fun a h1 => zc9 a h1) := rfl
@[simp] theorem zdd {f : W → IH → Res Bool} {F : M W} : zae f F eta hp = ((F eta hp).bind fun a h1 => f a h1) := rfl
@[simp] theorem p_and {U V : M Bool} : mAnd U V eta hp = ((U eta hp).bind fun a h1 => if a then V eta h1 else .ok false h1) := rfl
@[simp] theorem p_or {U V : M Bool} : mOr U V eta hp = ((U eta hp).bind fun a h1 => if a then .ok true h1 else V eta h1) := rfl
@[simp] theorem p_not {U : M Bool} : mNot U eta hp = ((U eta hp).bind fun a h1 => .ok (!a) h1) := rfl
@[simp] theorem p_if {A : Type} {U : M Bool} {F G : M A} : mIf U F G eta hp = ((U eta hp).bind fun b h1 => if b then F eta h1 else G eta h1) := rfl
@[simp] theorem p_andV {Fa Fb : M W} : mAndV Fa Fb eta hp = ((Fa eta hp).bind fun a h1 => match a with | .t (.bl true) => Fb eta h1 | .t (.bl false) => .ok (.t Ycd) h1 | _ => .bad) := rfl
@[simp] theorem p_orV {Fa Fb : M W} : mOrV Fa Fb eta hp = ((Fa eta hp).bind fun a h1 => match a with | .t (.bl true) => .ok Ydd h1 | .t (.bl false) => Fb eta h1 | _ => .bad) := rfl
@[simp] theorem p_notV {Fa : M W} : mNotV Fa eta hp = ((Fa eta hp).bind fun a h1 => match a with | .t (.bl b) => .ok (.t (.bl (!b))) h1 | _ => .bad) := rfl
@[simp] theorem p_chain {f g : Op2} {Fa Fb Fc : M W} : mChain f g Fa Fb Fc eta hp = ((Fa eta hp).bind fun a h1 => (Fb eta h1).bind fun b h2 => (f a b h2).bind fun z h3 => match z with | .t (.bl true) => (Fc eta h3).bind fun c h4 => g b c h4 | .t (.bl false) => .ok (.t Ycd) h3 | _ => .bad) := rfl
@[simp] theorem p_skip  : zbh eta hp = (.ok Yeq hp) := rfl
@[simp] theorem p_seq {S R : M Fl} : mSeq S R eta hp = ((S eta hp).bind (thenF R)) := rfl
@[simp] theorem p_ret {F : M W} : mRet F eta hp = ((F eta hp).bind fun a h1 => .ok (.rt a) h1) := rfl
@[simp] theorem p_retN  : mRetN eta hp = (.ok (.rt Ybh) hp) := rfl
@[simp] theorem p_drop {F : M W} : mDrop F eta hp = ((F eta hp).bind fun _ h1 => .ok Yeq h1) := rfl
@[simp] theorem p_brk  : mBrk eta hp = (.ok (.bk eta) hp) := rfl
@[simp] theorem p_cnt  : mCnt eta hp = (.ok (.ct eta) hp) := rfl
@[simp] theorem p_asg {F : M W} {G : W → IS → Option IS} : mAsg F G eta hp = ((F eta hp).bind fun a h1 => match G a eta with | some e => .ok (.nx e) h1 | none => .bad) := rfl
@[simp] theorem p_set {i : Nat} {F : M W} : mSet i F eta hp = ((F eta hp).bind fun a h1 => .ok (.nx Yfu) h1) := rfl
@[simp] theorem p_par {is : List Nat} {Fs : M (List W)} : mPar is Fs eta hp = ((Fs eta hp).bind fun ws h1 => if ws.length = is.length then .ok (.nx ((is.zip ws).foldl Yiy eta)) h1 else .bad) := rfl
@[simp] theorem p_parG {n : Nat} {Fs : M (List W)} {Gs : List W → IS → Option IS} : mParG n Fs Gs eta hp = ((Fs eta hp).bind fun ws h1 => if ws.length = n ∧ n ≤ 16777216 then (match Gs ws eta with | some e => .ok (.nx e) h1 | none => .bad) else .bad) := rfl
@[simp] theorem p_aug {i : Nat} {f : Op2} {F : M W} : mAug i f F eta hp = (match eta[i]? with | some (some x) => (F eta hp).bind fun y h1 => (f x y h1).bind fun z h2 => .ok (.nx (eta.set i (some z))) h2 | _ => .bad) := rfl
@[simp] theorem p_for {Fi : M (List W)} {G : W → IS → Option IS} {S : M Fl} : mFor Fi G S eta hp = ((Fi eta hp).bind fun ws h1 => forL G S ws eta h1) := rfl
@[simp] theorem p_while {n : Nat} {U : M Bool} {S : M Fl} : mWhile n U S eta hp = (ze1 U S n eta hp) := rfl
@[simp] theorem p_comp {fin : OpN} {Fi : M (List W)} {G : W → IS → Option IS} {U : M Bool} {E : M W} {vs : List Nat} : zbq fin Fi G U E vs eta hp = ((Fi eta hp).bind fun ws h1 => if ws.length ≤ 16777216 then (zdt G U E (wipeI eta vs) ws h1).bind fun r h2 => fin r h2 else .bad) := rfl
@[simp] theorem p_sq {F : M W} : mSq F eta hp = ((F eta hp).bind sqI) := rfl
@[simp] theorem p_src {f : List W → IH → Res (List W)} {Fs : M (List W)} : mSrc f Fs eta hp = ((Fs eta hp).bind f) := rfl
@[simp] theorem p_yes  : mYes eta hp = (.ok true hp) := rfl
@[simp] theorem p_call {f : OpN} {ds : List T} {Fs : M (List W)} : zaq f ds Fs eta hp = ((Fs eta hp).bind fun ws h1 => noEr (f (ws ++ ds.map W.t) h1)) := rfl
@[simp] theorem p_meth0 {ty : W → IH → Bool} {f : OpM} {Fo : M W} : mMeth0 ty f Fo eta hp = ((Fo eta hp).bind fun w h1 => if ty w h1 = true then f w [] h1 else .bad) := rfl
@[simp] theorem p_meth {ty : W → IH → Bool} {f : OpM} {Fo : M W} {Fs : M (List W)} : zfd ty f Fo Fs eta hp = ((Fo eta hp).bind fun w h1 => if ty w h1 = true then (Fs eta h1).bind fun ws h2 => f w ws h2 else .bad) := rfl
@[simp] theorem p_sl {Fa : M W} {Fl Fh : MO} : mSl Fa Fl Fh eta hp = ((Fa eta hp).bind fun a h1 => (Fl eta h1).bind fun l h2 => (Fh eta h2).bind fun h h3 => slW a l h h3) := rfl
@[simp] theorem p_noPart  : zat eta hp = (.ok none hp) := rfl
@[simp] theorem p_part {F : M W} : zbt F eta hp = ((F eta hp).bind fun a h1 => match a with | .t (.int i) => .ok (some i) h1 | _ => .bad) := rfl
@[simp] theorem p_disp {ps : List (Key × M W)} : mDisp ps eta hp = ((mVals ps eta (hp ++ [some (.dic [])])).bind fun kvs h1 => match getD h1 hp.length with | some [] => if kvs.length ≤ 15 then .ok Ydc (h1.set hp.length (some (.dic (mergeW [] kvs)))) else .bad | _ => .bad) := rfl
@[simp] theorem p_dput {Fd Fk Fv : M W} : mDPut Fd Fk Fv eta hp = ((Fv eta hp).bind fun v h1 => (Fd eta h1).bind fun d h2 => (Fk eta h2).bind fun k h3 => match d, asK k with | .r i, some k => (match getD h3 i with | some kvs => if kvs.length < 16777216 then .ok Yeq (h3.set i (some (.dic (putW kvs k v)))) else .bad | none => .bad) | _, _ => .bad) := rfl
@[simp] theorem p_fz {i : Nat} {S : M Fl} : mFz i S eta hp = (match eta[i]? with | some (some w) => (zc9 w hp).bind fun w' h1 => S (eta.set i (some w')) h1 | _ => .bad) := rfl
@[simp] theorem p_gN {i : Nat} {w : W} : gN i w eta = some Yhs := rfl
@[simp] theorem p_gsN : gsN [] eta = some eta := rfl
@[simp] theorem p_gsC {G : W → IS → Option IS} {Gs : List W → IS → Option IS} {w : W} {ws : List W} : gsC G Gs (w :: ws) eta = (G w eta).bind fun e => Gs ws e := rfl
@[simp] theorem p_gTp {n : Nat} {Gs : List W → IS → Option IS} {ts : List T} : gT n Gs (.t (.pr ts)) eta = if ts.length = n then Gs Yr eta else none := rfl
@[simp] theorem p_gTt {n : Nat} {Gs : List W → IS → Option IS} {ts : List T} : gT n Gs Yaq eta = if ts.length = n then Gs Yr eta else none := rfl
@[simp] theorem p_gAp {n : Nat} {Gs : List W → IS → Option IS} {ts : List T} : gA n Gs (.t (.pr ts)) eta = if ts.length = n then Gs Yr eta else none := rfl
@[simp] theorem p_gAt {n : Nat} {Gs : List W → IS → Option IS} {ts : List T} : gA n Gs Yaq eta = if ts.length = n then Gs Yr eta else none := rfl
@[simp] theorem p_gAl {n : Nat} {Gs : List W → IS → Option IS} {ts : List T} : gA n Gs Yad eta = if ts.length = n then Gs Yr eta else none := rfl
@[simp] theorem p_forN {G : W → IS → Option IS} {S : M Fl} : forL G S [] eta hp = .ok Yeq hp := rfl
@[simp] theorem p_compN {G : W → IS → Option IS} {U : M Bool} {E : M W} : zdt G U E eta [] hp = .ok [] hp := rfl
@[simp] theorem zda {ts : List T} : allT Yr = some ts := by
 induction ts with
 | nil => rfl
 | cons t ts ih => simp [allT, ih]
@[simp] theorem seqT_t {ts : List T} : seqT Yaq = some ts := rfl
@[simp] theorem seqT_l {ts : List T} : seqT Yad = some ts := rfl
@[simp] theorem seqT_s {ts : List T} : seqT (.t (.scr ts)) = some ts := rfl
@[simp] theorem items_t {ts : List T} : items hp Yaq = some Yr := rfl
@[simp] theorem items_l {ts : List T} : items hp Yad = some Yr := rfl
@[simp] theorem items_s {ts : List T} : items hp (.t (.scr ts)) = some Yr := rfl
@[simp] theorem items_r {i : Nat} : items hp (.r i) = getL hp i := rfl
@[simp] theorem litems_l {ts : List T} : zey hp Yad = some Yr := rfl
@[simp] theorem litems_s {ts : List T} : zey hp (.t (.scr ts)) = some Yr := rfl
@[simp] theorem litems_r {i : Nat} : zey hp (.r i) = getL hp i := rfl
@[simp] theorem hitems_l {ts : List T} : hitems hp Yad = some Yr := rfl
@[simp] theorem hitems_r {i : Nat} : hitems hp (.r i) = getL hp i := rfl
@[simp] theorem asT_t {x : T} : asT hp (.t x) = some x := rfl
@[simp] theorem asT_r {i : Nat} : asT hp (.r i) = ((getL hp i).bind allT).map T.lst := rfl
@[simp] theorem getL_new {ws : List W} : getL Yiq hp.length = some ws := by simp [getL]
@[simp] theorem zc8 {i : Nat} {ws : List W} (h : i < hp.length) : getL (hp.set i (some (.lst ws))) i = some ws := by simp [getL, h]
theorem zfj {i : Nat} {ws : List W} (h : getL hp i = some ws) : i < hp.length := (List.getElem?_eq_some_iff.mp (zcy h)).1
end
@[simp] theorem allI_map : ∀ {ns : List Int}, allW asI (ns.map fun n => W.t (.int n)) = some ns
 | [] => rfl
 | n :: ns => by simp [allW, asI, allI_map (ns := ns)]
@[simp] theorem allS_map : ∀ {ns : List Str}, allW asS (ns.map fun n => W.t (.str n)) = some ns
 | [] => rfl
 | n :: ns => by simp [allW, asS, allS_map (ns := ns)]
@[simp] theorem allB_map : ∀ {ns : List Bool}, allW asBl (ns.map fun n => W.t (.bl n)) = some ns
 | [] => rfl
 | n :: ns => by simp [allW, asBl, allB_map (ns := ns)]
section
variable {hp : IH} {i j : Int} {b c neg : Bool} {x y : Str} {u v : T}
@[simp] theorem asB_bl : asB Ygc hp = .ok b hp := rfl
@[simp] theorem truW_bl : truW Ygc hp = .ok b hp := rfl
@[simp] theorem iNeg_i : iNeg Ya4 hp = .ok (.t (.int (-i))) hp := rfl
@[simp] theorem opI_ii {C : Int → Int → Bool} {g : Int → Int → Int} : opI C g Ya4 Yct hp = if C i j = true then .ok (.t (.int (g i j))) hp else .bad := rfl
@[simp] theorem opC_ii {g : Int → Int → Bool} : opC g Ya4 Yct hp = .ok (.t (.bl (g i j))) hp := rfl
@[simp] theorem cYes_t : cYes i j = true := rfl
@[simp] theorem wLt_ii : wLt Ya4 Yct hp = .ok (.t (.bl (decide (i < j)))) hp := rfl
@[simp] theorem wLt_ss : wLt Yd6 Yhh hp = .ok (.t (.bl (ltCps x.cps.toList y.cps.toList))) hp := rfl
@[simp] theorem wAdd_ii : wAdd Ya4 Yct hp = .ok (.t (.int (i + j))) hp := rfl
@[simp] theorem wAdd_tt {xs ys : List T} : wAdd (.t (.tup xs)) (.t (.tup ys)) hp = if xs.length + ys.length ≤ 16777216 then .ok (.t (.tup (xs ++ ys))) hp else .bad := rfl
@[simp] theorem wAdd_ll {xs ys : List T} : wAdd (.t (.lst xs)) (.t (.lst ys)) hp = if xs.length + ys.length ≤ 16777216 then .ok Yjf hp else .bad := by simp [wAdd]
@[simp] theorem wMul_ii : wMul Ya4 Yct hp = if cMul i j = true then .ok (.t (.int (i * j))) hp else .bad := rfl
@[simp] theorem wMul_li {xs : List T} : wMul (.t (.lst xs)) Yct hp = if -(2 ^ 63) ≤ j ∧ j < 2 ^ 63 ∧ xs.length * j.toNat ≤ 16777216 then .ok (.t (.lst (repT j.toNat xs))) hp else .bad := by simp [wMul]
@[simp] theorem eqW_tt : eqW neg (.t u) (.t v) hp = if fit u 60 = true ∧ fit v 60 = true then .ok (.t (.bl (if neg then !Mir.eqT u v else Mir.eqT u v))) hp else .bad := rfl
@[simp] theorem isN_n : isN neg Ybh Ybh hp = .ok (.t (.bl (!neg))) hp := rfl
@[simp] theorem isN_i : isN neg Ya4 Ybh hp = .ok (.t (.bl neg)) hp := rfl
@[simp] theorem isN_b : isN neg Ygc Ybh hp = .ok (.t (.bl neg)) hp := rfl
@[simp] theorem isN_t {ts : List T} : isN neg Yaq Ybh hp = .ok (.t (.bl neg)) hp := rfl
@[simp] theorem isB_bb : isB neg Ygc (.t (.bl c)) hp = .ok Yjg hp := rfl
@[simp] theorem ixW_l {ts : List T} : ixW Yad Ya4 hp = (match atI Yr i with | some w => .ok w hp | none => .bad) := rfl
@[simp] theorem ixW_t {ts : List T} : ixW Yaq Ya4 hp = (match atI Yr i with | some w => .ok w hp | none => .bad) := rfl
@[simp] theorem ixW_r {k : Nat} : ixW (.r k) Ya4 hp = (match (getL hp k).bind fun ws => atI ws i with | some w => .ok w hp | none => .bad) := rfl
@[simp] theorem oInt_i : oInt [.t (.int i)] hp = .ok Ya4 hp := rfl
@[simp] theorem oAbs_i : oAbs [.t (.int i)] hp = .ok (.t Yja) hp := rfl
@[simp] theorem oMax2_i : oMax2 [.t (.int i), .t (.int j)] hp = .ok (.t (.int (if j > i then j else i))) hp := rfl
@[simp] theorem oMin2_i : oMin2 [.t (.int i), .t (.int j)] hp = .ok (.t (.int (if j < i then j else i))) hp := rfl
@[simp] theorem zej {ts : List T} : oLen [.t (.lst ts)] hp = .ok (.t (.int ts.length)) hp := by simp [oLen]
@[simp] theorem oLen_t {ts : List T} : oLen [.t (.tup ts)] hp = .ok (.t (.int ts.length)) hp := by simp [oLen]
@[simp] theorem oLen_r {k : Nat} : oLen [.r k] hp = (match getL hp k with | some xs => .ok (.t (.int xs.length)) hp | none => .bad) := rfl
@[simp] theorem oTup_t {ts : List T} : oTup [.t (.tup ts)] hp = .ok Yaq hp := rfl
@[simp] theorem oTup_l {ts : List T} : oTup [.t (.lst ts)] hp = .ok Yaq hp := by simp [oTup]
@[simp] theorem oListF_l {ts : List T} : oListF [.t (.lst ts)] hp = .ok Yad hp := by simp [oListF]
@[simp] theorem oListF_t {ts : List T} : oListF [.t (.tup ts)] hp = .ok Yad hp := by simp [oListF]
@[simp] theorem oListL_l {ts : List T} : oListL [.t (.lst ts)] hp = .ok Ydc (hp ++ [some (.lst Yr)]) := rfl
@[simp] theorem oListL_t {ts : List T} : oListL [.t (.tup ts)] hp = .ok Ydc (hp ++ [some (.lst Yr)]) := rfl
@[simp] theorem sqI_l {ts : List T} : sqI Yad hp = .ok Yr hp := rfl
@[simp] theorem sqI_t {ts : List T} : sqI Yaq hp = .ok Yr hp := rfl
@[simp] theorem sqI_s {ts : List T} : sqI (.t (.scr ts)) hp = .ok Yr hp := rfl
@[simp] theorem rng1_i : rng1 [.t (.int i)] hp = if -(2 ^ 62) ≤ i ∧ i < 2 ^ 62 then .ok ((List.range i.toNat).map fun k => W.t (.int (0 + (k : Nat)))) hp else .bad := rfl
@[simp] theorem rng2_i : rng2 [.t (.int i), .t (.int j)] hp = if -(2 ^ 62) ≤ i ∧ i < 2 ^ 62 ∧ -(2 ^ 62) ≤ j ∧ j < 2 ^ 62 then .ok Yh8 hp else .bad := rfl
@[simp] theorem enum1_1 {a : W} : enum1 [a] hp = (match seqT a with | some ts => .ok (enumT 0 ts) hp | none => .bad) := rfl
@[simp] theorem zip2_2 {a b : W} : zip2 [a, b] hp = (match seqT a, seqT b with | some ts, some us => .ok (zipT ts us) hp | _, _ => .bad) := rfl
@[simp] theorem isL_r {k : Nat} : isL (.r k) hp = (getL hp k).isSome := rfl
@[simp] theorem isL_l {ts : List T} : isL Yad hp = true := rfl
@[simp] theorem isTp_t {ts : List T} : isTp Yaq hp = true := rfl
@[simp] theorem freeze_t : zc9 (.t u) hp = .ok (.t u) hp := rfl
@[simp] theorem freeze_r {k : Nat} : zc9 (.r k) hp = (match (getL hp k).bind allT with | some ts => .ok Yad (hp.set k none) | none => .bad) := rfl
@[simp] theorem fit_n {n : Nat} : fit .non n = true := by cases n <;> rfl
@[simp] theorem fit_b {n : Nat} : fit (.bl b) n = true := by cases n <;> rfl
@[simp] theorem fit_i {n : Nat} : fit (.int i) n = true := by cases n <;> rfl
@[simp] theorem fit_s {n : Nat} : fit (.str x) n = true := by cases n <;> rfl
@[simp] theorem fit_t {n : Nat} {ts : List T} : fit (.tup ts) (n + 1) = fitL ts n := rfl
@[simp] theorem fit_l {n : Nat} {ts : List T} : fit (.lst ts) (n + 1) = fitL ts n := rfl
@[simp] theorem fitL_n {n : Nat} : fitL [] n = true := by cases n <;> rfl
@[simp] theorem fitL_c {n : Nat} {ts : List T} : fitL (u :: ts) n = (fit u n && fitL ts n) := by cases n <;> rfl
@[simp] theorem eqT_nn : Mir.eqT .non .non = true := by simp [Mir.eqT]
@[simp] theorem eqT_ii : Mir.eqT (.int i) (.int j) = (i == j) := by simp [Mir.eqT]
@[simp] theorem eqT_bb : Mir.eqT (.bl b) (.bl c) = (b == c) := by simp [Mir.eqT]
@[simp] theorem eqT_ss : Mir.eqT (.str x) (.str y) = (x == y) := by simp [Mir.eqT]
@[simp] theorem eqT_tt {ts us : List T} : Mir.eqT (.tup ts) (.tup us) = eqTL ts us := by simp [Mir.eqT]
@[simp] theorem eqT_ll {ts us : List T} : Mir.eqT (.lst ts) (.lst us) = eqTL ts us := by simp [Mir.eqT]
@[simp] theorem eqTL_nn : eqTL [] [] = true := by simp [eqTL]
@[simp] theorem eqTL_cn {ts : List T} : eqTL (u :: ts) [] = false := by simp [eqTL]
@[simp] theorem eqTL_nc {ts : List T} : eqTL [] (u :: ts) = false := by simp [eqTL]
@[simp] theorem eqTL_cc {ts us : List T} : eqTL (u :: ts) (v :: us) = (Mir.eqT u v && eqTL ts us) := by simp [eqTL]
@[simp] theorem allT_n : allT [] = some [] := rfl
@[simp] theorem allT_c {ws : List W} : allT (.t u :: ws) = (allT ws).map (u :: ·) := rfl
@[simp] theorem lstOf_e {ws : List W} : zas ws hp = (match allT ws with | some ts => if ts.length ≤ 16777216 then .ok Yad hp else .bad | none => .bad) := rfl
@[simp] theorem tupOf_e {ws : List W} : za2 ws hp = (match allT ws with | some ts => if ts.length ≤ 16777216 then .ok Yaq hp else .bad | none => .bad) := rfl
@[simp] theorem newL_e {ws : List W} : newL ws hp = if ws.length ≤ 16777216 then .ok Ydc Yiq else .bad := rfl
@[simp] theorem oAppend_r {k : Nat} {w : W} : zb0 (.r k) [w] hp = (match getL hp k with | some xs => if xs.length < 16777216 then .ok Ybh (hp.set k (some (.lst (xs ++ [w])))) else .bad | none => .bad) := rfl
@[simp] theorem oPop_r {k : Nat} : oPop (.r k) [] hp = (match getL hp k with | some xs => (match xs[xs.length - 1]? with | some y => .ok y (hp.set k (some (.lst xs.dropLast))) | none => .bad) | none => .bad) := rfl
@[simp] theorem asK_i : asK Ya4 = some (.inl i) := rfl
@[simp] theorem asK_s : asK Yd6 = some (.inr x) := rfl
@[simp] theorem dGet_s {k : Nat} {w : W} : dGet (.r k) w hp = (match asK w with | some q => (match (getD hp k).bind fun kvs => valW kvs q with | some w => .ok w hp | none => .bad) | none => .bad) := by
 unfold dGet
 cases asK w <;> rfl
end
theorem fitL_ints {ns : List Int} {n : Nat} : fitL (ns.map T.int) n = true := by
 induction ns with
 | nil => simp
 | cons x xs ih => simp [ih]
theorem fitL_strs {ns : List Str} {n : Nat} : fitL (ns.map T.str) n = true := by
 induction ns with
 | nil => simp
 | cons x xs ih => simp [ih]
theorem bin_ok {f : Op2} {Fa Fb : M W} {eta : IS} {hp h1 h2 : IH} {a b : W} {r : Res W} (ha : Fa eta hp = .ok a h1) (hb : Fb eta h1 = .ok b h2) (h : f a b h2 = r) : mBin f Fa Fb eta hp = r := by
 rw [p_bin, ha, zaf, hb, zaf]
 exact h
theorem zbn {Fa : M W} {Fs : M (List W)} {eta : IS} {hp h1 h2 : IH} {a : W} {as : List W} (ha : Fa eta hp = .ok a h1) (hs : Fs eta h1 = .ok as h2) : zab Fa Fs eta hp = .ok (a :: as) h2 := by
 rw [p_cons, ha, zaf, hs, zaf]
theorem zar {f : OpN} {Fs : M (List W)} {eta : IS} {hp h1 h2 : IH} {w : W} {ws : List W} (hs : Fs eta hp = .ok ws h1) (h : f ws h1 = .ok w h2) : zaq f [] Fs eta hp = .ok w h2 := by
 rw [p_call, hs, zaf, List.map_nil, List.append_nil, h, zc3]
theorem test_ok {F : M W} {eta : IS} {hp h1 : IH} {b : Bool} (h : F eta hp = .ok Ygc h1) : zae asB F eta hp = .ok b h1 := by
 rw [zdd, h, zaf, asB_bl]
theorem if_no {A : Type} {U : M Bool} {F G : M A} {eta : IS} {hp h1 : IH} (h : U eta hp = .ok false h1) : mIf U F G eta hp = G eta h1 := by
 rw [p_if, h, zaf, if_neg Bool.false_ne_true]
theorem if_yes {A : Type} {U : M Bool} {F G : M A} {eta : IS} {hp h1 : IH} (h : U eta hp = .ok true h1) : mIf U F G eta hp = F eta h1 := by
 rw [p_if, h, zaf, if_pos rfl]
theorem zcg {S R : M Fl} {eta e1 : IS} {hp h1 : IH} {r : Res Fl} (h : S eta hp = .ok (.nx e1) h1) (g : R e1 h1 = r) : mSeq S R eta hp = r := by
 rw [p_seq, h, zaf, then_nx]
 exact g
theorem set_ok {i : Nat} {F : M W} {eta : IS} {hp h1 : IH} {w : W} (h : F eta hp = .ok w h1) : mSet i F eta hp = .ok (.nx Yhs) h1 := by
 rw [p_set, h, zaf]
theorem fnP_ok {n nn : Nat} {B : M Fl} {ts : List T} {hp h1 : IH} {x : T} {eta : IS} (hl : ts.length = n) (he : (ts.map W.t).map some ++ List.replicate (nn - n) none = eta) (h : B eta [] = .ok (.rt (.t x)) h1) : fnP n nn B Yr hp = .ok (.t x) hp := by
 unfold fnP
 rw [if_pos ⟨by rw [List.length_map]; exact hl, by rw [zda]; rfl⟩, he, h]
theorem fnM_ok {n nn : Nat} {B : M Fl} {ws : List W} {hp h1 : IH} {x : W} {eta : IS} (hl : ws.length = n) (he : ws.map some ++ List.replicate (nn - n) none = eta) (h : B eta hp = .ok (.rt x) h1) : fnM n nn B ws hp = .ok x h1 := by
 unfold fnM
 rw [if_pos hl, he, h]
end Mir
namespace Mir
open PySem PySem.Spec L2
open PyProof.Rows hiding St
theorem fitL_all {n : Nat} : ∀ {xs : List T}, (∀ x ∈ xs, fit x n = true) → fitL xs n = true
 | [], _ => by simp
 | x :: xs, h => by simp only [fitL_c, h x Yj, fitL_all fun y hy => h y (List.mem_cons_of_mem _ hy), Bool.and_self]
theorem comp_list {A : Type} {i : Nat} {U : M Bool} {E : M W} {f g : A → T} {p : A → Bool} {eta : IS} {hp : IH} : ∀ {as : List A}, (∀ a ∈ as, U (eta.set i (some (.t (f a)))) hp = .ok (p a) hp) → (∀ a ∈ as, p a = true → E (eta.set i (some (.t (f a)))) hp = .ok (.t (g a)) hp) →
  zdt (gN i) U E eta ((as.map f).map W.t) hp = .ok (((as.filter p).map g).map W.t) hp
 | [], _, _ => rfl
 | a :: as, h, k => by
  have h1 := h a Yj
  have ih := comp_list (i := i) (eta := eta) (as := as) (fun u hu => h u Ye9) fun u hu => k u Ye9
  cases q : p a with
  | true =>
   have k1 := k a Yj q
   simp only [List.map_cons, zdt, turnL, p_gN, h1, q, zaf, if_true, k1, zc3, ih, List.filter_cons_of_pos q]
  | false =>
   simp only [List.map_cons, zdt, turnL, p_gN, h1, q, zaf, Bool.false_eq_true, if_false, zc3, ih, List.filter_cons_of_neg (by simp [q] : ¬ p a = true)]
theorem comp_all {A : Type} {i : Nat} {E : M W} {f g : A → T} {eta : IS} {hp : IH} {as : List A} (h : ∀ a ∈ as, E (eta.set i (some (.t (f a)))) hp = .ok (.t (g a)) hp) : zdt (gN i) mYes E eta ((as.map f).map W.t) hp = .ok ((as.map g).map W.t) hp := by
 have := comp_list (i := i) (U := mYes) (E := E) (f := f) (g := g) (p := fun _ => true) (eta := eta) (hp := hp) (as := as) Ya3 fun a ha _ => h a ha
 rw [List.filter_eq_self.mpr fun _ _ => rfl] at this
 exact this
theorem app1_ok {f : OpN} {F : M W} {eta : IS} {hp h1 : IH} {a : W} {r : Res W} (h : F eta hp = .ok a h1) (g : f [a] h1 = r) : mApp f (zab F mNil) eta hp = r := by
 rw [p_app, zbn h rfl, zaf]
 exact g
end Mir
namespace Mir
open PySem PySem.Spec L2
open PyProof.Rows hiding St
abbrev wI (n : Int) : W := .t (.int n)
theorem allT_ints (ns : List Int) : allT (ns.map wI) = some (ns.map T.int) := by
 have : ns.map wI = (ns.map T.int).map W.t := by simp [wI]
 rw [this, zda]
theorem atI_end {A : Type} {xs : List A} {x : A} : atI (xs ++ [x]) (-1) = some x := by
 have h : ixN (xs.length + 1) (-1) = some xs.length := by
  unfold ixN
  rw [if_neg Yb, if_pos Yb]
  congr 1
  omega
 simp [atI, h]
theorem set_same {hp : IH} {j : Nat} {c : Option Cell} (h : hp[j]? = some c) : hp.set j c = hp := by
 apply List.ext_getElem?
 intro k
 by_cases hk : j = k
 ·subst hk
  rw [List.getElem?_set_self (List.getElem?_eq_some_iff.mp h).1, h]
 ·rw [List.getElem?_set_ne hk]
theorem log_small {n : Nat} (h : n < 2 ^ 31) : n.log2 < 31 := by
 by_cases h0 : n = 0
 ·subst h0; decide
 ·exact (Nat.log2_lt h0).mpr h
theorem getL_ne {hp : IH} {i j : Nat} {c : Option Cell} (h : j ≠ i) : getL (hp.set j c) i = getL hp i := by simp [getL, List.getElem?_set_ne h]
theorem cDiv_ok {x wide : Int} (hw : 0 < wide) (hw2 : wide < 2 ^ 64) : cDiv x wide = true := by
 simp only [cDiv, decide_eq_true_eq]
 refine ⟨hw, ?_⟩
 have : wide.natAbs.log2 < 64 := (Nat.log2_lt Yb).mpr Yb
 omega
theorem cMod_ok {x wide : Int} (hw : 0 < wide) : cMod x wide = true := by simpa [cMod] using hw
theorem cMul_ok {x y : Int} (hx : x.natAbs < 2 ^ 64) (hy : y.natAbs < 2 ^ 64) : cMul x y = true := by
 have h : ∀ n : Nat, n < 2 ^ 64 → n.log2 < 64 := fun n h => by
  by_cases h0 : n = 0
  ·subst h0; decide
  ·exact (Nat.log2_lt h0).mpr h
 simp only [cMul, decide_eq_true_eq]
 have := h _ hx
 have := h _ hy
 omega
theorem getL_keep {hp hp' : IH} {k : Nat} (h : hp'[k]? = hp[k]?) : getL hp' k = getL hp k := by unfold getL; rw [h]
theorem atI_nn {A : Type} {xs : List A} {n : Int} (h0 : 0 ≤ n) (h1 : n < xs.length) : atI xs n = xs[n.toNat]? := by
 unfold atI ixN
 rw [if_pos h0, if_pos h1]
 rfl
theorem fitL_erase {n : Nat} : ∀ {ts : List T} (k : Nat), fitL ts n = true → fitL (ts.eraseIdx k) n = true
 | [], _, _ => by simp
 | t :: ts, 0, h => by simp only [fitL_c, Bool.and_eq_true] at h; exact h.2
 | t :: ts, k + 1, h => by
  simp only [fitL_c, Bool.and_eq_true] at h
  simp only [List.eraseIdx_cons_succ, fitL_c, Bool.and_eq_true]
  exact ⟨h.1, fitL_erase k h.2⟩
theorem erase_map {A B : Type} (f : A → B) : ∀ (l : List A) (k : Nat), (l.map f).eraseIdx k = (l.eraseIdx k).map f
 | [], _ => rfl
 | _ :: _, 0 => rfl
 | x :: l, k + 1 => by simp [erase_map f l k]
theorem erase_perm {A : Type} : ∀ (l : List A) (k : Nat) (h : k < l.length), (l[k] :: l.eraseIdx k).Perm l
 | [], _, h => absurd h (Nat.not_lt_zero _)
 | x :: l, 0, _ => .refl _
 | x :: l, k + 1, h => by
  simp only [List.getElem_cons_succ, List.eraseIdx_cons_succ]
  exact (List.Perm.swap _ _ _).trans ((erase_perm l k (by simpa using h)).cons x)
theorem getL_app {hp : IH} {k : Nat} {c : List (Option Cell)} (h : k < hp.length) : getL (hp ++ c) k = getL hp k := by unfold getL; rw [List.getElem?_append_left h]
theorem perm_strs {zs : List T} {l : List Str} (h : zs.Perm Yew) : ∃ l' : List Str, l'.Perm l ∧ zs = l'.map T.str := by
 let g : T → Str := fun t => match t with | .str x => x | _ => "a"
 have e1 : (l.map T.str).map g = l := by simp [g, Function.comp_def]
 refine ⟨zs.map g, by rw [← e1]; exact h.map g, ?_⟩
 have : ∀ t ∈ zs, T.str (g t) = t := fun t ht => by
  have := h.mem_iff.mp ht
  rw [List.mem_map] at this
  obtain ⟨x, _, e⟩ := this
  rw [← e]
 rw [List.map_map]
 conv => lhs; rw [← List.map_id zs]
 exact List.map_congr_left fun t ht => (this t ht).symm
theorem cutL_map {A B : Type} (f : A → B) (xs : List A) (lo hi : Option Int) : cutL (xs.map f) lo hi = (cutL xs lo hi).map f := by
 unfold cutL
 rw [List.length_map, List.map_take, List.map_drop]
theorem cutL_len {A : Type} (xs : List A) (lo hi : Option Int) : (cutL xs lo hi).length ≤ xs.length := by
 unfold cutL
 rw [List.length_take, List.length_drop]
 omega
theorem cutL_to {A : Type} (xs : List A) (k : Nat) : cutL xs none (some (k : Int)) = xs.take k := by
 unfold cutL
 rw [HT.sIx_none, HT.sIx_nat]
 simp only [List.drop_zero, Nat.sub_zero]
 rcases Nat.le_total k xs.length with h | h
 ·rw [Nat.min_eq_left h]
 ·rw [Nat.min_eq_right h, List.take_of_length_le h, List.take_of_length_le Yd8]
def oT : Option Int → T | none => .non | some i => .int i
/-- a list or a tuple -/
def sqT (b : Bool) (ts : List T) : T := if b then .tup ts else .lst ts
def pos (w : List Str) (x : Str) : Nat := w.idxOf x
theorem ixW_sq {b : Bool} {ts : List T} {n : Nat} {hp : IH} (h : n < ts.length) : ixW (.t Yhi) (.t (.int n)) hp = .ok (.t ts[n]) hp := by
 have e : atI Yr (n : Int) = some (.t ts[n]) := by
  rw [atI_nn Yb (by simpa using h)]
  simp [h]
 cases b <;> simp [sqT, e]
def natW (k : Nat) : W := .t (.int (0 + (k : Nat)))
theorem rng_is {n : Nat} {hp : IH} (hn : n < 100000) : rng1 [.t (.int n)] hp = .ok ((List.range n).map natW) hp := by
 have c : -(2 ^ 62) ≤ (n : Int) ∧ (n : Int) < 2 ^ 62 := ⟨by omega, by omega⟩
 rw [rng1_i, if_pos c, Int.toNat_natCast]
 rfl
theorem for_ok {Fi : M (List W)} {G : W → IS → Option IS} {S : M Fl} {eta : IS} {hp h1 : IH} {ws : List W} (h : Fi eta hp = .ok ws h1) : mFor Fi G S eta hp = forL G S ws eta h1 := by
 rw [p_for, h]
 rfl
theorem zdx {fin : OpN} {Fi : M (List W)} {G : W → IS → Option IS} {U : M Bool} {E : M W} {vs : List Nat} {eta : IS} {hp h1 h2 : IH} {ws ys : List W} {r : Res W} (h : Fi eta hp = .ok ws h1) (hl : ws.length ≤ 16777216) (hc : zdt G U E (wipeI eta vs) ws h1 = .ok ys h2) (hf : fin ys h2 = r) :
  zbq fin Fi G U E vs eta hp = r := by
 rw [p_comp, h, zaf, if_pos hl, hc, zaf]
 exact hf
end Mir
namespace Mir
open PySem PySem.Spec L2
open PyProof.Rows hiding St
theorem binP {f : Op2} {Fa Fb : M W} {eta : IS} {hp : IH} {a b : W} {r : Res W} (ha : Fa eta hp = .ok a hp) (hb : Fb eta hp = .ok b hp) (h : f a b hp = r) : mBin f Fa Fb eta hp = r := bin_ok ha hb h
theorem za8 {F : M W} {eta : IS} {hp : IH} {b : Bool} (h : F eta hp = .ok Ygc hp) : zae asB F eta hp = .ok b hp := test_ok h
theorem zcn {f : OpN} {F : M W} {eta : IS} {hp : IH} {a : W} {r : Res W} (h : F eta hp = .ok a hp) (g : f [a] hp = r) : mApp f (zab F mNil) eta hp = r := app1_ok h g
theorem varP {i : Nat} {eta : IS} {hp : IH} {w : W} (h : eta[i]? = some (some w)) : mVar i eta hp = .ok w hp := by rw [p_var, h]
theorem iGt_ii {i j : Int} {hp : IH} : iGt Ya4 Yct hp = .ok (.t (.bl (decide (j < i)))) hp := rfl
theorem iGe_ii {i j : Int} {hp : IH} : iGe Ya4 Yct hp = .ok (.t (.bl (decide (j ≤ i)))) hp := rfl
theorem wMul_ok {i j : Int} {hp : IH} (h : cMul i j = true) : wMul Ya4 Yct hp = .ok (.t (.int (i * j))) hp := by rw [wMul_ii, if_pos h]
theorem frz_ok {k : Nat} {ts : List T} {hp : IH} (h : getL hp k = some Yr) : zc9 (.r k) hp = .ok Yad (hp.set k none) := by
 rw [freeze_r, h, Option.bind_some, zda]
theorem iMod_ok {i j : Int} {hp : IH} (h : cMod i j = true) : iMod Ya4 Yct hp = .ok (.t (.int (i % j))) hp := by unfold iMod; rw [opI_ii, if_pos h]
theorem iDiv_ok {i j : Int} {hp : IH} (h : cDiv i j = true) : iDiv Ya4 Yct hp = .ok (.t (.int (i / j))) hp := by unfold iDiv; rw [opI_ii, if_pos h]
theorem iput_ok {Fd Fk Fv : M W} {eta : IS} {hp h1 : IH} {i k : Nat} {v : W} {xs : List W} (hv : Fv eta hp = .ok v h1) (hd : Fd eta h1 = .ok (.r i) h1) (hk : Fk eta h1 = .ok (.t (.int k)) h1) (hx : getL h1 i = some xs) (hl : k < xs.length) : mIput Fd Fk Fv eta hp = .ok Yeq (h1.set i (some (.lst (xs.set k v)))) := by
 have e : ixN xs.length (k : Int) = some k := by
  unfold ixN
  rw [if_pos Yb, if_pos Yb]
  rfl
 unfold mIput
 rw [hv, zaf, hd, zaf, hk, zaf]
 simp only [hx, e]
theorem any_str {x : Str} : ∀ {l : List Str}, (l.map T.str).any (fun y => Mir.eqT y (.str x)) = decide (x ∈ l)
 | [] => by simp
 | y :: l => by
  have ih := any_str (x := x) (l := l)
  simp only [List.map_cons, List.any_cons, ih, eqT_ss]
  by_cases h : y = x
  ·subst h; simp
  ·have : ¬ x = y := fun e => h e.symm
   simp [h, this]
theorem bools_all {l : List Bool} {hp : IH} : oAll [.t (.lst (l.map T.bl))] hp = .ok (.t (.bl (l.all id))) hp := by
 have al : allW asBl ((l.map T.bl).map W.t) = some l := by rw [List.map_map]; exact allB_map
 simp only [oOnL, litems_l, Option.bind_some, al]
theorem sqI_sq {b : Bool} {ts : List T} {hp : IH} : sqI (.t Yhi) hp = .ok Yr hp := by cases b <;> rfl
theorem oTup_sq {b : Bool} {ts : List T} {hp : IH} : oTup [.t Yhi] hp = .ok Yaq hp := by cases b <;> simp [sqT]
end Mir
namespace Mir
open PySem PySem.Spec L2
open PyProof.Rows hiding St
section
variable {hp : IH} {i j : Int} {x y z u v : T} {ts us : List T} {w : W} {b c : Bool} {s r : Str}
theorem ev_for0 {G : W → IS → Option IS} {S : M Fl} {eta : IS} : forL G S [] eta hp = .ok Yeq hp := rfl
theorem ev_for1 {G : W → IS → Option IS} {S : M Fl} {eta : IS} {ws : List W} : forL G S (w :: ws) eta hp = (match G w eta with | none => .bad | some e1 => (S e1 hp).bind fun f h1 => match f with | .nx e2 => forL G S ws e2 h1 | .ct e2 => forL G S ws e2 h1 | .bk e2 => .ok (.nx e2) h1 | .rt w => .ok (.rt w) h1) := rfl
theorem ev_atl0 {A : Type} {a : A} {l : List A} : atI (a :: l) 0 = some a := by rw [atI_nn Yb (by rw [List.length_cons]; omega)]; rfl
theorem ev_atl1 {A : Type} {a a1 : A} {l : List A} : atI (a :: a1 :: l) 1 = some a1 := by rw [atI_nn Yb (by rw [List.length_cons, List.length_cons]; omega)]; rfl
theorem ev_atl2 {A : Type} {a a1 a2 : A} {l : List A} : atI (a :: a1 :: a2 :: l) 2 = some a2 := by rw [atI_nn Yb Yd2]; rfl
theorem ev_atl3 {A : Type} {a a1 a2 a3 : A} {l : List A} : atI (a :: a1 :: a2 :: a3 :: l) 3 = some a3 := by rw [atI_nn Yb Yd2]; rfl
theorem zes {a0 : T} : ixW (.t (.lst (a0 :: ts))) (.t (.int 0)) hp = .ok (.t a0) hp := by rw [ixW_l]; simp only [List.map_cons, ev_atl0]
theorem ev_ixt0 {a0 : T} : ixW (.t (.tup (a0 :: ts))) (.t (.int 0)) hp = .ok (.t a0) hp := by rw [ixW_t]; simp only [List.map_cons, ev_atl0]
theorem ev_ixl1 {a0 a1 : T} : ixW (.t (.lst (a0 :: a1 :: ts))) (.t (.int 1)) hp = .ok (.t a1) hp := by rw [ixW_l]; simp only [List.map_cons, ev_atl1]
theorem ev_ixt1 {a0 a1 : T} : ixW (.t (.tup (a0 :: a1 :: ts))) (.t (.int 1)) hp = .ok (.t a1) hp := by rw [ixW_t]; simp only [List.map_cons, ev_atl1]
theorem ev_ixl2 {a0 a1 a2 : T} : ixW (.t (.lst (a0 :: a1 :: a2 :: ts))) (.t (.int 2)) hp = .ok (.t a2) hp := by rw [ixW_l]; simp only [List.map_cons, ev_atl2]
theorem ev_ixt2 {a0 a1 a2 : T} : ixW (.t (.tup (a0 :: a1 :: a2 :: ts))) (.t (.int 2)) hp = .ok (.t a2) hp := by rw [ixW_t]; simp only [List.map_cons, ev_atl2]
theorem ev_ixl3 {a0 a1 a2 a3 : T} : ixW (.t (.lst (a0 :: a1 :: a2 :: a3 :: ts))) (.t (.int 3)) hp = .ok (.t a3) hp := by rw [ixW_l]; simp only [List.map_cons, ev_atl3]
theorem ev_ixt3 {a0 a1 a2 a3 : T} : ixW (.t (.tup (a0 :: a1 :: a2 :: a3 :: ts))) (.t (.int 3)) hp = .ok (.t a3) hp := by rw [ixW_t]; simp only [List.map_cons, ev_atl3]
theorem ev_atl4 {A : Type} {a a1 a2 a3 a4 : A} {l : List A} : atI (a :: a1 :: a2 :: a3 :: a4 :: l) 4 = some a4 := by rw [atI_nn Yb Yd2]; rfl
theorem ev_ixl4 {a0 a1 a2 a3 a4 : T} : ixW (.t (.lst (a0 :: a1 :: a2 :: a3 :: a4 :: ts))) (.t (.int 4)) hp = .ok (.t a4) hp := by rw [ixW_l]; simp only [List.map_cons, ev_atl4]
theorem ev_ixt4 {a0 a1 a2 a3 a4 : T} : ixW (.t (.tup (a0 :: a1 :: a2 :: a3 :: a4 :: ts))) (.t (.int 4)) hp = .ok (.t a4) hp := by rw [ixW_t]; simp only [List.map_cons, ev_atl4]
theorem ev_gt : iGt Ya4 Yct hp = .ok (.t (.bl (decide (j < i)))) hp := rfl
theorem ev_ge : iGe Ya4 Yct hp = .ok (.t (.bl (decide (j ≤ i)))) hp := rfl
theorem ev_le : iLe Ya4 Yct hp = .ok (.t (.bl (decide (i ≤ j)))) hp := rfl
theorem ev_sub : iSub Ya4 Yct hp = .ok (.t (.int (i - j))) hp := rfl
theorem ev_eqi {neg : Bool} : eqW neg Ya4 Yct hp = .ok Yje hp := by
 rw [eqW_tt, if_pos ⟨rfl, rfl⟩]
 rfl
theorem ev_eqs {neg : Bool} : eqW neg Yci (.t (.str r)) hp = .ok (.t (.bl (if neg then !decide (s = r) else decide (s = r)))) hp := by
 have h : (s == r) = decide (s = r) := by
  by_cases q : s = r
  ·subst q; simp
  ·simp [q]
 rw [eqW_tt, if_pos ⟨by simp, by simp⟩, eqT_ss, h]
theorem ev_eqb {neg : Bool} : eqW neg Ygc (.t (.bl c)) hp = .ok Yjg hp := by
 rw [eqW_tt, if_pos ⟨by simp, by simp⟩, eqT_bb]
 cases neg <;> cases b <;> cases c <;> rfl
theorem ev_wipe0 {eta : IS} : wipeI eta [] = eta := rfl
theorem ev_wipe1 {eta : IS} {k : Nat} {l : List Nat} : wipeI eta (k :: l) = (wipeI eta l).set k none := rfl
theorem ev_comp1 {G : W → IS → Option IS} {U : M Bool} {E : M W} {eta : IS} {ws : List W} : zdt G U E eta (w :: ws) hp = (noEr (match G w eta with | none => .bad | some e1 => (U e1 hp).bind fun b h1 => if b then (E e1 h1).bind fun y h2 => .ok (some y) h2 else .ok none h1)).bind fun o h1 => (zdt G U E eta ws h1).bind fun r h2 => .ok (match o with | some y => y :: r | none => r) h2 := rfl
end
end Mir
namespace Mir
open PySem PySem.Spec L2
open PyProof.Rows hiding St
theorem CN.inj {K : PySem.W.Frag} {c : Str} {C D : Addr} (h : CN K c C) (g : CN K c D) : C = D := by
 have e : some (some (Value.ref C)) = some (some (Value.ref D)) := h.symm.trans g
 cases e
 rfl
def insOf (hp : IH) : W → Option (Str × List Yfw)
 | .t (.ins c ns vs) => some (c, ns.zip (vs.map W.t))
 | .r i => (match hp[i]? with | some (some (.ins c fs)) => some (c, fs) | _ => none)
 | _ => none
section
variable {K : PySem.W.Frag} {ω : World} {s : S4}
theorem RwF.of_zip : ∀ {ns : List Str} {ts : List T} {vs : List V}, RfL K s.fz s.H ts vs → RwF K s (ns.zip Yr) (ns.zip vs)
 | [], _, _, _ => by rw [List.zip_nil_left, List.zip_nil_left]; rfl
 | _ :: _, [], vs, h => by simp only [RfL] at h; subst h; rfl
 | n :: ns, t :: ts, vs, h => by
  simp only [RfL] at h
  obtain ⟨v, r, rfl, a, b⟩ := h
  exact ⟨v, ns.zip r, rfl, a, RwF.of_zip b⟩
theorem RwF.look (f : Str) : ∀ {fs : List (Str × W)} {vs : List (Str × V)}, RwF K s fs vs → (∀ w, fs.lookup f = some w → ∃ v, vs.lookup f = some v ∧ Rw K s w v) ∧ (fs.lookup f = none → vs.lookup f = none)
 | [], vs, h => by rw [show vs = [] from h]; exact ⟨fun w e => by simp at e, fun _ => rfl⟩
 | (g, w) :: fs, vs, h => by
  obtain ⟨v, r, rfl, a, b⟩ := h
  obtain ⟨i1, i2⟩ := RwF.look f b
  by_cases e : f = g
  ·have hb : (f == g) = true := beq_iff_eq.mpr e
   exact ⟨fun u q => by
    simp only [List.lookup, hb, Option.some.injEq] at q ⊢
    subst q
    exact ⟨v, rfl, a⟩, fun q => by simp [List.lookup, hb] at q⟩
  ·have hb : (f == g) = false := beq_eq_false_iff_ne.mpr e
   exact ⟨fun u q => by
    simp only [List.lookup, hb] at q ⊢
    exact i1 u q, fun q => by
    simp only [List.lookup, hb] at q ⊢
    exact i2 q⟩
theorem RwF.names : ∀ {fs : List (Str × W)} {vs : List (Str × V)}, RwF K s fs vs → vs.map (·.1) = fs.map (·.1)
 | [], vs, h => by rw [show vs = [] from h]; rfl
 | (g, w) :: fs, vs, h => by
  obtain ⟨v, r, rfl, a, b⟩ := h
  rw [List.map_cons, List.map_cons, RwF.names b]
theorem RwF.length {fs : List Yfw} {vs : List Yfi} (h : RwF K s fs vs) : fs.length = vs.length := by
 have := congrArg List.length h.names
 rw [List.length_map, List.length_map] at this
 exact this.symm
theorem ins_at (R : Rel K ω s) {w : W} {v : V} {c : Str} {fs : List Yfw} (h : insOf s.hp w = some (c, fs)) (r : Rw K s w v) : ∃ a C dx vs, v = .ref a ∧ s.H a = some (.ins C dx vs) ∧ CN K c C ∧ RwF K s fs vs := by
 cases w with
 | r i =>
  obtain ⟨a, e1, e2⟩ := r
  simp only [insOf] at h
  split at h
  ·rename_i c' fs' hc
   simp only [Option.some.injEq, Prod.mk.injEq] at h
   obtain ⟨rfl, rfl⟩ := h
   obtain ⟨C, dx, vs, h1, h2, h3⟩ := R.cell i _ a hc e1
   exact ⟨a, C, dx, vs, e2, h1, h2, h3⟩
  ·cases h
 | t x =>
  unfold insOf at h
  split at h
  ·rename_i c' ns ts hx
   cases hx
   simp only [Option.some.injEq, Prod.mk.injEq] at h
   obtain ⟨rfl, rfl⟩ := h
   simp only [Rw, Rf] at r
   obtain ⟨a, C, vs, e, cn, t, _, l⟩ := r
   obtain ⟨_, dx, hH⟩ := t
   exact ⟨a, C, dx, _, e, hH, cn, RwF.of_zip l⟩
  ·rename_i hx
   cases hx
  ·cases h
end
/-- f may be read of, stored in an instance of the class c: no class of it has the name -/
structure FldOk (K : PySem.W.Frag) (c f : Str) : Prop where
 ex : ∃ C, CN K c C ∧ Cls K C ∧ NoAttr K C f
theorem FldOk.at_ {K : PySem.W.Frag} {c f : Str} {C : Addr} (h : FldOk K c f) (n : CN K c C) : Cls K C ∧ NoAttr K C f := by
 obtain ⟨D, n', h1, h2⟩ := h.ex
 cases n.inj n'
 exact ⟨h1, h2⟩
def fldW (cs : List Str) (f : Str) (w : W) (hp : IH) : Res W := match insOf hp w with
 | some (c, fs) => if c ∈ cs then (match fs.lookup f with | some x => .ok x hp | none => .bad) else .bad
 | none => .bad
def mFld (cs : List Str) (f : Str) (F : M W) : M W := fun eta hp => (F eta hp).bind fun a h1 => fldW cs f a h1
def putA (f : Str) (w : W) : List Yfw → List Yfw
 | [] => [(f, w)]
 | (g, x) :: r => if g = f then (g, w) :: r else (g, x) :: putA f w r
def fldSet (cs : List Str) (f : Str) (eta : IS) (o v : W) (hp : IH) : Res Fl := match o with
 | .r i => (match hp[i]? with
  | some (some (.ins c fs)) => if c ∈ cs ∧ fs.length < 1000 then .ok Yeq (hp.set i (some Yjh)) else .bad
  | _ => .bad)
 | _ => .bad
def mFldSet (cs : List Str) (f : Str) (Fo Fv : M W) : M Fl := fun eta hp => (Fv eta hp).bind fun v h1 => (Fo eta h1).bind fun o h2 => fldSet cs f eta o v h2
theorem RwF.put {K : PySem.W.Frag} {s : S4} {f : Str} {w : W} {v : V} (r : Rw K s w v) : ∀ {fs : List (Str × W)} {vs : List (Str × V)}, RwF K s fs vs → RwF K s (putA f w fs) (putF f v vs)
 | [], vs, h => by rw [show vs = [] from h]; exact ⟨v, [], rfl, r, rfl⟩
 | (g, x) :: fs, vs, h => by
  obtain ⟨u, q, rfl, a, b⟩ := h
  unfold putA putF
  by_cases e : g = f
  ·rw [if_pos e, if_pos e]
   exact ⟨v, q, rfl, r, b⟩
  ·rw [if_neg e, if_neg e]
   exact ⟨u, _, rfl, a, RwF.put r b⟩
section
variable {X : Cx} {Wx : WX} {e o val : Expr} {F Fo Fv : M W} {cs : List Str} {f : Str} {pos pos' : Pos}
theorem ie_fld (h : ∀ c ∈ cs, FldOk X.K c f) (he : IE X Wx e F) (hab : attributeBase e f X.env (eval e X.env) = eval e X.env := by rfl) : IE X Wx (.Attribute e f pos) (mFld cs f F) :=
 PE.imp (pe_fld he hab) fun σ H Q q => tM.bind1 (R := fun (x : V) (H1 : Hp) => ∃ a C dx fs v, x = .ref a ∧ H1 a = some (.ins C dx fs) ∧ Cls X.K C ∧ NoAttr X.K C f ∧ fs.lookup f = some v ∧ Q v H1) (k := fun (a : W) _ h1 => fldW cs f a h1) q fun s eta w v R1 S1 f1 g => by
  unfold fldW at g
  split at g
  ·rename_i c fs hi
   split at g
   ·rename_i hc
    split at g
    ·rename_i x hx
     obtain ⟨a, C, dx, vs, e, hH, cn, l⟩ := ins_at R1 hi f1
     obtain ⟨c1, c2⟩ := (h c hc).at_ cn
     obtain ⟨u, hu, ru⟩ := (l.look f).1 x hx
     exact ⟨a, C, dx, vs, u, e, hH, c1, c2, hu, g u s rfl Ym R1 ru⟩
    ·exact g.elim
   ·exact g.elim
  ·exact g.elim
theorem st_fld (h : ∀ c ∈ cs, FldOk X.K c f) (ho : IE X Wx o Fo) (hv : IE X Wx val Fv) (hs : swapsWith val (some (.Attribute o f pos')) pos.line X.env = pure false := by rfl) : ISt X Wx (.Assign [.Attribute o f pos'] val pos) (mFldSet cs f Fo Fv) :=
 PS.imp (ps_fld ho hv hs) fun D σ H q => by
  obtain ⟨s0, eta, e1, R0, S0, g0⟩ := q
  refine ⟨s0, eta, e1, R0, S0, Go.bind g0 fun v vv s1 A1 R1 f1 _ g1 => ?_⟩
  refine ⟨s1, eta, rfl, R1, S0.aft A1 R0, Go.bind g1 fun w ov s2 A2 R2 f2 eok g2 => ?_⟩
  clear eok
  have f1' := f1.aft A2 R1
  have S2 := (S0.aft A1 R0).aft A2 R1
  unfold fldSet at g2
  split at g2
  ·rename_i i
   split at g2
   ·rename_i c fs hc
    split at g2
    ·rename_i hh
     obtain ⟨a, e1, e2⟩ := f2
     obtain ⟨C, dx, vs, h1, h2, h3⟩ := R2.cell i _ a hc e1
     obtain ⟨c1, c2⟩ := (h c hh.1).at_ h2
     have ok : CellOk X.K X.w s2 a Yjh (some (.ins C dx (putF f vv vs))) := ⟨C, dx, _, rfl, h2, h3.put f1'⟩
     refine ⟨a, C, dx, vs, e2, h1, c1, c2, by rw [← h3.length]; exact hh.2, ?_⟩
     have A := aft_setL (c := .ins c (putA f v fs)) (o := .ins C dx (putF f vv vs)) R2 hc e1
     exact g2 (.nx σ) (s2.setL i a Yjh (.ins C dx (putF f vv vs))) rfl A (rel_setL R2 hc e1 ok) (S2.aft A R2)
    ·exact g2.elim
   ·exact g2.elim
  ·exact g2.elim
end
def frzAll : List Yfw → IH → Res (List T)
 | [], hp => .ok [] hp
 | x :: r, hp => (zc9 x.2 hp).bind fun w h1 => match w with
  | .t t => (frzAll r h1).bind fun ts h2 => .ok (t :: ts) h2
  | .r _ => .bad
def freezeI (w : W) (hp : IH) : Res W := match w with
 | .r i => (match hp[i]? with
  | some (some (.ins c fs)) => (frzAll fs hp).bind fun ts h1 => (match h1[i]? with | some (some (.ins _ _)) => .ok (.t (.ins c (fs.map (·.1)) ts)) (h1.set i none) | _ => .bad)
  | _ => .bad)
 | _ => .bad
def mFrzI (F : M W) : M W := fun eta hp => (F eta hp).bind fun w h1 => freezeI w h1
section
variable {K : PySem.W.Frag} {ω : World} {Wx : WX}
theorem frz_one {s : S4} {w : W} {v : V} {x : W} {h1 : IH} (R : Rel K ω s) (r : Rw K s w v) (g : zc9 w s.hp = .ok x h1) : ∃ s', s'.H = s.H ∧ s'.hp = h1 ∧ s'.rho = s.rho ∧ Aft s s' ∧ Rel K ω s' ∧ Rw K s' x v := by
 cases w with
 | t t =>
  simp only [zc9, Res.ok.injEq] at g
  obtain ⟨rfl, rfl⟩ := g
  exact ⟨s, rfl, rfl, rfl, Aft.refl s, R, r⟩
 | r i =>
  simp only [zc9] at g
  cases hq : (getL s.hp i).bind allT with
  | none => simp only [hq] at g; cases g
  | some ts =>
   simp only [hq, Res.ok.injEq] at g
   obtain ⟨rfl, rfl⟩ := g
   rw [Option.bind_eq_some_iff] at hq
   obtain ⟨ws, h1, h2⟩ := hq
   obtain ⟨a, vs, e, e1, e2, l, nf⟩ := R.lst h1 r
   subst e
   have A := aft_frz R (zcy h1) e1
   refine ⟨s.frz i a, rfl, rfl, rfl, A, rel_frz R (zcy h1) e1, ?_⟩
   rw [zcu h2] at l
   simp only [Rw, Rf]
   exact ⟨a, vs, rfl, ⟨.inr rfl, e2⟩, RfL.aft A R _ _ Ye6⟩
theorem frz_all : ∀ (fs : List (Str × W)) {s : S4} {vs : List (Str × V)} {ts : List T} {h1 : IH}, Rel K ω s → RwF K s fs vs → frzAll fs s.hp = .ok ts h1 → ∃ s', s'.H = s.H ∧ s'.hp = h1 ∧ s'.rho = s.rho ∧ Aft s s' ∧ Rel K ω s' ∧ RfL K s'.fz s'.H ts (vs.map (·.2)) ∧ ts.length = fs.length
 | [], s, vs, ts, h1, R, l, g => by
  simp only [frzAll, Res.ok.injEq] at g
  obtain ⟨rfl, rfl⟩ := g
  rw [show vs = [] from l]
  exact ⟨s, rfl, rfl, rfl, Aft.refl s, R, by simp [RfL], rfl⟩
 | (n, w) :: fs, s, vs, ts, h1, R, l, g => by
  obtain ⟨v, r, rfl, a, b⟩ := l
  simp only [frzAll] at g
  cases hf : zc9 w s.hp with
  | bad => rw [hf] at g; cases g
  | er _ _ _ => rw [hf] at g; cases g
  | ok x h2 =>
   rw [hf] at g
   obtain ⟨s2, e1, e2, e3, A2, R2, r2⟩ := frz_one R a hf
   cases x with
   | r _ => cases g
   | t t =>
    subst e2
    simp only [Res.bind] at g
    cases hg : frzAll fs s2.hp with
    | bad => rw [hg] at g; cases g
    | er _ _ _ => rw [hg] at g; cases g
    | ok us h3 =>
     rw [hg] at g
     simp only [Res.ok.injEq] at g
     obtain ⟨rfl, rfl⟩ := g
     obtain ⟨s3, q1, q2, q3, A3, R3, l3, n3⟩ := frz_all fs R2 (RwF.aft A2 R _ _ b) hg
     refine ⟨s3, q1.trans e1, q2, q3.trans e3, A2.trans A3, R3, ?_, by rw [List.length_cons, List.length_cons, n3]⟩
     rw [List.map_cons]
     simp only [RfL]
     exact ⟨v, _, rfl, Rf.aft A3 R2 _ _ r2, l3⟩
theorem zip_parts {A B : Type} : ∀ l : List (A × B), (l.map (·.1)).zip (l.map (·.2)) = l
 | [] => rfl
 | x :: l => by rw [List.map_cons, List.map_cons, List.zip_cons_cons, zip_parts l]
theorem go_freezeI {s : S4} {w : W} {v : V} {Q : VK} (R : Rel K ω s) (r : Rw K s w v) (g : Go K ω Wx (Rw K) s (freezeI w s.hp) Q) : Q v s.H := by
 unfold freezeI at g
 split at g
 ·rename_i i
  split at g
  ·rename_i c fs hc
   obtain ⟨a, e1, e2⟩ := r
   obtain ⟨C, dx, vs, h1, h2, h3⟩ := R.cell i _ a hc e1
   cases hg : frzAll fs s.hp with
   | bad => rw [hg] at g; exact g.elim
   | er _ _ _ =>
    exfalso
    have : ∀ (fs : List (Str × W)) (hp : IH) e eta h, frzAll fs hp ≠ .er e eta h := by
     intro fs
     induction fs with
     | nil => intro hp e eta h z; cases z
     | cons x fs ih =>
      intro hp e eta h z
      simp only [frzAll] at z
      cases hf : zc9 x.2 hp with
      | bad => rw [hf] at z; cases z
      | er _ _ _ =>
       cases hx : x.2 with
       | t t => rw [hx] at hf; cases hf
       | r j =>
        rw [hx] at hf
        simp only [zc9] at hf
        split at hf <;> cases hf
      | ok y h2 =>
       rw [hf] at z
       cases y with
       | r _ => cases z
       | t t =>
        simp only [Res.bind] at z
        cases hg : frzAll fs h2 with
        | bad => rw [hg] at z; cases z
        | ok _ _ => rw [hg] at z; cases z
        | er _ _ _ => exact ih _ _ _ _ hg
    exact this _ _ _ _ _ hg
   | ok ts h5 =>
    rw [hg] at g
    obtain ⟨s2, q1, q2, q3, A2, R2, l2, n2⟩ := frz_all fs R h3 hg
    subst q2
    simp only [Res.bind] at g
    split at g
    ·rename_i c' fs' hc'
     have ha : s2.rho[i]? = some a := by rw [q3]; exact e1
     have A3 := aft_frz R2 hc' ha
     have R3 := rel_frz R2 hc' ha
     have fin := g v (s2.frz i a) rfl (A2.trans A3) R3 (by
      simp only [Rw, Rf]
      refine ⟨a, C, vs.map (·.2), e2, h2, ⟨.inr rfl, dx, ?_⟩, by rw [List.length_map, n2], RfL.aft A3 R2 _ _ l2⟩
      rw [← h3.names, zip_parts]
      show s2.H a = _
      rw [q1]
      exact h1)
     have eH : (s2.frz i a).H = s.H := q1
     rw [eH] at fin
     exact fin
    ·exact g.elim
  ·exact g.elim
 ·exact g.elim
theorem ie_frzI {X : Cx} {e : Expr} {F : M W} (he : IE X Wx e F) : IE X Wx e (mFrzI F) := PE.imp he fun σ H Q h => by
 obtain ⟨s, eta, e1, R1, S1, g⟩ := h
 exact ⟨s, eta, e1, R1, S1, Go.bind g fun a b s' A' R' f' _ g' => go_freezeI R' f' g'⟩
end
end Mir
namespace Mir
open PySem PySem.Spec L2
open PyProof.Rows hiding St
section
variable {prog : Program} {w : World} {A : Around} {E : Value → Shared → Prop} {h : Heap} {g : Array GenState} {d : Drawn} {t : Nat} {os : OsState}
variable {nm q : Str} {C N : Addr} {bs bm : List Value} {hdct : Bool} {sn : List Str} {sub : List Value} {ab : Bool} {col : Option Bool} {dd : Option Addr} {k0 k1 k2 k3 k5 : Option Value}
/-- the built-in __init__ bound to the exception, called -/
theorem call_mw {B newId i : String} {bmB : List Value} (FB : PySem.ExcBaseFacts B newId i bmB) {u e t0 : Addr} {rest : List Value} {Q : Value → Shared → Prop}
  (hC : h.get? C = some (excClassObj nm q C N bs bm hdct sn sub ab col dd k0 k1 k2 k3 k5 newId)) (he : h.get? e = some (PySem.HandSPX.excO C t0)) (hu : h.get? u = some (PySem.W.kxs_mw i e)) (hrest : rest.length ≤ sizeLine)
  (hq : ∀ h' t1, (∀ b o, b ≠ e → h.get? b = some o → h'.get? b = some o) → h'.get? e = some (PySem.HandSPX.excO C t1) → Q .none ⟨h', g, d, t, os⟩) :
  wpAny Yav A (call (.ref u) rest) Q E ⟨h, g, d, t, os⟩ := by
 refine wpAny_call (codeAny_of_tree ?_)
 show wpAny _ A.in1 (callAny (.ref u) ⟨rest, []⟩) _ _ _
 simp only [callAny]
 refine wpAny_bind (wpAny_load hu ?_)
 simp only [PySem.W.kxs_mw, show (Value.type "method-wrapper" == Value.type "method" || Value.type "method-wrapper" == Value.type "builtin_function_or_method" || Value.type "method-wrapper" == Value.type "method-wrapper") = true by decide, if_true]
 refine PySem.W.KFB.if_so Ybz ?_
 refine wpAny_bind (PySem.W.check_bound_init FB.toExcCallFacts hC he rfl ?_)
 refine wpAny_bind (wpAny_pure (wpAny_pure ?_))
 refine ⟨plainId_quiet FB.init.plain _, codeAny_builtin FB.initEntry ?_⟩
 rw [Around.under_plainId FB.init.plain _]
 wp_walk
 refine hq _ h.objs.size (fun b o hb ho => ?_) ?_
 ·rw [Heap.get?_update_other _ _ (Ne.symm hb)]
  exact Heap.get?_push_of_some _ ho
 ·rw [Heap.get?_update_self _ (Heap.get?_push_of_some _ he) rfl]
  rfl
end
theorem ldL' {M : Model} {A : Around} {E : Value → Shared → Prop} {s : Shared} {env : Env} {m : Str → Option Value} {x : Str} {pos : Pos} {v : Value} {Q : Value → Shared → Prop} (hn : s.heap.Ns env.locals m) (hv : m x = some v) (h : Q v s)
  (hk : env.scope.kind = .function) (hl : env.kindOf x = some .local) (hd : (x == ("__debug__" : Str)) = false) : wpAny M A (eval Yix env) Q E s := wpAny_Name (wpAny_loadName_local hk hl hn hv h) hd
/-- what the written part says of such a class -/
structure XIni (P : Program) (K : PySem.W.Frag) (C fI : Addr) (qual fld : Str) (params : Arguments) (body : List Stmt) (scope : Scope) (fd : FuncData) : Prop where
 T : OexC K C
 ex : ∃ (oc : Value) (od : Option Addr) (kV doc pm : Value) (an : Option Addr) (cda : Addr) (ct : Value) (cc : Addr) (osl : Array Yc3) (ccl : Value) (cdd : Option Addr) (vs : Array Value) (ccs : Array Yc3) (file : Str) (tf : Tok) (cl : Value) (cld : Option Addr) (csl : Array Yc3),
  fd = PySem.W.ksFn "__init__" qual params body scope .none kV doc pm an Ygn ct cc ∧ K.lookup fI = some ⟨oc, od, .func fd, osl⟩ ∧ PySem.W.codeIn K Ygn qual = true ∧
  K.lookup cda = some ⟨ccl, cdd, .fields vs, ccs⟩ ∧ vs[2]? = some (.str file tf) ∧ ((P.main.file : Str) == file) = true ∧ K.lookup cc = some ⟨cl, cld, .cell (some (.ref C)), csl⟩
 iC : PySem.W.findIn K (.ref C) "__init__" = some (some Yh0)
 tI : PySem.W.typeIn K Yh0 = some Yfm
 sup : PySem.W.ks_superIn K C C "__init__" = some Yd9
 sub : PySem.W.subIn K (.ref C) (.type "ValueError") = some true
 mro : PySem.W.mroIn K C (.ref C) = some true
 gs : PySem.W.nsIn K mainGlobals "super" = some none
 ta : PySem.W.nsIn K PySem.cStatics "thirdparty.any" = some none
 fl : PySem.W.findIn K (.ref C) fld = some none
 top : (P.main.scope.names.lookup ("super" : Str)).isSome = false
/-- .. and its scope -/
structure XSc (par : Str) (ar : Arg) (params : Arguments) (scope : Scope) : Prop where
 hp : (params.posonlyargs ++ params.args).head? = some ar
 ha : ar.arg = ("self" : Str)
 ks : scope.names.lookup ("super" : Str) = some .globalImplicit
 kc : scope.names.lookup ("__class__" : Str) = some .free
 kself : scope.names.lookup Ygo = some .local
 kpar : scope.names.lookup par = some .local
 kind : scope.kind = .function
 co : scope.isCoroutine = false
 gen : scope.isGenerator = false
 cell : ∀ x ∈ scope.names, x.2 ≠ .cell
 ne : par ≠ ("self" : Str)
 db : (par == ("__debug__" : Str)) = false
section
variable {P : Program} {w : World} {K : PySem.W.Frag} {mg mb : Str → Option Value} {A : Around} {R : Result → Shared → Prop} {hp : Heap} {g : Array GenState} {d : Drawn} {t : Nat} {os : OsState}
theorem xini_code {C fI e t0 : Addr} {qual fld par txt : Str} {params : Arguments} {scope : Scope} {fd : FuncData} {ar : Arg} {args : Args} {u : Value} {p0 p1 p2 p3 p4 p5 p6 p7 p8 p9 : Pos} {j : Nat}
  (X : XIni P K C fI qual fld params [.Expr Yi p5, .Assign [.Attribute (.Name "self" p6) fld p7] (.Name par p8) p9] scope fd) (S : XSc par ar params scope)
  (KX : K.In hp) (Gg : hp.Ns mainGlobals mg) (Gb : hp.Ns builtinsNs mb) (Gbb : ∀ x : Str, x ≠ "__name__" → mb x = bootBuiltins x) (nl : hp.NoLimit) (hroom : A.depth < recursionLimit)
  (Ke : K.lookup e = none) (he : hp.get? e = some (PySem.HandSPX.excO C t0)) (hbind : BindsTo ⟨hp, g, d, t, os⟩ fd args [("self", .ref e), (par, u)])
  (hq : ∀ h' tk' dx t1, (∀ b o, b ≠ e → hp.get? b = some o → h'.get? b = some o) → hp.objs.size ≤ dx → dx ≠ e → h'.get? e = some ({ cls := .ref C, dict := some dx, data := .fields #[.ref t1, .none, .none, .none, .bool false, .none] } : Obj) →
   h'.Ns1 dx (fun y => if y = fld then some u else none) → R (.ok (.ret .none)) ⟨h', g, d, tk', os⟩)
  (hev : ∀ env : Env, eval Yi env = (do
   let ov ← attributeBase Yb5 "__init__" env (eval Yb5 env)
   standAt p2.atName
   let (f, first) ← holding [ov] Y6
   callWith p4 f first (backTo p4 Ydm) [])) :
  codeAny Ych A (.call Yh0 args) R ⟨hp, g, d, t, os⟩ := by
 obtain ⟨oc, od, kV, doc, pm, an, cda, ct, cc, osl, ccl, cdd, vs, ccs, file, tf, cl, cld, csl, rfl, lk, hcd, hcode, hvs, hfile, hcell⟩ := X.ex
 obtain ⟨nm, q, N, bs, bm, sn, sub, ab, col, dd, k0, k1, k2, k3, k5, hC, hbm⟩ := X.T.cls
 have hcl : PySem.W.clsIn K C = some { name := nm, bases := bs, mro := .ref C :: bm, ns := N, qualname := q, hasDict := true, slotNames := sn, subclasses := sub, abstract := ab, collection := col, hasDel := false } := by unfold PySem.W.clsIn; rw [hC] <;> rfl
 have kn : PySem.HandSPX.excO C t0 = PySem.HandSPX.excO C t0 := rfl
 refine PySem.ks_codeAny_call_defAt (binds := [("self", .ref e), (par, u)]) hroom (KX _ _ lk) rfl nl (PySem.W.codeRec_of KX hcd) rfl hbind S.cell ?_ (fun h₁ hns k1' => ?_) S.co S.gen S.kind
 ·intro x hx
  simp only [List.mem_cons, List.not_mem_nil, or_false] at hx
  rcases hx with rfl | rfl
  ·exact S.kself
  ·exact S.kpar
 have X1 : K.In h₁ := KX.keeps k1'
 have he1 := k1' _ _ he
 have hb1 : ([Yeh, (par, u)] : List (Str × Value)).reverse.lookup Ygo = some (Value.ref e) := by
  have : ((("self" : Str) == par)) = false := beq_eq_false_iff_ne.mpr (Ne.symm S.ne)
  show List.lookup Ygo [(par, u), Yeh] = _
  rw [List.lookup_cons, this]
  show List.lookup Ygo [Yeh] = _
  rw [List.lookup_cons, beq_self_eq_true]
 have hb2 : ([Yeh, (par, u)] : List (Str × Value)).reverse.lookup par = some u := by
  show List.lookup par [(par, u), Yeh] = _
  rw [List.lookup_cons, beq_self_eq_true]
 have hCg := X1 _ _ hC
 have heC : e ≠ C := by
  intro z
  rw [z, hCg] at he1
  cases he1
 have hal : PySem.W.alongIn K "__init__" bm = some Yd9 := by
  have q := X.sup
  unfold PySem.W.ks_superIn at q
  rw [hcl] at q
  have z : (((Value.ref C) :: bm).dropWhile (· != .ref C)).drop 1 = bm := by simp [List.dropWhile_cons]
  rw [← z]
  exact q
 have hi : interactive (PySem.W.ksEnv qual scope hp.objs.size fI Ygn cc) = false := by simp [interactive, S.kind]
 have FB := PySem.F.excBase_ValueError
 refine PySem.ks_wpAt_execs_cons (PySem.ks_wpAt_Expr_any (env := PySem.W.ksEnv qual scope hp.objs.size fI Ygn cc) (PySem.ks_wpAt_MethodCall ?_ (hev _)) hi)
 refine PySem.ks_wpAt_super_base (env := PySem.W.ksEnv qual scope hp.objs.size fI Ygn cc) S.ks S.kc Ybz rfl (X1 _ _ lk) rfl S.hp rfl (X1 _ _ hcode) rfl hvs hfile X.top ?_
 refine PySem.W.ks_loadName_global (env := PySem.W.ksEnv qual scope hp.objs.size fI Ygn cc) S.kind S.ks (PySem.Calls.loadGlobal_builtin (env := PySem.W.ksEnv qual scope hp.objs.size fI Ygn cc) (Gg.keeps k1') (PySem.W.mg_none_of KX Gg X.gs) (Gb.keeps k1') ((Gbb _ Yt).trans Yt) ⟨rfl, ?_⟩)
 refine wpAny_loadName_free (env := PySem.W.ksEnv qual scope hp.objs.size fI Ygn cc) S.kind S.kc rfl ⟨_, X1 _ _ hcell, rfl⟩ ?_
 rw [S.ha]
 refine wpAny_loadName_local (env := PySem.W.ksEnv qual scope hp.objs.size fI Ygn cc) S.kind S.kself hns hb1 ?_
 refine PySem.ks_wpAny_isType_cls hCg rfl ⟨rfl, ?_⟩
 refine PySem.ks_wpAny_call_super hCg rfl he1 rfl (fun c z => by cases z) (PySem.W.looks_mroIn X1 X.mro) (fun h2 e2 k2 => ?_)
 have X2 := X1.keeps k2
 have he2 := k2 _ _ he1
 refine PySem.W.kxs_getMethod PySem.W.kxs_ValueError e2 (PySem.W.looks_opaque X2 X.ta) (l₀ := .ref C :: bm) ((PySem.W.looks_clsIn X2 hcl).andThen .now) (l := bm) (by simp [List.dropWhile_cons]) X2 hal ?_ heC Ybz ?_
 ·exact (⟨he2, rfl, rfl, trivial⟩ : PySem.W.InstAt h2 e (PySem.HandSPX.excO C t0) C none).type.andThen (PySem.W.looks_subIn X2 X.sub)
 have k3 : ∀ b o, h2.get? b = some o → (h2.push Yg2).get? b = some o := fun b o q => Heap.get?_push_of_some _ q
 have hu : (h2.push Yg2).get? h2.objs.size = some Yg2 := Heap.get?_push_at rfl rfl
 have X3 := X2.keeps k3
 have he3 := k3 _ _ he2
 refine PySem.W.kxs_callWith (i := "ValueError.__init__") (x := e) rfl (Calls.evalArgs_plain (x := eval (.Constant (.str txt) j p3) (PySem.W.ksEnv qual scope hp.objs.size fI Ygn cc)) (rest := []) (Calls.spliced_cons (Calls.Constant_str (Calls.spliced_nil ⟨hu, ?_⟩))))
 refine call_mw (rest := [_]) FB (X3 _ _ hC) he3 hu (by rw [sizeLine_eq]; simp) fun h4 t1 k4 he4 => ?_
 -- self.fld = par
 have k14 : ∀ b o, b ≠ e → h₁.get? b = some o → h4.get? b = some o := fun b o hb q => k4 b o hb (k3 _ _ (k2 _ _ q))
 have X4 : K.In h4 := fun b o q => k4 b o (fun z => by rw [z, Ke] at q; cases q) (X3 b o q)
 have hL : e ≠ hp.objs.size := Nat.ne_of_lt (Heap.lt_size he)
 have hns4 : h4.Ns hp.objs.size _ := hns.at fun o q => k14 _ o (Ne.symm hL) q
 refine PySem.ks_wpAt_execs_cons (PySem.ks_wpAt_Assign_Attr (wpAt_of_wpAny (ldL' (env := PySem.W.ksEnv qual scope hp.objs.size fI Ygn cc) hns4 hb2 (ldL' (env := PySem.W.ksEnv qual scope hp.objs.size fI Ygn cc) hns4 hb1 ?_ S.kind S.kself Ybz) S.kind S.kpar S.db)))
 refine PySem.W.set_plain X4 (ox := { cls := .ref C, dict := none, data := .fields #[.ref t1, .none, .none, .none, .bool false, .none] }) (od := none) ⟨he4, rfl, rfl, trivial⟩ X.T.sa ?_
 refine PySem.HandSPX.exc_osa X4 he4 hcl (show PySem.HandSPX.refsVE (.ref C :: bm) = true from hbm) rfl X.fl (fun h5 tk5 dx k5' dn dne hx hn => ?_)
 refine wpAt_of_wpAny (wpAny_execs_nil ?_)
 refine hq h5 tk5 dx t1 (fun b o hb q => k5' b o hb (k14 b o hb (k1' b o q))) ?_ dne hx hn
 have : hp.objs.size ≤ h4.objs.size := by
  obtain ⟨oL, es, ep, hL2, _⟩ := hns4
  exact Nat.le_of_lt (Heap.lt_size hL2)
 exact Nat.le_trans this dn
end
/-- the promise of such an __init__ -/
def spI (C : Addr) (fld : Str) : Sp := fun vs H Q _ => ∃ (e : Addr) (y : V), vs = [.ref e, y] ∧ H e = some (exo e C none) ∧ ∀ dx, H dx = none → dx ≠ e → Q .non (upd (upd H dx (exd dx [(fld, y)])) e (exo e C (some dx)))
section
variable {P : Program} {w : World} {K : PySem.W.Frag} {mg : Str → Option Value} {base : Heap} {CX : CXT} {C fI : Addr} {qual fld par txt : Str} {params : Arguments} {scope : Scope} {fd : FuncData} {ar : Arg} {p0 p1 p2 p3 p4 p5 p6 p7 p8 p9 : Pos} {j : Nat}
theorem xini_run (X : XIni P K C fI qual fld params [.Expr Yi p5, .Assign [.Attribute (.Name "self" p6) fld p7] (.Name par p8) p9] scope fd) (S : XSc par ar params scope)
  (hev : ∀ env : Env, eval Yi env = (do
   let ov ← attributeBase Yb5 "__init__" env (eval Yb5 env)
   standAt p2.atName
   let (f, first) ← holding [ov] Y6
   callWith p4 f first (backTo p4 Ydm) []))
  {A : Around} {outer : List Env} {s : Shared} {H : Hp} {args : Args} {us : List Value} {vs : List V} {Q : VK} {E : XK} (hroom : A.depth < recursionLimit) (e0 : Env0 P w K mg base A outer s H) (hb : BindsTo s fd args (([Ygo, par] : List Str).zip us)) (r : Vals vs us) (h : spI C fld vs H Q E) :
  codeAny Ych A (.call Yh0 args) (CR CX outer P w H s Q E) s := by
 obtain ⟨e, y, rfl, he, q⟩ := h
 cases r with
 | @cons _ u0 _ ur ra rb =>
  cases rb with
  | @cons _ u _ ur2 ry rc =>
   cases rc
   obtain rfl : u0 = Value.ref e := ra
   obtain ⟨t0, ho⟩ := exo_at e0.hok he
   have keep : ∀ b o, base.get? b = some o → s.heap.get? b = some o := fun b o z => (e0.bs b o z).1
   have Ke : K.lookup e = none := by
    cases z : K.lookup e with
    | none => rfl
    | some o =>
     have z1 := (e0.bs e o (e0.mod.kin _ _ z)).2
     rw [he] at z1
     cases z1
   obtain ⟨mb, Gb, Gbb⟩ := e0.mod.blt
   have ok := e0.hok
   have bare := e0.bare
   have KX := e0.mod.kin.keeps keep
   have Gg : s.heap.Ns mainGlobals mg := e0.mod.glob.at fun o z => keep _ _ z
   have Gb' : s.heap.Ns builtinsNs mb := Gb.at fun o z => keep _ _ z
   have nl : s.heap.NoLimit := e0.mod.nolimit.keeps keep
   clear e0
   obtain ⟨hp, g, d, t, os⟩ := s
   refine xini_code X S KX Gg Gb' Gbb nl hroom Ke ho hb (fun h' tk' dx t1 k dn dne hx hn => ?_) hev
   have hnd : H dx = none := ok.fresh dn
   have nd : ∀ {b : Addr} {o : Obj}, hp.get? b = some o → b ≠ dx := fun {b o} q => Nat.ne_of_lt (Nat.lt_of_lt_of_le (Heap.lt_size q) dn)
   have na : ∀ {b : Addr}, H b = none → b ≠ e := fun {b} n z => by
    rw [z, he] at n
    cases n
   refine ⟨.non, upd (upd H dx (exd dx [(fld, y)])) e (exo e C (some dx)), rfl, bare, ?_, ?_, rfl, q dx hnd dne⟩
   ·exact {
     keep := fun b o q n _ _ => k b o (na n) q
     slot := fun b o q n _ _ => ⟨o.slots, k b o (na n) q⟩
     free := fun b o q n _ => by rw [upd_ne (na n), upd_ne (nd q)]; exact n
     there := fun b o q _ => by
      by_cases hb : b = e
      ·exact ⟨_, by rw [hb]; exact hx⟩
      ·exact ⟨o, k b o hb q⟩
     tups := fun b xs q => by rw [upd_ne (at_ne he q exo_tup), upd_ne (ne_of_none q hnd)]; exact q
     frzs := fun b o v q => by rw [upd_ne (at_ne he q exo_frz), upd_ne (ne_of_none q hnd)]; exact q
     tbls := fun b ps q => ⟨#[], by rw [upd_ne (at_ne he q exo_tbl), upd_ne (ne_of_none q hnd), q]; simp⟩ }
   ·intro b o q
    by_cases hb : b = e
    ·subst hb
     rw [upd_same] at q
     cases q
     exact exo_ok hx
    ·rw [upd_ne hb] at q
     by_cases hd : b = dx
     ·subst hd
      rw [upd_same] at q
      cases q
      exact exd_ok hn (relO_put (fs := []) ry fun g => True.intro)
     ·rw [upd_ne hd] at q
      exact (ok b o q).stay (fun c v hc z => k c v (by
        rcases hc with hc | hc
        ·rw [hc]
         exact hb
        ·exact at_ne he hc exo_own) z)
       (fun c hc => by rw [upd_ne (at_ne he hc exo_own), upd_ne (ne_of_none hc hnd)]; exact hc) (fun c xs hc => by rw [upd_ne (at_ne he hc exo_tup), upd_ne (ne_of_none hc hnd)]; exact hc)
theorem spI_len {vs : List V} {H : Hp} {Q : VK} {E : XK} (h : spI C fld vs H Q E) : vs.length = ([Ygo, par] : List Str).length := by
 obtain ⟨e, y, rfl, _⟩ := h
 rfl
theorem xini_ok (X : XIni P K C fI qual fld params [.Expr Yi p5, .Assign [.Attribute (.Name "self" p6) fld p7] (.Name par p8) p9] scope fd) (S : XSc par ar params scope)
  (hev : ∀ env : Env, eval Yi env = (do
   let ov ← attributeBase Yb5 "__init__" env (eval Yb5 env)
   standAt p2.atName
   let (f, first) ← holding [ov] Y6
   callWith p4 f first (backTo p4 Ydm) [])) : FnOk P w K mg base CX 1 fI fd [Ygo, par] (spI C fld) :=
 ⟨fun vs H Q E h => spI_len h, fun A outer s H args us vs Q E hr e0 hb r h => xini_run X S hev hr.depth e0 hb r h⟩
theorem xini_hot (X : XIni P K C fI qual fld params [.Expr Yi p5, .Assign [.Attribute (.Name "self" p6) fld p7] (.Name par p8) p9] scope fd) (S : XSc par ar params scope)
  (hev : ∀ env : Env, eval Yi env = (do
   let ov ← attributeBase Yb5 "__init__" env (eval Yb5 env)
   standAt p2.atName
   let (f, first) ← holding [ov] Y6
   callWith p4 f first (backTo p4 Ydm) [])) : L2H.FnH P w K mg base CX 1 fI fd [Ygo, par] (spI C fld) :=
 ⟨fun vs H Q E h => spI_len h, fun A outer s H args us vs Q E p hr _ _ e0 hb r h => xini_run X S hev hr.depth e0 hb r h⟩
end
end Mir
namespace Mir
open PySem PySem.Spec L2
open PyProof.Rows hiding St
section
variable {X : Cx} {CX : CXT} {k : Nat} {f C g p1 : Addr} {fd : FuncData} {ps : List Str} {sp : Sp} {dvs : List V} {ds : List Value} {E : L2.St → XK} {x m fl : Str} {p pos apos : Pos} {e o : Expr} {es : List Expr} {ta : TE} {t : TA} {pl : Sem Bool} {mc : Value}
theorem run_makeX {pins : List Yc5} {σ : L2.St} {H : Hp} {s : Shared} {Q : VK} {us : List Value} {vs : List V} (M : Mk X.K C f) (F : FnG X.prog X.w X.K X.mg X.base CX k f fd ps sp) (hr : Room (k + 1) X.A) (hgd : X.A.guards = some []) (hb : Binds X.K fd ps ds) (hd : Vals dvs ds) (hx : PassesAt CX X σ (E σ)) (I : Inv X pins σ H s) (r : Vals vs us)
  (h : ∀ x dx, H x = none → H dx = none → dx ≠ x → sp Yi0 (upd (upd H dx (.own x)) x Yh1) Yd3 (E σ)) : wpAny Yo X.A (call (.ref C) us) (EP X pins σ Q) X.xe s := by
 have q0 := h Ybj s.heap.objs.size (I.hok.fresh (Nat.le_succ _)) (I.hok.fresh Yd8) (Nat.ne_of_lt Yhv)
 have J := Inv.made (C := C) I
 have r2 : Vals (V.ref Ybj :: (vs ++ dvs)) (Value.ref Ybj :: (us ++ ds)) := .cons rfl (r.append hd)
 have el : (Value.ref Ybj :: us ++ ds).length = ps.length := (show _ = _ from r2.length.symm).trans (F.len _ _ _ _ q0)
 have cod := F.run (X.A.under (.builtin "type.__call__" ⟨.ref C :: us, []⟩)) X.stack _ _ ⟨Value.ref Ybj :: us, []⟩ (Value.ref Ybj :: (us ++ ds)) _ _ (E σ) (hr.make C us []) hgd (J.env0.make C us []) (hb _ (Value.ref Ybj :: us) J.kIn el) r2 q0
 refine wpAny_call (make_map (f := f) I.kIn M.makes M.init (beq_iff_eq.mp M.fn) (codeAny_mono cod ?_))
 rintro (er | fl) s' q
 ·exact hx pins _ _ er s' J q
 ·cases fl with
  | ret u =>
   obtain ⟨v, H', J2, rv, ev, q3⟩ := J.after q
   subst ev
   exact ⟨rv, V.ref Ybj, H', J2, rfl, q3⟩
  | next => exact (show False from q).elim
  | brk => exact (show False from q).elim
  | cont => exact (show False from q).elim
def tMakeX (C : Addr) (sp : Sp) (dvs : List V) (E : L2.St → XK) (t : TA) : TE := fun σ H Q => t σ H fun vs H1 => ∀ x dx, H1 x = none → H1 dx = none → dx ≠ x → sp Yi0 (upd (upd H1 dx (.own x)) x Yh1) Yd3 (E σ)
/-- cls(..), cls the i-th slot -/
def tMakeL (i : Nat) (C : Addr) (sp : Sp) (dvs : List V) (E : L2.St → XK) (t : TA) : TE := fun σ H Q => σ[i]? = some (some (.ref C)) ∧ tMakeX C sp dvs E t σ H Q
theorem pe_makeL {i : Nat} (M : Mk X.K C f) (F : FnG X.prog X.w X.K X.mg X.base CX k f fd ps sp) (hr : Room (k + 1) X.A) (hgd : X.A.guards = some []) (hN : X.N[i]? = some x) (hv : Vis X.env.scope x) (hb : Binds X.K fd ps ds) (hd : Vals dvs ds) (hx : ∀ σ, PassesAt CX X σ (E σ)) (ha : PA X Yal t)
  (hdb : (x == ("__debug__" : Str)) = false := by decide) (hcd : (x == ("__classdict__" : Str)) = false := by decide) (he : starEach Yal X.env = (false, eval e X.env) :: starEach es X.env := by rfl) (hpl : (backTo pos Ybq).any (·.1) = false := by rfl) : PE X Yah (tMakeL i C sp dvs E t) :=
 ⟨fun pins s σ H Q I h => by
  obtain ⟨hs, ht⟩ := h
  refine wpAny_Call_Name_kw (thn ((pe_var (pos := p) hN hv hdb hcd).run pins s σ H (fun v H1 => v = .ref C ∧ H1 = H) I ⟨.ref C, hs, rfl, rfl⟩) ?_)
  rintro u s1 ⟨v, H1, I1, r1, rfl, rfl⟩
  cases r1
  exact PySem.W.callWith_K (h₀ := X.base) I.ok.mod.kin M.kp (thn (ha.run pos pins s1 σ _ _ I1 ht) fun us s2 ⟨vs, H2, I2, r, q⟩ => ⟨I2.kIn, run_makeX M F hr hgd hb hd (hx σ) I2 r q⟩) he hpl⟩
/-- C.m(..), m a classmethod -/
def tCMethX (C : Addr) (sp : Sp) (dvs : List V) (E : L2.St → XK) (ta : TE) (t : TA) : TE := fun σ H Q => ta σ H fun x H1 => x = .ref C ∧ t σ H1 fun vs H2 => sp (.ref C :: (vs ++ dvs)) H2 Q (E σ)
theorem pe_cmethX (he : PE X o ta) (r : ClX.CRead X.K C mc) (c : ClX.CMet X.K C mc m p1 g) (F : FnG X.prog X.w X.K X.mg X.base CX k g fd ps sp) (hr : Room k X.A) (hgd : X.A.guards = some []) (hb : Binds X.K fd ps ds) (hd : Vals dvs ds) (hx : ∀ σ, PassesAt CX X σ (E σ)) (ha : PA X Yal t)
  (hst : starEach Yal X.env = (false, eval e X.env) :: starEach es X.env := by rfl) (hpl : (backTo pos Ybq).any (·.1) = false := by rfl)
  (ht : eval (.Call (.Attribute o m apos) Yal [] pos) X.env = (do let ov ← eval o X.env; standAt apos.atName; let (f, first) ← holding [ov] (getMethod ov m pl); callWith pos f first (backTo pos (starEach Yal X.env)) (backToKw pos Ygr)) := by rfl) :
  PE X (.Call (.Attribute o m apos) Yal [] pos) (tCMethX C sp dvs E ta t) := by
 refine ⟨fun pins s σ H Q I h => ?_⟩
 refine PySem.W.methodCall_KW (pl := pl) (thn (he.run pins s σ H _ I h) fun u s1 ⟨x, H1, I1, rx, ex, q⟩ => ?_) ht
 subst ex
 obtain rfl : u = Value.ref C := rx
 refine ClX.getmethcm_ok I1 r c fun s2 I2 => ?_
 refine ClX.callwith_cm I2 (ClX.base_none I1 Yd8) c.fi (thn (ha.run pos _ s2 σ H1 _ I2 q) fun us s3 ⟨vs, H2, I3, rv, q2⟩ => ⟨⟨ClX.pin_at I3, I3.kIn⟩, ?_⟩) hst hpl
 have r1 : Vals (V.ref C :: vs) (Value.ref C :: us) := .cons rfl rv
 have r2 : Vals (V.ref C :: vs ++ dvs) (Value.ref C :: us ++ ds) := r1.append hd
 have hl : (Value.ref C :: us ++ ds).length = ps.length := r2.length.symm.trans (F.len _ _ _ _ q2)
 refine thn (Q := EP X ((s1.heap.objs.size, PySem.W.methodObj (.ref g) (.ref C)) :: pins) σ Q) (wpAny_call (PySem.W.method_call (ClX.pin_at I3) (codeAny_mono (F.run X.A X.stack s3 H2 ⟨Value.ref C :: us, []⟩ (Value.ref C :: us ++ ds) (V.ref C :: vs ++ dvs) Q (E σ) hr hgd I3.env0 (hb s3 (Value.ref C :: us) I3.kIn hl) r2 q2) ?_))) fun _ _ y => ClX.unpinE y
 rintro (er | fl) s' hq
 ·exact hx σ _ H2 s3 er s' I3 hq
 ·cases fl with
  | ret u => exact I3.after hq
  | next => exact (show False from hq).elim
  | brk => exact (show False from hq).elim
  | cont => exact (show False from hq).elim
end
def reEr {A : Type} (eta : IS) (r : Res A) : Res A := match r with
 | .er e _ h => .er e eta h
 | r => r
def spX (K : PySem.W.Frag) (ω : World) (f : OpN) (n : Nat) : Sp := fun vs H Q E => ∃ (s : S4) (ws : List W), s.H = H ∧ Rel K ω s ∧ RwL K s ws vs ∧ ws.length = n ∧ Go K ω (fun cls d _ H' => E cls d H') (Rw K) s (f ws s.hp) Q
theorem Go.reEr {A B : Type} {K : PySem.W.Frag} {ω : World} {Wx : WX} {Fam : S4 → A → B → Prop} {s : S4} {eta : IS} {σ : L2.St} {r : Res A} {Q : B → Hp → Prop} (R : Rel K ω s) (S : Sl K s eta σ) (g : Go K ω Wx Fam s (reEr eta r) Q) : Go K ω (fun cls d _ H' => Wx cls d σ H') Fam s r Q := by
 cases r with
 | ok a h => exact g
 | er e eta' h => exact fun s' σ' cls d h1 h2 h3 h4 h5 => g s' σ cls d h1 h2 h3 (S.aft h2 R) h5
 | bad => exact g
/-- a def's function: exceptions go on; its cells stay -/
def fnX (n nn : Nat) (B : M Fl) : OpN := fun ws hp => if ws.length = n then (match B Yfz hp with
  | .ok (.rt w) h => .ok w h
  | .ok (.nx _) h => .ok Ybh h
  | .er e _ h => .er e [] h
  | _ => .bad) else .bad
theorem fnX_len {n nn : Nat} {B : M Fl} : ∀ ws hp, ws.length ≠ n → fnX n nn B ws hp = .bad := fun ws hp h => by unfold fnX; rw [if_neg h]
section
variable {K : PySem.W.Frag} {ω : World}
theorem spX_len {f : OpN} {n : Nat} {vs : List V} {H : Hp} {Q : VK} {E : XK} (h : spX K ω f n vs H Q E) : vs.length = n := by
 obtain ⟨s, ws, _, _, l, e, _⟩ := h
 rw [← RwL.length l, e]
variable {P : Program} {w : World} {mg : Str → Option Value} {base : Heap} {CX : CXT}
theorem okX {x qual : Str} {st : Stmt} {f : Addr} {fd : FuncData} {N ps : List Str} {k : Nat} {B : M Fl} {dfs : List V} {kws : List Yfi} (F : FunD K x qual (defArgs st) Yir Yde dfs kws f fd) (S : FnScope N ps Yde)
  (hb : ∀ (cdv : Value) (A : Around) (outer : List Env) (s : Shared) (H : Hp) (E : XK), Room k Ybs → A.guards = some [] → ISs Ydb (fun cls d _ H' => E cls d H') Yir B) :
  FnG P w K mg base CX (k + 1) f fd ps (spX K w (fnX ps.length N.length B) ps.length) := by
 refine Fun.okG F S (fun vs H Q E h => spX_len h) fun cdv A outer s H vs Q E hr hgd h => ⟨_, hb cdv A outer s H E hr hgd, ?_⟩
 obtain ⟨s0, ws, e1, R1, l, el, g⟩ := h
 refine ⟨s0, _, e1, R1, sl_start l, ?_⟩
 unfold fnX at g
 rw [if_pos el] at g
 rw [el]
 cases hB : B (ws.map some ++ List.replicate (N.length - ps.length) none) s0.hp with
 | ok fl hp =>
  rw [hB] at g
  cases fl with
  | rt wr => exact fun b s' h1 h2 h3 h4 => by cases b <;> first | exact h4.elim | exact g _ s' h1 h2 h3 h4
  | nx e => exact fun b s' h1 h2 h3 h4 => by cases b <;> first | exact h4.elim | exact g .non s' h1 h2 h3 (by simp [Rw, Rf])
  | bk e => exact g.elim
  | ct e => exact g.elim
 | er e eta hp =>
  rw [hB] at g
  exact fun s' σ' cls d h1 h2 h3 h4 h5 => g s' [] cls d h1 h2 h3 ⟨rfl, fun i w z => by simp at z⟩ h5
 | bad => rw [hB] at g; exact g.elim
end
def mMakeX (c : Str) (f : OpN) (ds : List T) (Fs : M (List W)) : M W := fun eta hp => (Fs eta hp).bind fun ws h1 => (reEr eta (f Yh2 Yho)).bind fun w h2 => match w with
 | .t .non => .ok (.r h1.length) h2
 | _ => .bad
def mCMeth (c : Str) (f : OpN) (ds : List T) (Fo : M W) (Fs : M (List W)) : M W := fun eta hp => (Fo eta hp).bind fun o h1 => match o with
 | .t (.cls c') => if c' = c then (Fs eta h1).bind fun ws h2 => reEr eta (f (o :: (ws ++ ds.map W.t)) h2) else .bad
 | _ => .bad
def mMakeL (i : Nat) (c : Str) (f : OpN) (ds : List T) (Fs : M (List W)) : M W := fun eta hp => match eta[i]? with
 | some (some (.t (.cls c'))) => if c' = c then mMakeX c f ds Fs eta hp else .bad
 | _ => .bad
section
variable {X : Cx} {Wx : WX} {CX : CXT} {k : Nat} {f C g p1 : Addr} {fd : FuncData} {ps : List Str} {m : OpN} {n : Nat} {c x mn fl : Str} {p pos apos : Pos} {e o : Expr} {es : List Expr} {Fo : M W} {Fs : M (List W)} {dvs : List V} {ds : List Value} {dts : List T} {pl : Sem Bool} {mc : Value}
theorem go_X {s : S4} {eta : IS} {σ : L2.St} {ws : List W} {vs : List V} {H : Hp} {Q : VK} (e1 : s.H = H) (R : Rel X.K X.w s) (S : Sl X.K s eta σ) (l : RwL X.K s ws vs) (hdt : ∀ s, RwL X.K s (dts.map W.t) dvs) (hl : ∀ ws hp, ws.length ≠ n → m ws hp = .bad)
  (g : Go X.K X.w Wx (Rw X.K) s (reEr eta (m (ws ++ dts.map W.t) s.hp)) Q) : spX X.K X.w m n (vs ++ dvs) H Q (WE Wx σ) := by
 refine ⟨s, ws ++ dts.map W.t, e1, R, RwL.append l (hdt s), ?_, Go.reEr R S g⟩
 by_cases q : (ws ++ dts.map W.t).length = n
 ·exact q
 ·rw [hl _ _ q] at g; exact g.elim
theorem go_madeX {s : S4} {eta : IS} {σ : L2.St} {x dx : Addr} {ws : List W} {vs : List V} {Q : VK} (R : Rel X.K X.w s) (S : Sl X.K s eta σ) (cn : CN X.K c C) (f1 : RwL X.K s ws vs) (hdt : ∀ s, RwL X.K s (dts.map W.t) dvs) (hl : ∀ ws hp, ws.length ≠ n → m ws hp = .bad) (nx : s.H x = none) (ndx : s.H dx = none) (ne : dx ≠ x)
  (g : Go X.K X.w Wx (Rw X.K) s ((reEr eta Yhp).bind fun w h2 => match w with | .t .non => .ok (.r s.hp.length) h2 | _ => .bad) Q) :
  spX X.K X.w m n Yi0 (upd (upd s.H dx (.own x)) x Yh1) Yd3 (WE Wx σ) := by
 have A0 := (Aft.refl s).setD (D := dx) (o' := .own x) ndx
 have R0 : Rel X.K X.w (s.setD dx (.own x)) := rel_setD R (R.fresh ndx).1 (R.fresh ndx).2
 have nx0 : (s.setD dx (.own x)).H x = none := by show upd s.H dx (.own x) x = none; rw [upd_ne (Ne.symm ne)]; exact nx
 have ok0 : CellOk X.K X.w (s.setD dx (.own x)) x (.ins c []) (some Yh1) := ⟨C, dx, [], rfl, cn, rfl⟩
 have A1 := aft_addL (c := .ins c []) (o := .ins C dx []) R0 nx0
 have R1 := rel_addL R0 nx0 ok0
 have A := A0.trans A1
 refine ⟨(s.setD dx (.own x)).addL x (.ins c []) Yh1, .r s.hp.length :: (ws ++ dts.map W.t), rfl, R1, ?_, ?_, ?_⟩
 ·exact ⟨.ref x, _, rfl, addL_r (s := s.setD dx (.own x)) R0, RwL.append (RwL.aft A R _ _ f1) (hdt _)⟩
 ·by_cases q : (W.r s.hp.length :: (ws ++ dts.map W.t)).length = n
  ·exact q
  ·rw [hl _ _ q] at g; exact g.elim
 ·have g' := Go.aft g A
  show Go X.K X.w (fun cls d _ H' => Wx cls d σ H') (Rw X.K) _ Yhp _
  cases hq : m (.r s.hp.length :: (ws ++ dts.map W.t)) (s.hp ++ [some (.ins c [])]) with
  | er e1 eta1 h1 =>
   rw [hq] at g'
   exact fun s' σ' cls d q1 q2 q3 q4 q5 => g' s' σ cls d q1 q2 q3 (S.aft (A.trans q2) R) q5
  | bad => rw [hq] at g'; exact g'.elim
  | ok a h =>
   rw [hq] at g'
   intro b s' e1 e2 e3 e4
   simp only [Mir.reEr, Res.bind] at g'
   split at g'
   ·have hb : b = .non := by simpa only [Rw, Rf] using e4
    refine ⟨hb, g' (.ref x) s' e1 e2 e3 ?_⟩
    obtain ⟨ex, pre, _⟩ := e2.pre
    refine ⟨x, ?_, rfl⟩
    rw [pre]
    have h0 : ((s.setD dx (.own x)).addL x (.ins c []) Yh1).rho[s.hp.length]? = some x := by
     obtain ⟨a, q1, q2⟩ := addL_r (K := X.K) (p := x) (c := .ins c []) (o := .ins C dx []) (s := s.setD dx (.own x)) R0
     cases q2
     exact q1
    rw [List.getElem?_append_left (List.getElem?_eq_some_iff.mp h0).1]
    exact h0
   ·exact g'.elim
theorem ie_makeL {i : Nat} (M : Mk X.K C f) (cn : CN X.K c C) (Fk : FnG X.prog X.w X.K X.mg X.base CX k f fd ps (spX X.K X.w m n)) (hr : Room (k + 1) X.A) (hgd : X.A.guards = some []) (hN : X.N[i]? = some x) (hv : Vis X.env.scope x) (hb : Binds X.K fd ps ds) (hd : Vals dvs ds) (hdt : ∀ s, RwL X.K s (dts.map W.t) dvs) (hl : ∀ ws hp, ws.length ≠ n → m ws hp = .bad)
  (hx : ∀ σ, PassesAt CX X σ (WE Wx σ)) (ha : IA X Wx Yal Fs)
  (hdb : (x == ("__debug__" : Str)) = false := by decide) (hcd : (x == ("__classdict__" : Str)) = false := by decide) (he : starEach Yal X.env = (false, eval e X.env) :: starEach es X.env := by rfl) (hpl : (backTo pos Ybq).any (·.1) = false := by rfl) : IE X Wx Yah (mMakeL i c m dts Fs) :=
 PE.imp (pe_makeL (i := i) (E := WE Wx) M Fk hr hgd hN hv hb hd hx ha hdb hcd he hpl) fun σ H Q h => by
  obtain ⟨s, eta, e1, R1, S1, g⟩ := h
  unfold mMakeL at g
  split at g
  ·rename_i c' q
   split at g
   ·rename_i hc
    subst hc
    obtain ⟨v, h1, h2⟩ := S1.2 i _ q
    simp only [Rw, Rf] at h2
    obtain ⟨C', ev, cn'⟩ := h2
    subst ev
    cases cn.inj cn'
    refine ⟨h1, ?_⟩
    have h' : tE X.K X.w Wx (mMakeX c' m dts Fs) σ H Q := ⟨s, eta, e1, R1, S1, g⟩
    exact tM.bind1 (R := fun (vs : List V) (H1 : Hp) => ∀ x dx, H1 x = none → H1 dx = none → dx ≠ x → spX X.K X.w m n Yi0 (upd (upd H1 dx (.own x)) x Yh1) Yd3 (WE Wx σ))
     (C := W) (k := fun (ws : List W) (eta : IS) (h1 : IH) => (reEr eta (m (W.r h1.length :: (ws ++ dts.map W.t)) (h1 ++ [some (Cell.ins c' [])]))).bind fun w h2 => match w with | .t .non => (Res.ok (W.r h1.length) h2 : Res W) | _ => .bad) h' fun s eta ws vs R1 S1 f1 g x dx nx ndx ne => go_madeX R1 S1 cn f1 hdt hl nx ndx ne g
   ·exact g.elim
  ·exact g.elim
theorem ie_cmeth (cn : CN X.K c C) (rd : ClX.CRead X.K C mc) (cm : ClX.CMet X.K C mc mn p1 g) (Fk : FnG X.prog X.w X.K X.mg X.base CX k g fd ps (spX X.K X.w m n)) (hr : Room k X.A) (hgd : X.A.guards = some []) (hb : Binds X.K fd ps ds) (hd : Vals dvs ds) (hdt : ∀ s, RwL X.K s (dts.map W.t) dvs) (hl : ∀ ws hp, ws.length ≠ n → m ws hp = .bad) (hx : ∀ σ, PassesAt CX X σ (WE Wx σ)) (ho : IE X Wx o Fo) (ha : IA X Wx Yal Fs)
  (hst : starEach Yal X.env = (false, eval e X.env) :: starEach es X.env := by rfl) (hpl : (backTo pos Ybq).any (·.1) = false := by rfl)
  (ht : eval (.Call (.Attribute o mn apos) Yal [] pos) X.env = (do let ov ← eval o X.env; standAt apos.atName; let (f, first) ← holding [ov] (getMethod ov mn pl); callWith pos f first (backTo pos (starEach Yal X.env)) (backToKw pos Ygr)) := by rfl) : IE X Wx (.Call (.Attribute o mn apos) Yal [] pos) (mCMeth c m dts Fo Fs) :=
 PE.imp (pe_cmethX (pl := pl) (E := WE Wx) ho rd cm Fk hr hgd hb hd hx ha hst hpl ht) fun σ H Q h => by
  obtain ⟨s0, eta, e1, R0, S0, g0⟩ := h
  refine ⟨s0, eta, e1, R0, S0, Go.bind g0 fun w v s1 A1 R1 f1 eok g1 => ?_⟩
  clear eok
  split at g1
  ·rename_i c'
   split at g1
   ·rename_i hc
    subst hc
    have f1' := f1
    simp only [Rw, Rf] at f1'
    obtain ⟨C', ev, cn'⟩ := f1'
    cases cn.inj cn'
    refine ⟨ev, s1, eta, rfl, R1, S0.aft A1 R0, Go.bind g1 fun ws us s2 A2 R2 f2 eok g2 => ?_⟩
    clear eok
    subst ev
    exact go_X (ws := .t (.cls c') :: ws) (vs := .ref C :: us) rfl R2 ((S0.aft A1 R0).aft A2 R1) ⟨.ref C, _, rfl, f1.aft A2 R1, f2⟩ hdt hl g2
   ·exact g1.elim
  ·exact g1.elim
end
end Mir
namespace Mir
open PySem PySem.Spec L2
open PyProof.Rows hiding St
/-- .. which a context that takes any takes -/
theorem takesN {X : Cx} {W : WX} (t : L2.Takes X W) : L2N.Takes X W := fun u s' ⟨a, B, sI, pins, σ, H, cls, d, e, I, nb, up, sky, na, os, ag, w⟩ =>
 t u s' ⟨a, B, sI, pins, σ, H, cls, d, e, I, nb, up, by
  rcases sky with ⟨h1, h2, h3, oe, vs, h4, h5, h6⟩ | h | ⟨h1, h2, h3, h4⟩
  ·exact .inl ⟨h1, h2, h3, oe, vs, h4, h5.zc, h6⟩
  ·exact .inr (.inl (L2H.flyingZ_imp (fun o z => z.zc) h))
  ·exact .inr (.inr ⟨h1, h2, h3, L2H.tracedZ_imp (fun o z => z.zc) h4⟩), na, os, ag, w⟩
theorem pmk_oexN {X : Cx} {CX : CXT} {x : Str} {e : Expr} {es : List Expr} {ta : TA} {p pos : Pos} {C fI : Addr} {k : Nat} {fd : FuncData} {ps : List Str} {sp : Sp} (T : OexC X.K C) (iC : PySem.W.findIn X.K (.ref C) "__init__" = some (some Yh0)) (tI : PySem.W.typeIn X.K Yh0 = some Yfm)
  (F1 : FnOk X.prog X.w X.K X.mg X.base CX k fI fd ps sp) (hr : Room (k + 1) X.A) (hb : Binds X.K fd ps []) (hx : Passes CX X Yfv) (hg : Gl X x) (hm : X.mg x = some (.ref C)) (ha : PA X Yal ta)
  (hdb : (x == ("__debug__" : Str)) = false := by decide) (he : starEach Yal X.env = (false, eval e X.env) :: starEach es X.env := by rfl) (hpl : (backTo pos Ybq).any (·.1) = false := by rfl) :
  L2N.PMk X Yah (tMkO C sp [] ta) := by
 intro pins s σ H Q I h
 obtain ⟨nm, q, N, bs, bm, sn, sub, ab, col, dd, k0, k1, k2, k3, k5, hC, hbm⟩ := T.cls
 refine wpAny_Call_Name_kw (ld_glob I hg hm ?_ hdb)
 refine PySem.W.callWith_K (h₀ := X.base) I.ok.mod.kin T.kC (thn (ha.run pos pins s σ H _ I h) fun us s1 ⟨vs, H1, I1, r1, hz, q1⟩ => ⟨I1.kIn, ?_⟩) he hpl
 show wpAny _ _ (call (.ref C) us) _ _ _
 obtain ⟨hp, g, dr, tk, os⟩ := s1
 have hsz : hp.objs.size ≤ hp.objs.size + 1 := Nat.le_succ _
 have hn : H1 Yce = none := I1.hok.fresh hsz
 have hq := q1 Yce hn
 rw [List.append_nil] at hq
 have kk : ∀ b o, hp.get? b = some o → ((hp.push (PySem.W.kdv_tup us)).push Yc7).get? b = some o := fun b o e => Heap.get?_push_of_some _ (Heap.get?_push_of_some _ e)
 have hget : ((hp.push (PySem.W.kdv_tup us)).push Yc7).get? Yce = some Yc7 := by heap_get
 have I2 : Inv X pins σ (upd H1 Yce (exo Yce C none)) ⟨(hp.push (PySem.W.kdv_tup us)).push Yc7, g, dr, tk, os⟩ :=
  I1.laid (t' := tk) (a := hp.objs.size + 1) (o := exo Yce C none) (h' := (hp.push (PySem.W.kdv_tup us)).push Yc7) kk hsz (exo_ok hget)
 have r2 : Vals (V.ref Yce :: vs) (Value.ref Yce :: us) := .cons rfl r1
 have hl : (Value.ref Yce :: us ++ []).length = ps.length := by
  have e := r2.length
  rw [F1.len _ _ _ _ hq] at e
  rw [List.append_nil]
  exact e.symm
 have hus : us.length ≤ sizeLine := by
  rw [← Paired.length r1, sizeLine_eq]
  omega
 have b2 := hb _ (Value.ref Yce :: us) I2.kIn hl
 rw [List.append_nil] at b2
 refine wpAny_call (PySem.HandSPX.call_own F.excBase_ValueError (fun Y => PySem.HandSPX.refsVE_contains Y bm hbm) (I1.kIn _ _ hC) (PySem.W.looks_findIn I1.kIn iC) (fun self => PySem.W.bind_fn I1.kIn self tI) hus
  (codeAny_mono (F1.run _ X.stack _ _ ⟨Value.ref Yce :: us, []⟩ (Value.ref Yce :: us) _ _ Yfv (hr.make C us []) (I2.env0.make C us []) b2 r2 hq) fun r s' hq' => ?_))
 cases r with
 | error er => exact hx pins σ _ _ er s' I2 hq'
 | ok fl =>
  cases fl with
  | ret u =>
   obtain ⟨v, H2, os2, bare2, un2, hok2, rv, ev, d, fs, ea, ed, hd1, q2⟩ := hq'
   subst ev
   obtain ⟨h2, g2, d2, t2, os'⟩ := s'
   obtain ⟨t0, G, J, kG, ge, hoe, na⟩ := mk_end0 (d2 := d2) (t2 := t2) I1 hsz kk un2 hok2 os2 bare2 ea ed hd1
   exact ⟨rv, hp.objs.size + 1, _, _, ⟨G, g2, d2, t2, os'⟩, _, .ref C, some d, rfl, J, kG, ge, hoe, ⟨rfl, rfl, fun vs hv => by cases hv; rfl⟩, rfl, rfl, na, rfl, bare2, raises_own T.exC T.tyC, q2⟩
  | next => exact False.elim hq'
  | brk => exact False.elim hq'
  | cont => exact False.elim hq'
/-- the mirror's exceptions -/
def ExF (K : PySem.W.Frag) (s : S4) (a : Ex) (b : Value × Option Addr) : Prop := ExR K s a b.1 b.2
abbrev tX (K : PySem.W.Frag) (ω : World) (Wx : WX) (F : M Ex) : L2.St → Hp → XK → Prop := fun σ H Q => tM K ω Wx (ExF K) F σ H (fun b H' => Q b.1 b.2 H')
def mExc (c fld : Str) (Fs : M (List W)) : M Ex := fun eta hp => (Fs eta hp).bind fun ws h => match ws with
 | [w] => .ok ⟨c, [(fld, w)]⟩ h
 | _ => .bad
def mRaise (F : M Ex) : M Fl := fun eta hp => (F eta hp).bind fun e h => .er e eta h
section
variable {X : Cx} {Wx : WX} {C : Addr} {c fld : Str} {Fs : M (List W)} {F : M Ex} {e : Expr} {pos : Pos}
theorem tmk_of (cn : CN X.K c C) : ∀ σ H Q, tX X.K X.w Wx (mExc c fld Fs) σ H Q → tMkO C (spI C fld) [] (tA X.K X.w Wx Fs) σ H Q := fun σ H Q h => by
 refine tM.bind1 (R := fun (vs : List V) (H1 : Hp) => vs.length ≤ 1000 ∧ ∀ a, H1 a = none → spI C fld (.ref a :: (vs ++ [])) (upd H1 a (exo a C none)) (fun v H2 => v = .non ∧ ∃ (d : Addr) (fs : List Yfi), H2 a = some (exo a C (some d)) ∧ H2 d = some (exd d fs) ∧ H1 d = none ∧ Q (.ref C) (some d) (upd (del H2 a) d (.xd fs))) Yfv)
  (C := Ex) (k := fun (ws : List W) (_ : IS) (h : IH) => match ws with | [w] => (Res.ok (⟨c, [(fld, w)]⟩ : Ex) h : Res Ex) | _ => .bad) h fun s eta ws vs R1 S1 f1 g => ?_
 split at g
 ·rename_i w
  obtain ⟨v, r, e1, f2, e2⟩ := f1
  subst e1
  cases (show r = [] from e2)
  refine ⟨by simp, fun a na => ⟨a, v, rfl, upd_same, fun dx hdx hne => ⟨rfl, dx, [(fld, v)], upd_same, ?_, ?_, ?_⟩⟩⟩
  ·rw [upd_ne hne, upd_same]
  ·rw [upd_ne hne] at hdx
   exact hdx
  ·rw [upd_ne hne] at hdx
   have eH : upd (del (upd (upd (upd s.H a (exo a C none)) dx (exd dx [(fld, v)])) a (exo a C (some dx))) a) dx (.xd [(fld, v)]) = upd s.H dx (.xd [(fld, v)]) := by
    funext b
    by_cases h1 : b = dx
    ·rw [h1, upd_same, upd_same]
    ·rw [upd_ne h1, upd_ne h1]
     by_cases h2 : b = a
     ·rw [h2, del_same, na]
     ·rw [del_ne h2, upd_ne h2, upd_ne h1, upd_ne h2]
   rw [eH]
   have A := (Aft.refl s).setD (D := dx) (o' := .xd [(fld, v)]) hdx
   have R' : Rel X.K X.w (s.setD dx (.xd [(fld, v)])) := rel_setD R1 (R1.fresh hdx).1 (R1.fresh hdx).2
   exact g (.ref C, some dx) (s.setD dx (.xd [(fld, v)])) rfl A R' ⟨C, rfl, cn, .inr ⟨dx, _, rfl, upd_same, v, [], rfl, f2.aft A R1, rfl⟩⟩
 ·exact g.elim
/-- raise C(e) -/
theorem st_raise (hc : X.calm = true) (tk : L2N.Takes X Wx) (he : L2N.PMk X e (tX X.K X.w Wx F)) : ISt X Wx (.Raise (some e) none pos) (mRaise F) := PS.imp (L2N.ps_raise hc tk he) fun D σ H h => by
 obtain ⟨s, eta, e1, R1, S1, g⟩ := h
 refine ⟨s, eta, e1, R1, S1, Go.bind g fun a b s' A R f _ g' => ?_⟩
 exact g' s' σ b.1 b.2 rfl (Aft.refl s') R (S1.aft A R1) f
end
end Mir
namespace Mir
open PySem PySem.Spec L2
open PyProof.Rows hiding St
open HotX (HotAt)
/-- the cause is stored -/
def zb2 (v : Value) (h : Heap) (a : Addr) : Heap := (h.update a (Obj.mapFields (·.setIfInBounds 3 v))).update a (Obj.mapFields (·.setIfInBounds 4 (.bool true)))
theorem causeFrom_at {v : Value} {h : Heap} {a : Addr} {oe : Obj} {vs : Array Value} (ha : h.get? a = some oe) (hd : oe.data = .fields vs) :
  (zb2 v h a).get? a = some ((oe.mapFields (·.setIfInBounds 3 v)).mapFields (·.setIfInBounds 4 (.bool true))) ∧ ((oe.mapFields (·.setIfInBounds 3 v)).mapFields (·.setIfInBounds 4 (.bool true))).data = .fields ((vs.setIfInBounds 3 v).setIfInBounds 4 (.bool true)) := by
 have hd3 := Obj.data_mapFields hd (·.setIfInBounds 3 v)
 have ha3 := Heap.get?_update_self (Obj.mapFields (·.setIfInBounds 3 v)) ha (Obj.isFreed_of_fields hd3)
 have hd4 := Obj.data_mapFields hd3 (·.setIfInBounds 4 (.bool true))
 exact ⟨Heap.get?_update_self (Obj.mapFields (·.setIfInBounds 4 (.bool true))) ha3 (Obj.isFreed_of_fields hd4), hd4⟩
theorem causeFrom_other {v : Value} {h : Heap} {a b : Addr} (hne : a ≠ b) : (zb2 v h a).get? b = h.get? b := by
 unfold zb2
 rw [Heap.get?_update_other _ _ hne, Heap.get?_update_other _ _ hne]
theorem raise_made_hotF {prog : Program} {w : World} {A : Around} {E : Value → Shared → Prop} {env : Env} {s : Shared} {x c : Sem Value} {Q : Flow → Shared → Prop} {x1 : Addr}
  (h : wpAny Yav A x (fun v s₁ => ∃ a oe vs cls cls1, v = .ref a ∧ s₁.heap.get? a = some oe ∧ oe.cls = cls ∧ oe.data = .fields vs ∧ vs[1]? = some .none ∧ 4 < vs.size ∧ x1 ≠ a ∧ HotAt A x1 s₁.heap ∧
   (∀ Q' : Value → Shared → Prop, Q' Yf1 s₁ → wpAny Yav A c Q' E s₁) ∧ (∃ o1, s₁.heap.get? x1 = some o1 ∧ o1.cls = cls1) ∧ PySem.W.Looks Yav s₁.heap (isSubtype cls1 Ya5) true ∧
   PySem.W.Looks Yav s₁.heap (isSubtype cls Ya5) true ∧ PySem.W.Looks Yav (zb2 Yf1 s₁.heap a) (typeOf cls) Yd7 ∧
   E (.ref a) { s₁ with heap := (zb2 Yf1 s₁.heap a).update a (Obj.mapFields (·.setIfInBounds 2 Yf1)) }) E s) :
  wpAny Yav A (raiseStmt env (some x) (some c)) Q E s := by
 unfold raiseStmt
 dsimp only
 refine wpAny_bind (wpAny_mono h (fun v s₁ h₁ => ?_) fun _ _ x => x)
 obtain ⟨a, oe, vs, cls, cls1, rfl, ha, hcls, hd, h1, hi, hne, hot, hcs, ⟨o1, ho1, hc1⟩, L1c, L1, L3, hE⟩ := h₁
 have LT : PySem.W.Looks Yav s₁.heap (typeOf (.ref a)) cls := fun A Q E s k q => wpAny_typeOf_ref (k _ _ ha) (by rw [hcls]; exact q)
 have LT1 : PySem.W.Looks Yav s₁.heap (typeOf Yf1) cls1 := fun A Q E s k q => wpAny_typeOf_ref (k _ _ ho1) (by rw [hc1]; exact q)
 have LI : PySem.W.Looks Yav s₁.heap (isInstance (.ref a) Ya5) true := LT.andThen L1
 have LI1 : PySem.W.Looks Yav s₁.heap (isInstance Yf1 Ya5) true := LT1.andThen L1c
 have hnt : ∀ {Q' : Bool → Shared → Prop}, Q' false s₁ → wpAny Yav A (isType (.ref a)) Q' E s₁ := by
  intro Q' hq
  simp only [isType, loadHead]
  refine wpAny_bind (wpAny_loadPart ha ?_)
  rw [hd]; exact wpAny_pure hq
 have hnt1 : ∀ {Q' : Bool → Shared → Prop}, Q' false s₁ → wpAny Yav A (isType Yf1) Q' E s₁ := by
  intro Q' hq
  obtain ⟨_, o, vs', q2, q3, q4⟩ := hot
  simp only [isType, loadHead]
  refine wpAny_bind (wpAny_loadPart q2 ?_)
  rw [q3]; exact wpAny_pure hq
 have hd3 := Obj.data_mapFields hd (·.setIfInBounds 3 Yf1)
 have ha3 := Heap.get?_update_self (Obj.mapFields (·.setIfInBounds 3 Yf1)) ha (Obj.isFreed_of_fields hd3)
 obtain ⟨ha4, hd4⟩ := causeFrom_at (v := .ref x1) ha hd
 have s3 : 3 < vs.size := by omega
 have s4 : 4 < (vs.setIfInBounds 3 (Value.ref x1)).size := by rw [HotX.set_size]; exact hi
 have s2 : 2 < ((vs.setIfInBounds 3 (Value.ref x1)).setIfInBounds 4 (Value.bool true)).size := by rw [HotX.set_size, HotX.set_size]; omega
 have h14 : ((vs.setIfInBounds 3 (Value.ref x1)).setIfInBounds 4 (Value.bool true))[1]? = some Value.none := HotX.set_other Ybz (HotX.set_other Ybz h1)
 have hcls4 : ((oe.mapFields (·.setIfInBounds 3 Yf1)).mapFields (·.setIfInBounds 4 (.bool true))).cls = cls := by rw [Obj.cls_mapFields, Obj.cls_mapFields]; exact hcls
 have LT4 : PySem.W.Looks Yav (zb2 Yf1 s₁.heap a) (typeOf (.ref a)) cls := fun A Q E s k q => wpAny_typeOf_ref (k _ _ ha4) (by rw [hcls4]; exact q)
 have hnt4 : ∀ {Q' : Bool → Shared → Prop}, Q' false { s₁ with heap := zb2 Yf1 s₁.heap a } → wpAny Yav A (isType (.ref a)) Q' E { s₁ with heap := zb2 Yf1 s₁.heap a } := by
  intro Q' hq
  simp only [isType, loadHead]
  refine wpAny_bind (wpAny_loadPart ha4 ?_)
  rw [hd4]; exact wpAny_pure hq
 have hot4 : HotAt A x1 (zb2 Yf1 s₁.heap a) := by
  obtain ⟨q1, o, vs', q2, q3, q4⟩ := hot
  exact ⟨q1, o, vs', by rw [causeFrom_other (Ne.symm hne)]; exact q2, q3, q4⟩
 have rest : wpAny Yav A (do
   let b ← isType (.ref a)
   if b = true then do
    let e ← holding [.ref a] (raisedFor (.ref a) (.ref a))
    setFlight e none
    raiseNew e
   else do
    let e ← raisedInstance (.ref a)
    setFlight e none
    raiseNew e : Sem Flow) Q E { s₁ with heap := zb2 Yf1 s₁.heap a } := by
  refine wpAny_bind (hnt4 ?_)
  simp only [Bool.false_eq_true, if_false]
  unfold raisedInstance
  refine wpAny_bind (wpAny_bind (LT4.here (wpAny_bind (L3.here ?_))))
  rw [if_pos (beq_self_eq_true _)]
  refine wpAny_pure ?_
  unfold setFlight
  refine wpAny_bind (wpAny_bind (wpAny_field ha4 hd4 h14 ?_))
  rw [if_neg Ybz]
  refine wpAny_pure ?_
  exact HotX.raiseNew_hot hot4 hne ha4 hd4 s2 hE
 refine wpAny_bind (wpAny_holding (hcs _ (wpAny_bind (wpAny_pure ?_))))
 dsimp only
 refine wpAny_bind (wpAny_holding ?_)
 unfold excFromValue isExcClass
 refine wpAny_bind (wpAny_bind (hnt ?_))
 simp only [Bool.false_eq_true, if_false]
 refine wpAny_pure ?_
 simp only [Bool.false_eq_true, if_false]
 refine wpAny_bind (LI.here ?_)
 simp only [if_true]
 refine wpAny_pure ?_
 rw [if_neg (show ¬ ((Value.ref x1 == Value.none) = true) from by simp)]
 refine wpAny_bind (wpAny_holding (wpAny_bind (wpAny_bind (hnt1 ?_))))
 simp only [Bool.false_eq_true, if_false]
 refine wpAny_pure ?_
 simp only [Bool.false_eq_true, if_false]
 refine wpAny_bind (LI1.here ?_)
 simp only [if_true]
 refine wpAny_pure ?_
 refine wpAny_bind (wpAny_setField ha hd s3 (wpAny_bind (wpAny_setField ha3 hd3 s4 ?_)))
 exact rest
/-- raise X(..) from n, in the except suite of n -/
theorem ps_raiseHF {X : Cx} {W : WX} {e : Expr} {t : L2.St → Hp → XK → Prop} {n : Str} {i : Nat} {cls : Value} {p : Addr × Obj} {cpos pos : Pos} (hot : L2H.Hot1 X.A p) (hp : p ∈ X.pn) (hc1 : p.2.cls = cls) (tk : L2.Takes X W) (he : L2H.PMk5 X e t)
  (hN : X.N[i]? = some n) (hln : X.env.kindOf n = some .local) (hdb : (n == ("__debug__" : Str)) = false := by decide) :
  PS X (.Raise (some e) (some (.Name n cpos)) pos) (fun _ σ H => PySem.W.subIn X.K cls Ya5 = some true ∧ σ[i]? = some (some (.ref p.1)) ∧ t σ H fun cls d H' => W cls d σ H') := by
 refine ⟨fun pins s σ H D I h => ?_⟩
 obtain ⟨hsub, hsl, h⟩ := h
 obtain ⟨hh, v1, e1, c1⟩ := hot
 show wpAny _ _ (do standAt pos; raiseStmt X.env (some (do let v ← eval e X.env; standAt pos; pure v)) (some (do let v ← eval (.Name n cpos) X.env; standAt pos; pure v))) _ _ _
 refine wpAny_bind (wpAny_standAt (raise_made_hotF (x1 := p.1) (wpAny_bind (wpAny_mono (he pins s σ H _ I h) (fun u s1 hu => wpAny_bind (wpAny_standAt (wpAny_pure ?_))) fun _ _ x => x))))
 obtain ⟨⟨a, oe, vs, sI, H', cls', d, rfl, J, k, hne, ha, hz, hd, h1, na, os, ag, r, q⟩, h5⟩ := hu
 have hi : 4 < vs.size := h5 a oe vs rfl ha hd
 have k4 : ∀ b u, sI.heap.get? b = some u → (zb2 (.ref p.1) s1.heap a).get? b = some u := fun b u z => by
  have nab : a ≠ b := fun y => by
   rw [← y, hne] at z
   cases z
  rw [causeFrom_other nab]
  exact k b u z
 obtain ⟨r1, _⟩ := r Yo s1.heap (J.kIn.keeps k)
 obtain ⟨_, r2⟩ := r Yo (zb2 (.ref p.1) s1.heap a) (J.kIn.keeps k4)
 have P1 := (J.pin p (List.mem_append_left _ hp)).1
 have nap : p.1 ≠ a := fun z => by
  rw [z, hne] at P1
  cases P1
 obtain ⟨ha4, hd4⟩ := causeFrom_at (v := .ref p.1) ha hd
 have h12 : (((vs.setIfInBounds 3 (Value.ref p.1)).setIfInBounds 4 (Value.bool true)).setIfInBounds 2 (Value.ref p.1))[1]? = some Value.none := HotX.set_other Ybz (HotX.set_other Ybz (HotX.set_other Ybz h1))
 refine ⟨a, oe, vs, cls', cls, rfl, ha, hz.1, hd, h1, hi, nap, ⟨hh, p.2, v1, k _ _ P1, e1, c1⟩, ?_, ⟨p.2, k _ _ P1, hc1⟩, PySem.W.looks_subIn (J.kIn.keeps k) hsub, r1, r2, tk _ _ (XE.new J (fun b u z => ?_) hne (Heap.get?_update_self _ ha4 (Obj.isFreed_of_fields (Obj.data_mapFields hd4 _)))
  ⟨by rw [Obj.cls_mapFields, Obj.cls_mapFields, Obj.cls_mapFields]; exact hz.1, by rw [HandSPX.dict_mapFields, HandSPX.dict_mapFields, HandSPX.dict_mapFields]; exact hz.2.1⟩ (Obj.data_mapFields hd4 _) h12 na os ag q)⟩
 ·intro Q' q2
  obtain ⟨m, hn, hl⟩ := J.loc
  obtain ⟨u, r, l⟩ := hl i n _ hN hsl (.inl hln)
  obtain rfl : u = Value.ref p.1 := r
  rcases l with ⟨_, hm⟩ | ⟨hk, _⟩
  ·exact wpAny_bind (wpAny_Name (wpAny_loadName_local J.ok.kind hln (hn.at fun o z => k _ _ z) hm (wpAny_bind (wpAny_standAt (wpAny_pure q2)))) hdb)
  ·rcases hk with hk | hk
   ·exact absurd (hln.symm.trans hk) Ybz
   ·exact absurd (hln.symm.trans hk) Ybz
 ·have nab : a ≠ b := fun y => by
   rw [← y, hne] at z
   cases z
  show ((zb2 (.ref p.1) s1.heap a).update a (Obj.mapFields (·.setIfInBounds 2 (.ref p.1)))).get? b = some u
  rw [Heap.get?_update_other _ _ nab]
  exact k4 b u z
section
variable {X : Cx} {pins : List Yc5} {σ : L2.St} {H : Hp} {s : Shared}
/-- the frame's names laid anew -/
theorem inv_gone {i : Nat} {n : Str} {h' : Heap} {t' : Nat} {m : Str → Option Value} {v : Option Value} (I : Inv X pins σ H s) (hN : X.N.Nodup) (hi : X.N[i]? = some n) (hn : s.heap.Ns X.env.locals m) (hn' : h'.Ns X.env.locals (fun x => if x = n then v else m x)) (hs : Heap.SameBut X.env.locals s.heap h') :
  Inv X pins (σ.set i none) H { s with heap := h', toks := t' } := by
 obtain ⟨m1, hn1, hlk⟩ := id I.loc
 have em : ∀ y, m1 y = m y := fun y => by rw [Heap.Ns.eq_nsMap hn1, Heap.Ns.eq_nsMap hn]
 obtain ⟨oL, _, _, hoL, _⟩ := id hn'
 have neL : ∀ b o, X.s_0.heap.get? b = some o → b ≠ X.env.locals := fun b o e => Nat.ne_of_lt (Nat.lt_of_lt_of_le (Heap.lt_size e) I.ok.above)
 refine ⟨I.ok, I.os, I.bare, ⟨fun b o e n hb hx => ?_, fun b o e n hb hx => ?_, I.base.free, fun b o e hx => ?_, I.base.tups, I.base.frzs, I.base.tbls⟩, ⟨_, hn', fun j y v' e1 e2 e3 => ?_⟩, fun y c e => ?_, I.free, I.freeC, fun p hp => ?_, fun b ob e => ?_, by simpa using I.len⟩
 ·exact (hs.2 b (neL b o e)).trans (I.base.keep b o e n hb hx)
 ·obtain ⟨sl, e1⟩ := I.base.slot b o e n hb hx
  exact ⟨sl, (hs.2 b (neL b o e)).trans e1⟩
 ·obtain ⟨o', e1⟩ := I.base.there b o e hx
  exact ⟨o', (hs.2 b (neL b o e)).trans e1⟩
 ·by_cases hj : j = i
  ·subst hj
   by_cases hlt : j < σ.length
   ·rw [List.getElem?_set_self hlt] at e2; cases e2
   ·rw [List.getElem?_eq_none (by simpa using hlt)] at e2; cases e2
  ·rw [List.getElem?_set_ne (Ne.symm hj)] at e2
   obtain ⟨u', r', q⟩ := hlk j y v' e1 e2 e3
   refine ⟨u', r', ?_⟩
   rcases q with ⟨k, e⟩ | ⟨k, c, e, z⟩
   ·have ny : y ≠ n := fun e => hj (nodup_ix hN e1 (e ▸ hi))
    exact .inl ⟨k, (if_neg ny).trans ((em y).symm.trans e)⟩
   ·exact .inr ⟨k, c, e, z.sameBut hs (I.cne y c e)⟩
 ·obtain ⟨w', z⟩ := I.cell y c e
  exact ⟨w', z.sameBut hs (I.cne y c e)⟩
 ·obtain ⟨e, n, ne, nf, d⟩ := I.pin p hp
  exact ⟨(hs.2 p.1 ne).trans e, n, ne, nf, d⟩
 ·refine (I.hok b ob e).stay (fun c w' hc q => (hs.2 c ?_).trans q) (fun _ q => q) fun _ _ q => q
  intro z
  subst z
  rcases hc with hc | hc
  ·rw [← hc, I.free] at e; cases e
  ·rw [I.free] at hc; cases hc
theorem funs_upd {h h' base : Heap} {L : Addr} {oL : Obj} (hL : h'.get? L = some oL) (nf : ∀ vs, oL.data ≠ .fields vs) (k : ∀ b o, b ≠ L → h.get? b = some o → h'.get? b = some o) : ∀ {l : List Env}, h.FunFrames base l → h'.FunFrames base l
 | [], _ => trivial
 | env :: rest, ⟨hk, ⟨L', o, hf, hn, ho, hd⟩, hr⟩ => by
  refine ⟨hk, ?_, funs_upd hL nf k hr⟩
  by_cases e : L' = L
  ·exact ⟨L', oL, hf, hn, by rw [e]; exact hL, nf⟩
  ·exact ⟨L', o, hf, hn, k _ _ e ho, hd⟩
/-- the exception that a suite with a name lets out: noted, the name goes, it flies on -/
theorem raised_as {X' : Cx} {n : Str} {i : Nat} {pos : Pos} {W : WX} {N : Value → Shared → Prop} {A : Around} {u : Value} {s3 : Shared} (ok : X.Ok) (hs : X.stack = X.env :: X.outer) (hf : X.env.frame = some X.env.locals) (hfr : A.frames = some Ybo) (hN : X.N.Nodup) (hi : X.N[i]? = some n) (hln : X.env.kindOf n = some .local)
  (tk : L2.Takes X W) (hNN : ∀ u s, X.xe u s → N u s) (un : ∀ pn' σ H s, Inv X' pn' σ H s → Inv X pins σ H s) (es : X'.stack = X.stack) (ee : X'.env = X.env) (xx : L2.XE X' (fun cls d σ H => W cls d (σ.set i none) H) u s3) :
  AsSuiteRaised Yo A X.env n pos N u s3 := by
 obtain ⟨a2, B, sI, pins', σ', H', cls2, d2, rfl, J', nb, up, sky, na, os, ag, w⟩ := xx
 have J := un _ _ _ _ J'
 rw [es] at nb sky
 rw [ee] at sky
 have hcls : (X.env.scope.kind == .class || (X.env.scope.kind == .module && X.env.locals != X.env.globals)) = false := by rw [J.ok.kind]; rfl
 have sky' : Sky B Ybo a2 (Zc cls2 d2) X.env.locals s3.heap := by rw [← hs]; exact sky
 have fin : ∀ h1, HandSPX.HeldZ B Ybo a2 (Zc cls2 d2) X.env.locals h1 → s3.heap.UpToSlots h1 →
   wpAny Yo A (do bindName X.env n .none; unbindBehindTheSuite X.env n pos) (fun _ s₂ => wpAny Yo A (passOn "try.except-as" (.ref a2) X.env : Sem Flow) (fun _ _ => False) N s₂)
    (fun y s₂ => wpAny Yo A (setFlight (.ref a2) none) (fun _ s₃ => N y s₃) N s₂) { s3 with heap := h1 } := by
  intro h1 hh up1
  obtain ⟨m, hn, hlk⟩ := id J.loc
  have hn1 : h1.Ns X.env.locals m := by
   obtain ⟨oL, esL, epL, hL, dL, rL⟩ := hn
   obtain ⟨sl, q⟩ := (up.trans up1) _ _ hL (fun vs z => by rw [dL] at z; cases z)
   exact ⟨_, esL, epL, q, dL, rL⟩
  refine wpAny_nameGoes_keeps hln hn1 hcls fun h2 v hn2 hs2 => ?_
  -- the state without the exception, the name gone
  obtain ⟨oL2, esL2, epL2, hL2, dL2, rL2⟩ := id hn2
  obtain ⟨oL, esL, epL, hL, dL, rL⟩ := id hn
  obtain ⟨k1, k2, k3, oe, vs, T, oT, ts, he, hz, hd, hv1, hnT, hTe, hT, hdT, h3⟩ := hh
  have Lf : X.env.locals ∈ frs X.stack := by rw [hs]; exact List.mem_filterMap.mpr ⟨X.env, List.mem_cons_self, hf⟩
  have BL : B.get? X.env.locals = none := (k3.mem (by rw [← hs]; exact Lf)).1
  have ne1 : a2 ≠ X.env.locals := fun z => by
   obtain ⟨_, o, ho, hnf⟩ := k3.mem (b := X.env.locals) (by rw [← hs]; exact Lf)
   rw [← z, he] at ho
   cases ho
   exact hnf _ hd
  have neT : T ≠ X.env.locals := fun z => by
   obtain ⟨_, o, ho, hnf⟩ := k3.mem (b := X.env.locals) (by rw [← hs]; exact Lf)
   rw [← z, hT] at ho
   cases ho
   exact hnf _ hdT
  have hh2 : HandSPX.HeldZ B Ybo a2 (Zc cls2 d2) X.env.locals h2 := by
   refine ⟨fun b o z => (hs2.2 b fun y => by rw [y, BL] at z; cases z).trans (k1 b o z), k2, ?_, oe, vs, T, oT, ts, (hs2.2 _ ne1).trans he, hz, hd, hv1, hnT, hTe, (hs2.2 _ neT).trans hT, hdT, h3⟩
   exact funs_upd hL2 (fun vs z => by rw [dL2] at z; cases z) (fun b o hb z => (hs2.2 b hb).trans z) k3
  have sb : Heap.SameBut X.env.locals sI.heap (sI.heap.update X.env.locals fun _ => oL2) := ⟨Heap.size_after_update .., fun b hb => Heap.get?_update_other _ _ (Ne.symm hb)⟩
  have hg : (sI.heap.update X.env.locals fun _ => oL2).get? X.env.locals = some oL2 := Heap.get?_update_self _ hL (Obj.isFreed_of_dict dL2)
  have Jg := inv_gone (t' := sI.toks) (v := v) (h' := sI.heap.update X.env.locals fun _ => oL2) J hN hi hn ⟨oL2, esL2, epL2, hg, dL2, rL2⟩ sb
  unfold PySem.passOn
  refine wpAny_bind (wpAny_field ((hs2.2 _ ne1).trans he) hd hv1 ?_)
  rw [if_neg Ydy]
  have fin2 : wpAny Yo A (setFlight (.ref a2) X.env.frame) (fun _ s4 => wpAny Yo A (throw (.ref a2) : Sem Flow) (fun _ _ => False) N s4) N { s3 with heap := h2, toks := s3.toks + 1 } := by
   rw [hf]
   refine HandSPX.setFlight_onZ hh2 fun h4 hh4 up4 => wpAny_throw (hNN _ _ (tk _ _ ?_))
   refine ⟨a2, B, { sI with heap := sI.heap.update X.env.locals fun _ => oL2 }, pins, σ'.set i none, H', cls2, d2, rfl, Jg, fun b o z nb2 => ?_, fun b o z nf => ?_, .inr (.inr (by rw [hs]; exact hh4)), na, os, ag, w⟩
   ·have bL : b ≠ X.env.locals := fun y => nb2 (by rw [y]; exact Lf)
    exact nb b o ((sb.2 b bL).symm.trans z) nb2
   ·by_cases bL : b = X.env.locals
    ·subst bL
     have z' : (sI.heap.update X.env.locals fun _ => oL2).get? X.env.locals = some o := z
     rw [hg] at z'
     cases z'
     exact up4 _ _ hL2 nf
    ·obtain ⟨sl, q⟩ := (up.trans up1) b o ((sb.2 b bL).symm.trans z) nf
     obtain ⟨sl2, q2⟩ := up4 b _ ((hs2.2 b bL).trans q) nf
     exact ⟨sl2, q2⟩
  first
   | exact wpAny_bind (wpAny_pure (wpAny_bind fin2))
   | exact wpAny_bind fin2
 rcases sky' with ⟨hB, hna, hl, oe, vs, he, hz, hd, h1⟩ | fl | hh
 ·exact HandSPX.look_newZ Zc.steady hfr hl hf he hB hna hd h1 hz fin
 ·exact HandSPX.looks_onZ Zc.steady hfr hf fl fin
 ·exact HandSPX.againZ hf hh.2.2.2 (fin s3.heap hh (Heap.UpToSlots.refl _))
end
/-- the context of an except suite that may raise, with any wish -/
abbrev suiteW (X : Cx) (a : Addr) (pn : List Yc5) (xe : Value → Shared → Prop) : Cx := { X with A := X.A.mark Ycu, calm := false, pn := pn, xe := xe }
section
variable {X : Cx} {x n : Str} {c : Value} {i : Nat} {body suite : List Stmt} {b₀ : Stmt} {np pos pos' : Pos} {tb : WX → TS} {ts : Addr → Value → Option Addr → TS} {Wout : WX}
theorem unsuiteW {pins : List Yc5} {σ : L2.St} {H : Hp} {s : Shared} {a : Addr} {q : Addr × Obj} {pn' : List Yc5} {xe : Value → Shared → Prop} (I : Inv (suiteW X a (q :: (X.pn ++ pins)) xe) pn' σ H s) (ok : X.Ok) : Inv X pins σ H s :=
 Inv.unsuite (X := X) (a := a) (q := q) (pn' := pn') (show Inv (X.suite a (q :: (X.pn ++ pins))) pn' σ H s from I.wish fun _ _ => False) ok
theorem ps_try_asX (hs : X.stack = X.env :: X.outer) (hf : X.env.frame = some X.env.locals) (hN : X.N.Nodup) (hi : X.N[i]? = some n) (hln : X.env.kindOf n = some .local) (hc : Names X x c) (hpa : ∀ hd : Option Value, PassesOwnAt Yo (X.A.mark hd) X.A X.env X.xe) (tk : L2.Takes X Wout)
  (hb : ∀ (W : WX) (pn : List (Addr × Obj)) (xe : Value → Shared → Prop), L2N.Takes Yit W → PassesOwn Yo X.A X.env xe → PSs Yit body (tb W))
  (hsu : ∀ (a : Addr) (oe : Obj) (cls : Value) (d : Option Addr) (pn : List (Addr × Obj)) (xe : Value → Shared → Prop), L2N.Zn cls d oe → (∃ vs, oe.data = .fields vs) → L2.Takes (suiteW X a Ya6 xe) (fun cls d σ H => Wout cls d (σ.set i none) H) → PSs (suiteW X a Ya6 xe) Yg7 (ts a cls d)) :
  PS X (.Try body [.ExceptHandler Yih (some n) Yg7 pos'] [] [] pos) (fun D σ H => tb (wAs X.K c i ts Wout D) D σ H) := by
 refine ⟨fun pins s σ H D I h => ?_⟩
 have ok := I.ok
 have hfr : X.A.frames = some Ybo := by rw [ok.frames, hs]
 have hloc : Loc X.env.scope n := .inl hln
 refine wpAny_Try_except ?_
 refine wpAny_mono ((hb (wAs X.K c i ts Wout D) (X.pn ++ pins) (fun e s₁ => wpAny Yo X.A (noteFrame e X.env) (fun _ s₂ => wpAny Yo X.A (setFlight e none) (fun _ s₃ =>
  wpAny Yo X.A (handleBy e X.env [.ExceptHandler Yih (some n) Yg7 pos']) (SP X pins D) X.xe s₃) X.xe s₂) X.xe s₁) (fun u s' xx => ?_) PassesOwn.looking).run [] s σ H D (I.toTry _) h) (fun f s1 hsp => ?_) (fun e s1 he => he)
 ·-- the catch
  obtain ⟨a, B, sI, pins', σ', H', cls, d, rfl, J', nb, up, sky, na, os, ag, b, hb1, hyes, hno⟩ := xx
  have J : Inv X pins σ' H' sI := J'.ofTry ok
  have sky' : Sky B Ybo a (L2N.Zn cls d) X.env.locals s'.heap := by rw [← hs]; exact sky
  show wpAny Yo X.A (noteFrame (.ref a) X.env) _ _ _
  refine L2N.Sky.land L2N.Zn.steady hfr hf sky' fun h3 fl3 up3 => ?_
  have J3 : Inv X pins σ' H' { s' with heap := h3 } := J.landed nb fl3.1 (up.trans up3) os ag
  obtain ⟨oe3, vs3, he3, hz3, hd3⟩ := fl3.there
  have notFr : ∀ {h : Heap} {o : Obj} {vs : Array Value}, h.FunFrames B Ybo → h.get? a = some o → o.data = .fields vs → a ∉ frs Ybo := fun {h o vs} ff e dd hm => by
   obtain ⟨_, o', e', hnf⟩ := ff.mem hm
   rw [e] at e'; cases e'
   exact hnf _ dd
  have nfr := notFr fl3.2.2.1 he3 hd3
  have nL : a ≠ X.env.locals := fun z => nfr Yhw
  have nF : a ∉ X.fs := fun hm => by
   obtain ⟨e, he, q⟩ := List.mem_filterMap.mp hm
   exact nfr Yi8
  have S3 := J3.suite he3 hd3 na nL nF
  refine wpAny_handleBy_cons (codeAny_handlers_test ?_) (by intro q; cases q)
  have LT : PySem.W.Looks Yo h3 (typeOf (.ref a)) cls := fun A Q E s k q => wpAny_typeOf_ref (k _ _ he3) (by rw [hz3.1]; exact q)
  have LM := PySem.W.exm_one (M := model X.prog X.w) (J3.kIn) LT hb1
  have test : ∀ {Q : Value → Shared → Prop} {E : Value → Shared → Prop}, Q c { s' with heap := h3 } → wpAny Yo (X.A.mark Ycu) (eval (.Name x np) X.env) Q E { s' with heap := h3 } := fun {Q E} q => by
   obtain ⟨hg, hdbg, hm | ⟨hm, hv, hnn⟩⟩ := hc
   ·exact ld_glob (X := X.suite a Ygw) S3 hg hm q hdbg
   ·exact ld_blt (X := X.suite a Ygw) S3 hg hm hv q hnn hdbg
  refine test (LM.here ?_)
  cases b with
  | true =>
   refine codeAny_handlers_suite_as ?_
   refine HandSPX.lands_againZ fl3 fun h4 fl4 up4 => ?_
   have J4 : Inv X pins σ' H' { s' with heap := h4 } := J.landed nb fl4.1 ((up.trans up3).trans up4) os ag
   obtain ⟨oe4, vs4, he4, hz4, hd4⟩ := fl4.there
   have S4 := J4.suite he4 hd4 na nL nF
   refine store_ok (X := X.suite a Yc9) (v := .ref a) S4 hN hi hloc rfl (fun s5 S5 => ?_) (.inr hln)
   have S5' : ∀ xe, Inv (suiteW X a Yc9 xe) [] (σ'.set i Ycu) H' s5 := fun xe => Inv.unwish (X := suiteW X a Yc9 xe) (E := fun _ _ => False) S5
   refine wpAny_mono ((hsu a oe4 cls d (X.pn ++ pins) (AsSuiteRaised Yo (X.A.mark Ycu) X.env n pos' _) hz4 ⟨_, hd4⟩ (fun u s6 xx => raised_as ok hs hf (by show (X.A.mark _).frames = _; exact hfr) hN hi hln tk (hpa Ycu) (fun pn' σ H s I => unsuiteW I ok) rfl rfl xx)).run [] s5 _ H' _ (S5' _) (hyes rfl a na)) (fun f s6 hsp => ?_) (fun _ _ z => z)
   have end_ : ∀ {σ6 : L2.St} {H6 : Hp} {Q : Shared → Prop} {xe : Value → Shared → Prop}, Inv (suiteW X a Yc9 xe) [] σ6 H6 s6 → (∀ s7, Inv X pins (σ6.set i none) H6 s7 → Q s7) →
     wpAny Yo X.A Yi9 (fun _ s7 => Q s7) X.xe s6 := fun {σ6 H6 Q xe} S6 hq => gone_ok (unsuiteW S6 ok) hN hi hln hq
   cases f with
   | next =>
    obtain ⟨σ6, H6, S6, q6⟩ := hsp
    exact end_ S6 fun s7 J7 => ⟨_, _, J7, q6⟩
   | brk =>
    obtain ⟨σ6, H6, S6, q6⟩ := hsp
    exact end_ S6 fun s7 J7 => ⟨_, _, J7, q6⟩
   | cont =>
    obtain ⟨σ6, H6, S6, q6⟩ := hsp
    exact end_ S6 fun s7 J7 => ⟨_, _, J7, q6⟩
   | ret u =>
    obtain ⟨v6, σ6, H6, S6, r6, q6⟩ := hsp
    exact end_ S6 fun s7 J7 => ⟨_, _, _, J7, r6, q6⟩
  | false =>
   show wpAny _ X.A (handleBy (.ref a) X.env []) _ _ _
   refine wpAny_handleBy_nil ?_
   have fl3' : HandSPX.FlyingZ B Ybo a (Zc cls d) h3 := L2H.flyingZ_imp (fun o z => z.zc) fl3
   obtain ⟨k1, k2, k3, oe, vs, T, oT, ts', he, hz, hd, h1, hr⟩ := id fl3'
   unfold PySem.passOn
   refine wpAny_bind (wpAny_field he hd h1 ?_)
   rw [if_neg Ydy]
   have fin : wpAny Yo X.A (setFlight (.ref a) X.env.frame) Yg3 X.xe { s' with heap := h3 } := by
    rw [hf]
    refine HandSPX.setFlight_upZ fl3' fun h4 hh4 up4 => wpAny_throw (tk _ _ ?_)
    exact ⟨a, B, sI, pins, σ', H', cls, d, rfl, J, nb, (up.trans up3).trans up4, .inr (.inr (by rw [hs]; exact hh4)), na, os, ag, hno rfl⟩
   first
    | exact wpAny_bind (wpAny_pure (wpAny_bind fin))
    | exact wpAny_bind fin
 ·cases f with
  | next =>
   obtain ⟨σ', H', J', q⟩ := hsp
   exact wpAny_execs_nil ⟨σ', H', J'.ofTry ok, q⟩
  | brk =>
   obtain ⟨σ', H', J', q⟩ := hsp
   exact ⟨σ', H', J'.ofTry ok, q⟩
  | cont =>
   obtain ⟨σ', H', J', q⟩ := hsp
   exact ⟨σ', H', J'.ofTry ok, q⟩
  | ret u =>
   obtain ⟨v, σ', H', J', r, q⟩ := hsp
   exact ⟨v, σ', H', J'.ofTry ok, r, q⟩
end
end Mir
namespace Mir
open PySem PySem.Spec L2
open PyProof.Rows hiding St
/-- which classes a clause names -/
def HitOk (K : PySem.W.Frag) (c : Value) (hit : Str → Option Bool) : Prop := ∀ (c' : Str) (C' : Addr) (b : Bool), hit c' = some b → CN K c' C' → PySem.W.exmOne K (.ref C') c = some b
def zfl (hit : Str → Option Bool) (i : Nat) (B : M Fl) (F : M Ex) : M Fl := fun eta hp => match B eta hp with
 | .er e eta' h => (match hit e.cls with
  | some true => if i < eta'.length then (match F (eta'.set i none) h with
   | .ok e2 h2 => .er e2 (eta'.set i none) h2
   | _ => .bad) else .bad
  | some false => .er e eta' h
  | none => .bad)
 | r => r
theorem Sl.unset {K : PySem.W.Frag} {s : S4} {eta : IS} {σ : L2.St} (h : Sl K s eta σ) (i : Nat) (x : Option V) : Sl K s Yh9 (σ.set i x) := by
 refine ⟨by rw [List.length_set, List.length_set]; exact h.1, fun j w q => ?_⟩
 by_cases e : i = j
 ·subst e
  by_cases hl : i < eta.length
  ·rw [List.getElem?_set_self hl] at q; cases q
  ·rw [List.getElem?_eq_none Yie] at q; cases q
 ·rw [List.getElem?_set_ne e] at q
  obtain ⟨v, h1, h2⟩ := h.2 j w q
  exact ⟨v, by rw [List.getElem?_set_ne e]; exact h1, h2⟩
section
variable {X : Cx} {Wx : WX} {x n : Str} {c : Value} {i : Nat} {body suite : List Stmt} {b₀ : Stmt} {np pos pos' cpos rpos : Pos} {hit : Str → Option Bool} {B S : M Fl} {F : M Ex} {e : Expr}
theorem st_tryFrom (hs : X.stack = X.env :: X.outer) (hf : X.env.frame = some X.env.locals) (hN : X.N.Nodup) (hi : X.N[i]? = some n) (hln : X.env.kindOf n = some .local) (hc : Names X x c) (hpa : ∀ hd : Option Value, PassesOwnAt Yo (X.A.mark hd) X.A X.env X.xe) (tk : L2.Takes X Wx)
  (ht : HitOk X.K c hit) (hsub : ∀ (c' : Str) (C' : Addr), hit c' = some true → CN X.K c' C' → PySem.W.subIn X.K (.ref C') Ya5 = some true)
  (hb : ∀ (W : WX) (pn : List (Addr × Obj)) (xe : Value → Shared → Prop), L2N.Takes Yit W → PassesOwn Yo X.A X.env xe → ISs Yit W body B)
  (hsu : ∀ (a : Addr) (oe : Obj) (pn : List (Addr × Obj)) (xe : Value → Shared → Prop), L2H.HotC (suiteW X a Ya6 xe) → L2H.PMk5 (suiteW X a Ya6 xe) e (tX X.K X.w W0 F)) (hdb : (n == ("__debug__" : Str)) = false := by decide) :
  ISt X Wx (.Try body [.ExceptHandler Yih (some n) [.Raise (some e) (some (.Name n cpos)) rpos] pos'] [] [] pos) (zfl hit i B F) :=
 PS.imp (ps_try_asX (tb := fun W => tS X.K X.w W B) (ts := fun a cls _ => fun _ σ H => PySem.W.subIn X.K cls Ya5 = some true ∧ σ[i]? = some Ycu ∧ tX X.K X.w W0 F σ H fun cls d H' => Wx cls d (σ.set i none) H') hs hf hN hi hln hc hpa tk hb
  fun a oe cls d pn xe hz hfl tk2 => by
   obtain ⟨vs, hd⟩ := hfl
   have h1 : L2H.Hot1 (suiteW X a Ya6 xe).A (a, oe) := ⟨rfl, vs, hd, hz.2.2 vs hd⟩
   exact pss_one (ps_raiseHF (p := (a, oe)) (cls := cls) h1 List.mem_cons_self hz.1 tk2 (hsu a oe pn xe ⟨(a, oe), h1, List.mem_cons_self⟩) hi hln hdb)) fun D σ H h => by
  obtain ⟨s, eta, e1, R1, S1, g⟩ := h
  refine ⟨s, eta, e1, R1, S1, ?_⟩
  unfold zfl at g
  cases hB : B eta s.hp with
  | ok fl hp => rw [hB] at g; exact g
  | bad => rw [hB] at g; exact g
  | er e eta' h =>
   rw [hB] at g
   intro s' σ' cls d h1 h2 h3 h4 h5
   obtain ⟨C, ec, cn, _⟩ := id h5
   dsimp only at g
   split at g
   ·rename_i hh
    by_cases hlt : i < eta'.length
    case neg => rw [if_neg hlt] at g; exact g.elim
    rw [if_pos hlt] at g
    refine ⟨true, by rw [ec]; exact ht _ _ _ hh cn, fun _ a na => ⟨by rw [ec]; exact hsub _ _ hh cn, ?_, s', eta'.set i none, rfl, h3, h4.unset i _, ?_⟩, fun z => by cases z⟩
    ·rw [List.getElem?_set_self (by rw [← h4.1]; exact hlt)]
    ·rw [h1]
     cases hF : F (eta'.set i none) h with
     | er _ _ _ => rw [hF] at g; exact g.elim
     | bad => rw [hF] at g; exact g.elim
     | ok e2 h2' =>
      rw [hF] at g
      intro b s2 q1 q2 q3 q4
      exact g s2 _ b.1 b.2 q1 (h2.trans q2) q3 (by rw [List.set_set]; exact (h4.aft q2 h3).unset i none) q4
   ·rename_i hh
    exact ⟨false, by rw [ec]; exact ht _ _ _ hh cn, fun z => (by cases z), fun _ => g s' σ' cls d h1 h2 h3 h4 h5⟩
   ·exact g.elim
end
section
variable {X : Cx} {Wx : WX} {C fI : Addr} {c fld x : Str} {fd : FuncData} {ps : List Str} {e : Expr} {es : List Expr} {Fs : M (List W)} {p pos : Pos} {CX : CXT}
theorem xc_cold (T : OexC X.K C) (iC : PySem.W.findIn X.K (.ref C) "__init__" = some (some Yh0)) (tI : PySem.W.typeIn X.K Yh0 = some Yfm) (cn : CN X.K c C) (F1 : FnOk X.prog X.w X.K X.mg X.base Ydf 1 fI fd ps (spI C fld)) (hr : Room 2 X.A) (hb : Binds X.K fd ps []) (hg : Gl X x) (hm : X.mg x = some (.ref C)) (ha : IA X Wx Yal Fs)
  (hdb : (x == ("__debug__" : Str)) = false := by decide) (he : starEach Yal X.env = (false, eval e X.env) :: starEach es X.env := by rfl) (hpl : (backTo pos Ybq).any (·.1) = false := by rfl) : L2N.PMk X Yah (tX X.K X.w Wx (mExc c fld Fs)) :=
 fun pins s σ H Q I h => pmk_oexN T iC tI F1 hr hb passL hg hm ha hdb he hpl pins s σ H Q I (tmk_of cn σ H Q h)
theorem xc_hot (T : OexC X.K C) (iC : PySem.W.findIn X.K (.ref C) "__init__" = some (some Yh0)) (tI : PySem.W.typeIn X.K Yh0 = some Yfm) (cn : CN X.K c C) (F1 : L2H.FnH X.prog X.w X.K X.mg X.base Ydf 1 fI fd ps (spI C fld)) (hr : L2H.RoomH 2 X.A) (hc : L2H.HotC X) (hb : Binds X.K fd ps []) (hg : Gl X x) (hm : X.mg x = some (.ref C)) (ha : IA X Wx Yal Fs)
  (hdb : (x == ("__debug__" : Str)) = false := by decide) (he : starEach Yal X.env = (false, eval e X.env) :: starEach es X.env := by rfl) (hpl : (backTo pos Ybq).any (·.1) = false := by rfl) : L2H.PMk5 X Yah (tX X.K X.w Wx (mExc c fld Fs)) :=
 fun pins s σ H Q I h => L2H.pmk5_oexH T iC tI F1 hr hc hb passL hg hm ha hdb he hpl pins s σ H Q I (tmk_of cn σ H Q h)
end
end Mir
namespace Mir
open PySem PySem.Spec L2
open PyProof.Rows hiding St
/-- a class: a built-in type or an own class by name -/
abbrev CT := String ⊕ Str
def tyC (hp : IH) : W → Option CT
 | .t .non => some (.inl "NoneType") | .t (.bl _) => some (.inl "bool") | .t (.int _) => some (.inl "int") | .t (.str _) => some (.inl "str")
 | .t (.tup _) => some (.inl "tuple") | .t (.pr _) => some (.inl "tuple") | .t (.lst _) => some (.inl "list") | .t (.scr _) => some (.inl "list")
 | .t (.dic _ _) => some (.inl "dict") | .t (.ins c _ _) => some (.inr c)
 | .t (.ty _) => none | .t (.cls _) => none | .t (.dit _ _) => none | .t (.exc _ _ _) => none
 | .r i => match hp[i]? with
  | some (some (.lst _)) => some (.inl "list")
  | some (some (.dic _)) => some (.inl "dict")
  | some (some (.ins c _)) => some (.inr c)
  | _ => none
def clC : T → Option CT
 | .ty n => some (.inl n) | .cls c => some (.inr c) | _ => none
def clCs : List T → Option (List CT)
 | [] => some []
 | x :: r => match clC x, clCs r with
  | some a, some b => some (a :: b)
  | _, _ => none
/-- the value of a class -/
def CVal (K : PySem.W.Frag) : CT → Value → Prop
 | .inl n, v => v = .type n
 | .inr c, v => ∃ C, v = .ref C ∧ CN K c C
/-- what isinstance asks of an own class -/
structure InsC (K : PySem.W.Frag) (C : Addr) : Prop where
 cl : Cls K C
 ha : PySem.W.findIn K (.ref C) "__class__" = some (some Yar)
 hn : PySem.W.specialIn K Yar "__get__" = some Yf2
 htk : PySem.W.takesIn K Yar = some true
 hm : PySem.W.mroIn K C Yia = some true
structure IsTab (K : PySem.W.Frag) (tab : CT → CT → Option Bool) : Prop where
 ok : ∀ t c b tv cv, tab t c = some b → CVal K t tv → CVal K c cv → PySem.W.kitOne K tv cv = some b
 ins : ∀ c d b C, tab (.inr c) d = some b → CN K c C → InsC K C
def anyC (tab : CT → CT → Option Bool) (t : CT) : List CT → Option Bool
 | [] => some false
 | c :: r => match tab t c with
  | some true => some true
  | some false => anyC tab t r
  | none => none
def oIsi (tab : CT → CT → Option Bool) : OpN := fun ws hp => match ws with
 | [x, .t (.tup cs)] => (match tyC hp x, clCs cs with
  | some t, some ds => (match ds with
   | [] => .bad
   | _ :: _ => (match anyC tab t ds with
    | some b => .ok Ygc hp
    | none => .bad))
  | _, _ => .bad)
 | [x, .t c] => (match tyC hp x, clC c with
  | some t, some d => (match tab t d with
   | some b => .ok Ygc hp
   | none => .bad)
  | _, _ => .bad)
 | _ => .bad
section
variable {K : PySem.W.Frag} {ω : World} {s : S4}
/-- the type of such a value; own classes by the table -/
theorem ty_at (R : Rel K ω s) {w : W} {v : V} {t : CT} (h : tyC s.hp w = some t) (r : Rw K s w v) (hI : ∀ c C, t = .inr c → CN K c C → InsC K C) : ∃ tv, CVal K t tv ∧ TyX K s.H v tv := by
 cases w with
 | t x =>
  cases x with
  | non => simp only [tyC, Option.some.injEq] at h; subst h; simp only [Rw, Rf] at r; subst r; exact ⟨_, rfl, .base .non⟩
  | bl b => simp only [tyC, Option.some.injEq] at h; subst h; simp only [Rw, Rf] at r; subst r; exact ⟨_, rfl, .base (.bl b)⟩
  | int b => simp only [tyC, Option.some.injEq] at h; subst h; simp only [Rw, Rf] at r; subst r; exact ⟨_, rfl, .base (.int b)⟩
  | str b => simp only [tyC, Option.some.injEq] at h; subst h; simp only [Rw, Rf] at r; subst r; exact ⟨_, rfl, .base (.str b)⟩
  | tup xs =>
   simp only [tyC, Option.some.injEq] at h; subst h; simp only [Rw, Rf] at r
   obtain ⟨a, vs, e, f, _⟩ := r
   subst e
   rcases f with ⟨_, o, h, _⟩ | ⟨o, its, n, h1, h2, _⟩
   ·exact ⟨_, rfl, .fTuple h⟩
   ·exact ⟨_, rfl, .kTuple h1 h2⟩
  | pr xs =>
   simp only [tyC, Option.some.injEq] at h; subst h; simp only [Rw, Rf] at r
   obtain ⟨a, vs, e, ⟨_, f⟩, _⟩ := r
   subst e
   exact ⟨_, rfl, .base (.tup f)⟩
  | lst xs =>
   simp only [tyC, Option.some.injEq] at h; subst h; simp only [Rw, Rf] at r
   obtain ⟨a, vs, e, ⟨_, f⟩, _⟩ := r
   subst e
   exact ⟨_, rfl, .base (.lst f)⟩
  | scr xs =>
   simp only [tyC, Option.some.injEq] at h; subst h; simp only [Rw, Rf] at r
   obtain ⟨a, vs, e, f, _⟩ := r
   subst e
   rcases f with ⟨_, o, h⟩ | ⟨o, its, n, h1, h2, _⟩
   ·exact ⟨_, rfl, .base (.frz h)⟩
   ·exact ⟨_, rfl, .kList h1 h2⟩
  | dic ks xs =>
   simp only [tyC, Option.some.injEq] at h; subst h; simp only [Rw, Rf] at r
   obtain ⟨a, vs, e, ⟨_, o, f⟩, _⟩ := r
   subst e
   exact ⟨_, rfl, .fDict f⟩
  | ins c ns xs =>
   simp only [tyC, Option.some.injEq] at h; subst h; simp only [Rw, Rf] at r
   obtain ⟨a, C, vs, e, cn, ⟨_, dx, f⟩, _⟩ := r
   subst e
   have q := hI c C rfl cn
   exact ⟨_, ⟨C, rfl, cn⟩, .base (.ins f q.cl q.ha q.hn q.htk q.hm)⟩
  | ty n => simp [tyC] at h
  | cls c => simp [tyC] at h
  | dit _ _ => simp [tyC] at h
  | exc _ _ _ => simp [tyC] at h
 | r i =>
  obtain ⟨a, e1, e2⟩ := r
  subst e2
  simp only [tyC] at h
  split at h
  ·rename_i xs q
   obtain ⟨vs, h1, _⟩ := R.cell i _ a q e1
   cases h
   exact ⟨_, rfl, .base (.lst h1)⟩
  ·rename_i xs q
   obtain ⟨vs, h1, _⟩ := R.cell i _ a q e1
   cases h
   exact ⟨_, rfl, .base (.dK h1)⟩
  ·rename_i c fs q
   obtain ⟨C, dx, vs, h1, cn, _⟩ := R.cell i _ a q e1
   cases h
   have q := hI c C rfl cn
   exact ⟨_, ⟨C, rfl, cn⟩, .base (.ins h1 q.cl q.ha q.hn q.htk q.hm)⟩
  ·cases h
theorem cl_at {x : T} {v : V} {d : CT} (h : clC x = some d) (r : Rf K s.fz s.H x v) : ∃ cv, CVal K d cv ∧ ClsV v cv := by
 cases x with
 | ty n => simp only [clC, Option.some.injEq] at h; subst h; simp only [Rf] at r; subst r; exact ⟨_, rfl, .ty n⟩
 | cls c => simp only [clC, Option.some.injEq] at h; subst h; simp only [Rf] at r; obtain ⟨C, e, cn⟩ := r; subst e; exact ⟨_, ⟨C, rfl, cn⟩, .own C⟩
 | _ => simp [clC] at h
end
/-- isinstance(x, (c, ..)), the tuple frozen -/
def rIsiF (K : PySem.W.Frag) : List V → Hp → VK → Prop := fun xs H Q => ∃ (x : V) (tp : Addr) (o : Obj) (cs : List V) (t : Value) (us : List Value) (b : Bool), xs = [x, .ref tp] ∧ H tp = some (.frz o (.tup cs)) ∧ Paired ClsV cs us ∧ TyX K H x t ∧ PySem.W.kitAny K t us = some b ∧ Q (.bl b) H
theorem call_isiF {X : Cx} : CallR X (.builtin "isinstance") (rIsiF X.K) := by
 intro pins s σ H xs us Q I r h
 obtain ⟨x, tp, o, cs, t, ws, b, rfl, hT, k, ty, e, q⟩ := h
 obtain ⟨u1, u2, rfl, r1, r2⟩ := vals2 r
 cases (show u2 = Value.ref tp from r2)
 obtain ⟨P, Z, p, hx⟩ := kit_of I r1 ty
 obtain ⟨_, _, its, rv, o1, h1, h2, n, h3⟩ := (show ObjOk X.prog X.w H s.heap tp (.frz o (.tup cs)) from I.hok tp _ hT)
 have e3 := ClsV.all k rv
 subst e3
 obtain ⟨oc, od, dt, sl⟩ := o1
 simp only at h2 h3
 subst h2 h3
 exact PySem.W.kia_tup Z I.kIn p h1 e hx fun tk => ⟨.bl b, H, I.tok tk, rfl, q⟩
def rIsiA (K : PySem.W.Frag) : List V → Hp → VK → Prop := fun xs H Q => rIsi K xs H Q ∨ (rIsiF K xs H Q ∨ rIsiK K xs H Q)
theorem call_isiA {X : Cx} : CallR X (.builtin "isinstance") (rIsiA X.K) := CallR.or call_isi (CallR.or call_isiF call_isiK)
section
variable {K : PySem.W.Frag} {ω : World} {s : S4} {Wx : WX} {tab : CT → CT → Option Bool}
theorem cls_at : ∀ {xs : List T} {vs : List V} {ds : List CT}, clCs xs = some ds → RfL K s.fz s.H xs vs → ∃ us : List Value, Paired ClsV vs us ∧ Paired (CVal K) ds us
 | [], vs, ds, h, r => by
  simp only [RfL] at r
  simp only [clCs, Option.some.injEq] at h
  subst r h
  exact ⟨[], .nil, .nil⟩
 | x :: xs, vs, ds, h, r => by
  simp only [RfL] at r
  obtain ⟨v, t, e, a, b⟩ := r
  subst e
  simp only [clCs] at h
  split at h
  ·rename_i d ds' h1 h2
   cases h
   obtain ⟨cv, c1, c2⟩ := cl_at h1 a
   obtain ⟨us, p1, p2⟩ := cls_at h2 b
   exact ⟨cv :: us, .cons c2 p1, .cons c1 p2⟩
  ·cases h
theorem any_at (h : IsTab K tab) {t : CT} {tv : Value} (ht : CVal K t tv) : ∀ {ds : List CT} {us : List Value} {b : Bool}, anyC tab t ds = some b → Paired (CVal K) ds us → PySem.W.kitAny K tv us = some b
 | [], us, b, e, p => by
  cases p
  simp only [anyC, Option.some.injEq] at e
  subst e
  rfl
 | c :: r, us, b, e, p => by
  cases p with
  | cons q p =>
   simp only [anyC] at e
   unfold PySem.W.kitAny
   split at e
   ·rename_i h1
    rw [h.ok _ _ _ _ _ h1 ht q]
    exact e
   ·rename_i h1
    rw [h.ok _ _ _ _ _ h1 ht q]
    exact any_at h ht e p
   ·cases e
theorem any_some {t : CT} : ∀ {d : CT} {ds : List CT} {b : Bool}, anyC tab t (d :: ds) = some b → ∃ b', tab t d = some b'
 | d, ds, b, e => by
  simp only [anyC] at e
  split at e
  ·exact ⟨_, by assumption⟩
  ·exact ⟨_, by assumption⟩
  ·cases e
theorem ok_isi (ht : IsTab K tab) : OpNOk K ω Wx (oIsi tab) (rIsiA K) := by
 intro s ws xs Q R r go
 unfold oIsi at go
 split at go
 ·rename_i x cs
  obtain ⟨v, c, e, rv, rc⟩ := RwL.two r
  subst e
  split at go
  ·rename_i t ds h1 h2
   split at go
   ·exact go.elim
   ·rename_i d ds
    split at go
    ·rename_i b hb
     have q := go (.bl b) s rfl Ym R (by simp only [Rw, Rf])
     obtain ⟨b', hb'⟩ := any_some hb
     obtain ⟨tv, c1, ty⟩ := ty_at R h1 rv (fun c C e cn => ht.ins c d b' C (by rw [← e]; exact hb') cn)
     simp only [Rw, Rf] at rc
     obtain ⟨a, vs, e, f, l⟩ := rc
     subst e
     obtain ⟨us, p1, p2⟩ := cls_at h2 l
     have ka := any_at ht c1 hb p2
     rcases f with ⟨_, o, hH, _⟩ | ⟨o, its, n, k1, k2, _, k3, _, k4⟩
     ·exact .inr (.inl ⟨v, a, o, vs, tv, us, b, rfl, hH, p1, ty, ka, q⟩)
     ·refine .inr (.inr ⟨v, a, o.dict, us, n, o.slots, tv, b, rfl, ?_, ty, ka, q⟩)
      have e3 := ClsV.all p1 k4
      obtain ⟨oc, od, dt, sl⟩ := o
      simp only at k2 k3
      subst k2 k3
      rw [k1, ← e3]
    ·exact go.elim
  ·exact go.elim
 ·rename_i x c hne
  obtain ⟨v, c', e, rv, rc⟩ := RwL.two r
  subst e
  split at go
  ·rename_i t d h1 h2
   split at go
   ·rename_i b hb
    have q := go (.bl b) s rfl Ym R (by simp only [Rw, Rf])
    obtain ⟨tv, c1, ty⟩ := ty_at R h1 rv (fun c C e cn => ht.ins c d b C (by rw [← e]; exact hb) cn)
    obtain ⟨cv, c2, c3⟩ := cl_at h2 (by simpa only [Rw] using rc)
    exact .inl ⟨v, c', tv, cv, b, rfl, c3, ty, ht.ok _ _ _ _ _ hb c1 c2, q⟩
   ·exact go.elim
  ·exact go.elim
 ·exact go.elim
end
end Mir
namespace Mir
open PySem PySem.Spec L2
open PyProof.Rows hiding St
def mSM (f : OpM) (Fo Fe : M W) : M W := fun eta hp => (Fo eta hp).bind fun w h1 => match w with
 | .t (.str a) => (Fe eta h1).bind fun u h2 => f Yex [u] h2
 | _ => .bad
def zcs : List W → Option (List Str)
 | [] => some []
 | .t (.str x) :: r => (zcs r).map (x :: ·)
 | _ => none
def zbl : OpM := fun w ws hp => match w, ws with
 | .t (.str a), [.t (.str b)] => if (b.length == 0) = false ∧ a.length + 2 ≤ 16777216 then .ok (.t (.lst ((Txt.split a b).map T.str))) hp else .bad
 | _, _ => .bad
def zau : OpM := fun w ws hp => match w, ws with
 | .t (.str a), [.t (.str b)] => if (b.length == 0) = false ∧ a.length ≤ 16777216 then .ok (.t (.pr [.str (Txt.partition a b).1, .str (Txt.partition a b).2.1, .str (Txt.partition a b).2.2])) hp else .bad
 | _, _ => .bad
def zdg : OpM := fun w ws hp => match w, ws with
 | .t (.str a), [.t (.str b)] => .ok (.t (.bl (Txt.startswith a b))) hp
 | _, _ => .bad
def zeq : OpM := fun w ws hp => match w, ws with
 | .t (.str a), [u] => (match (items hp u).bind zcs with
  | some ys => if (ys.map (·.length)).sum + ys.length * a.length ≤ 16777216 then .ok (.t (.str (Txt.join a ys))) hp else .bad
  | none => .bad)
 | _, _ => .bad
section
variable {K : PySem.W.Frag} {ω : World} {s : S4} {Wx : WX}
theorem strs_rw : ∀ {ws : List W} {vs : List V} {ys : List Str}, zcs ws = some ys → RwL K s ws vs → vs = ys.map V.str
 | [], vs, ys, h, r => by
  simp only [zcs, Option.some.injEq] at h
  subst h
  exact r
 | .t (.str x) :: r, vs, ys, h, q => by
  simp only [zcs, Option.map_eq_some_iff] at h
  obtain ⟨zs, h1, h2⟩ := h
  subst h2
  obtain ⟨v, t, e, a, b⟩ := q
  simp only [Rw, Rf] at a
  subst a
  rw [e, strs_rw h1 b]
  rfl
 | .t .non :: _, _, _, h, _ => by simp [zcs] at h
 | .t (.bl _) :: _, _, _, h, _ => by simp [zcs] at h
 | .t (.int _) :: _, _, _, h, _ => by simp [zcs] at h
 | .t (.ty _) :: _, _, _, h, _ => by simp [zcs] at h
 | .t (.tup _) :: _, _, _, h, _ => by simp [zcs] at h
 | .t (.lst _) :: _, _, _, h, _ => by simp [zcs] at h
 | .t (.scr _) :: _, _, _, h, _ => by simp [zcs] at h
 | .t (.pr _) :: _, _, _, h, _ => by simp [zcs] at h
 | .t (.dic _ _) :: _, _, _, h, _ => by simp [zcs] at h
 | .t (.ins _ _ _) :: _, _, _, h, _ => by simp [zcs] at h
 | .t (.cls _) :: _, _, _, h, _ => by simp [zcs] at h
 | .t (.dit _ _) :: _, _, _, h, _ => by simp [zcs] at h
 | .t (.exc _ _ _) :: _, _, _, h, _ => by simp [zcs] at h
 | .r _ :: _, _, _, h, _ => by simp [zcs] at h
theorem ok_split : OpMOk K ω Wx zbl (fun x xs H Q => ∃ a b, x = .str a ∧ xs = [.str b] ∧ (b.length == 0) = false ∧ a.length + 2 ≤ sizeLine ∧ rNewStrs (Txt.split a b) H Q) := by
 intro s w ws x xs Q R r rs go
 unfold zbl at go
 split at go
 ·rename_i a b
  split at go
  ·rename_i hh
   simp only [Rw, Rf] at r
   obtain ⟨v, e, rv⟩ := RwL.one rs
   simp only [Rw, Rf] at rv
   subst r rv e
   exact ⟨a, b, rfl, rfl, hh.1, by rw [sizeLine_eq]; exact hh.2, fun p hp => go (.ref p) (s.addF p (.lst ((Txt.split a b).map V.str))) rfl (zbs R hp) (zcd R hp) (zen R hp (strs_rf _))⟩
  ·exact go.elim
 ·exact go.elim
theorem ok_partition : OpMOk K ω Wx zau (fun x xs H Q => ∃ a b, x = .str a ∧ xs = [.str b] ∧ (b.length == 0) = false ∧ a.length ≤ sizeLine ∧ ∀ p, H p = none → Q (.ref p) (upd H p Yff)) := by
 intro s w ws x xs Q R r rs go
 unfold zau at go
 split at go
 ·rename_i a b
  split at go
  ·rename_i hh
   simp only [Rw, Rf] at r
   obtain ⟨v, e, rv⟩ := RwL.one rs
   simp only [Rw, Rf] at rv
   subst r rv e
   exact ⟨a, b, rfl, rfl, hh.1, by rw [sizeLine_eq]; exact hh.2, fun p hp => go (.ref p) (s.addF p Yff) rfl (zbs R hp) (zcd R hp) (addF_pr R hp (strs_rf [(Txt.partition a b).1, (Txt.partition a b).2.1, (Txt.partition a b).2.2]))⟩
  ·exact go.elim
 ·exact go.elim
theorem ok_startswith : OpMOk K ω Wx zdg (fun x xs H Q => ∃ a b, x = .str a ∧ xs = [.str b] ∧ Q (.bl (Txt.startswith a b)) H) := by
 intro s w ws x xs Q R r rs go
 unfold zdg at go
 split at go
 ·rename_i a b
  simp only [Rw, Rf] at r
  obtain ⟨v, e, rv⟩ := RwL.one rs
  simp only [Rw, Rf] at rv
  subst r rv e
  exact ⟨a, b, rfl, rfl, go _ s rfl Ym R Yl⟩
 ·exact go.elim
theorem ok_join : OpMOk K ω Wx zeq (fun x xs H Q => ∃ a p, ∃ ys : List Str, x = .str a ∧ xs = [.ref p] ∧ (SqL K H p (ys.map V.str) ∨ SqT K H p (ys.map V.str)) ∧ (ys.map (·.length)).sum + ys.length * a.length ≤ 16777216 ∧ Q (.str (Txt.join a ys)) H) := by
 intro s w ws x xs Q R r rs go
 unfold zeq at go
 split at go
 ·rename_i a u
  split at go
  ·rename_i ys hy
   split at go
   ·rename_i hz
    obtain ⟨us, h1, h2⟩ := Option.bind_eq_some_iff.mp hy
    simp only [Rw, Rf] at r
    obtain ⟨v, e, rv⟩ := RwL.one rs
    subst r e
    obtain ⟨p, zs, e, q, l⟩ := items_at R h1 rv
    subst e
    have ez := strs_rw h2 l
    subst ez
    exact ⟨a, p, ys, rfl, rfl, q, hz, go _ s rfl Ym R Yl⟩
   ·exact go.elim
  ·exact go.elim
 ·exact go.elim
end
section
variable {X : Cx} {Wx : WX} {o e : Expr} {Fo Fe : M W} {name : Str} {apos cpos : Pos} {id : String} {f : OpM} {r : V → List V → Hp → VK → Prop}
theorem ie_sm (slot : Slot "str" name id) (hty : typeOf (.builtin id) = pure (.type "method_descriptor")) (hm : MtR X id r) (hf : OpMOk X.K X.w Wx f r) (ho : IE X Wx o Fo) (he : IE X Wx e Fe)
  (hs : starEach [e] X.env = [Yfl] := by rfl) (hbase : attributeBase o name X.env Yd5 = eval o X.env := by rfl) (hline : (apos.endLine == cpos.line) = true := by rfl) :
  IE X Wx (.Call (.Attribute o name apos) [e] [] cpos) (mSM f Fo Fe) :=
 PE.imp (pe_m1 slot hty hm ho he hs hbase hline) fun σ H Q h =>
  tM.bind1 (R := fun (x : V) (H1 : Hp) => (∃ a, x = .str a) ∧ tE X.K X.w Wx Fe σ H1 fun y H2 => r x [y] H2 Q) (k := fun (w : W) eta h1 => match w with | .t (.str a) => ((Fe eta h1).bind fun u h2 => f Yex [u] h2 : Res W) | _ => .bad) h fun s eta a b R1 S1 f1 g => by
   split at g
   ·rename_i a
    refine ⟨⟨a, by simpa only [Rw, Rf] using f1⟩, s, eta, rfl, R1, S1, Go.bind g fun u y s' A' R' r' _ g' => hf s' Yex [u] b [y] Q R' (f1.aft A' R1) ⟨y, [], rfl, r', rfl⟩ g'⟩
   ·exact g.elim
theorem zdy (ho : IE X Wx o Fo) (he : IE X Wx e Fe) (hs : starEach [e] X.env = [Yfl] := by rfl) (hbase : attributeBase o "split" X.env Yd5 = eval o X.env := by rfl) (hline : (apos.endLine == cpos.line) = true := by rfl) :
  IE X Wx (.Call (.Attribute o "split" apos) [e] [] cpos) (mSM zbl Fo Fe) := ie_sm F.slot_str_split F.type_str_split mt_split ok_split ho he hs hbase hline
theorem zel (ho : IE X Wx o Fo) (he : IE X Wx e Fe) (hs : starEach [e] X.env = [Yfl] := by rfl) (hbase : attributeBase o "partition" X.env Yd5 = eval o X.env := by rfl) (hline : (apos.endLine == cpos.line) = true := by rfl) :
  IE X Wx (.Call (.Attribute o "partition" apos) [e] [] cpos) (mSM zau Fo Fe) := ie_sm F.slot_str_partition F.type_str_partition mt_partition ok_partition ho he hs hbase hline
theorem ie_startswith (ho : IE X Wx o Fo) (he : IE X Wx e Fe) (hs : starEach [e] X.env = [Yfl] := by rfl) (hbase : attributeBase o "startswith" X.env Yd5 = eval o X.env := by rfl) (hline : (apos.endLine == cpos.line) = true := by rfl) :
  IE X Wx (.Call (.Attribute o "startswith" apos) [e] [] cpos) (mSM zdg Fo Fe) := ie_sm F.slot_str_startswith F.type_str_startswith mt_startswith ok_startswith ho he hs hbase hline
theorem ie_join (ho : IE X Wx o Fo) (he : IE X Wx e Fe) (hs : starEach [e] X.env = [Yfl] := by rfl) (hbase : attributeBase o "join" X.env Yd5 = eval o X.env := by rfl) (hline : (apos.endLine == cpos.line) = true := by rfl) :
  IE X Wx (.Call (.Attribute o "join" apos) [e] [] cpos) (mSM zeq Fo Fe) := ie_sm F.slot_str_join F.type_str_join mt_join ok_join ho he hs hbase hline
end
def inS (neg : Bool) : Op2 := fun a b hp => match a, b with
 | .t (.str i), .t (.str j) => (match i.cps.toList with
  | [c] => .ok (.t (.bl (if neg then !decide (c ∈ j.cps.toList) else decide (c ∈ j.cps.toList)))) hp
  | _ => .bad)
 | _, _ => .bad
section
variable {X : Cx} {Wx : WX} {a b : Expr} {Fa Fb : M W} {pos : Pos}
theorem ok_inS {K : PySem.W.Frag} {ω : World} : zec K ω Wx (inS false) (fun x y H Q => ∃ (c : Nat) (z : Str), x = .str ⟨#[c]⟩ ∧ y = .str z ∧ Q (.bl (decide (c ∈ z.cps.toList))) H) := by
 intro s a b x y Q R ra rb go
 unfold inS at go
 split at go
 ·rename_i i j
  split at go
  ·rename_i c hc
   simp only [Rw, Rf] at ra rb
   subst ra rb
   have ei : i = ⟨#[c]⟩ := Str.ext' (Array.toList_inj.mp (by rw [hc]))
   subst ei
   exact ⟨c, j, rfl, rfl, go _ s rfl Ym R Yl⟩
  ·exact go.elim
 ·exact go.elim
theorem ie_inS (ha : IE X Wx a Fa) (hb : IE X Wx b Fb) (hm : behindInMarks .In b = false := by rfl) : IE X Wx (.Compare a [.In] [b] pos) (mBin (inS false) Fa Fb) := ie_cmp op_in_sign ok_inS ha hb hm
end
/-- a text or a number, as it is shown -/
def oFmt : Op1 := fun w hp => match w with
 | .t (.str y) => if y.length ≤ 16777216 then .ok Yhh hp else .bad
 | .t (.int i) => if i.natAbs.log2 < 1920 then .ok (.t (.str (toString i))) hp else .bad
 | _ => .bad
def mJNil : Str → M Str := fun acc _ hp => .ok acc hp
def ze3 (Fa : M W) (J : Str → M Str) : Str → M Str := fun acc eta hp => (Fa eta hp).bind fun a h1 => match a with
 | .t (.str y) => if (acc ++ y).length ≤ 16777216 then J (acc ++ y) eta h1 else .bad
 | _ => .bad
def mJoined (J : Str → M Str) : M W := fun eta hp => (J Str.empty eta hp).bind fun out h => .ok (.t (.str out)) h
def IJ (X : Cx) (Wx : WX) (es : List Expr) (J : Str → M Str) : Prop := ∃ ts, PJ X es ts ∧ ∀ acc σ H (Q : Str → Hp → Prop), tM X.K X.w Wx (fun _ (a b : Str) => a = b) (J acc) σ H Q → tJs ts acc σ H Q
section
variable {X : Cx} {Wx : WX} {e v1 v2 : Expr} {es rest : List Expr} {F : M W} {J : Str → M Str} {pos : Pos}
theorem ok_fmt {K : PySem.W.Frag} {ω : World} {s : S4} {w : W} {v : V} {Q : VK} (R : Rel K ω s) (r : Rw K s w v) (g : Go K ω Wx (Rw K) s (oFmt w s.hp) Q) : (∃ y : Str, v = .str y ∧ y.length ≤ sizeLine ∧ Q (.str y) s.H) ∨ ∃ i : Int, v = .int i ∧ i.natAbs.log2 < 1920 ∧ Q (.str (toString i)) s.H := by
 unfold oFmt at g
 split at g
 ·rename_i y
  split at g
  ·rename_i hz
   exact .inl ⟨y, by simpa only [Rw, Rf] using r, by rw [sizeLine_eq]; exact hz, g _ s rfl Ym R Yl⟩
  ·exact g.elim
 ·rename_i i
  split at g
  ·rename_i hz
   exact .inr ⟨i, by simpa only [Rw, Rf] using r, hz, g _ s rfl Ym R Yl⟩
  ·exact g.elim
 ·exact g.elim
theorem ie_fmt (he : IE X Wx e F) : IE X Wx (.FormattedValue e (-1) none pos) (mUn oFmt F) := PE.imp (pe_fmt he) fun σ H Q h =>
 tM.bind1 (R := fun (x : V) (H1 : Hp) => (∃ y : Str, x = .str y ∧ y.length ≤ sizeLine ∧ Q (.str y) H1) ∨ ∃ i : Int, x = .int i ∧ i.natAbs.log2 < 1920 ∧ Q (.str (toString i)) H1) (k := fun (a : W) _ hp => oFmt a hp) h fun s eta a b R1 _ f1 g => ok_fmt R1 f1 g
theorem ij_nil : IJ X Wx [] mJNil := ⟨[], .nil, fun acc σ H Q h => by
 obtain ⟨s, eta, e1, R1, S1, g⟩ := h
 subst e1
 exact g acc s rfl Ym R1 rfl⟩
theorem zet (h : IE X Wx e F) (r : IJ X Wx es J) : IJ X Wx Yal (ze3 F J) := by
 obtain ⟨ts, p, k⟩ := r
 refine ⟨_ :: ts, .cons h p, fun acc σ H Q h => ?_⟩
 refine tM.bind1 (C := Str) (R := fun (x : V) (H1 : Hp) => ∃ y : Str, x = .str y ∧ (acc ++ y).length ≤ sizeLine ∧ tJs ts (acc ++ y) σ H1 Q) (k := fun (a : W) (eta : IS) (h1 : IH) => match a with | .t (.str y) => (if (acc ++ y).length ≤ 16777216 then J (acc ++ y) eta h1 else .bad : Res Str) | _ => .bad) h fun s eta a b R1 S1 f1 g => ?_
 split at g
 ·rename_i y
  split at g
  ·rename_i hz
   exact ⟨y, by simpa only [Rw, Rf] using f1, by rw [sizeLine_eq]; exact hz, k _ _ _ _ ⟨s, eta, rfl, R1, S1, g⟩⟩
  ·exact g.elim
 ·exact g.elim
theorem ie_joined (h : IJ X Wx (v1 :: v2 :: rest) J) : IE X Wx (.JoinedStr (v1 :: v2 :: rest) pos) (mJoined J) := by
 obtain ⟨ts, p, k⟩ := h
 exact PE.imp (pe_joined p) fun σ H Q h => k _ _ _ _ (tM.bind1 (C := W) (Fam := fun _ (a b : Str) => a = b) (R := fun (out : Str) (H1 : Hp) => Q (.str out) H1) (k := fun (out : Str) (_ : IS) (h : IH) => (.ok (.t (.str out)) h : Res W)) h fun s eta a b R1 S1 f1 g => by
  subst f1
  exact g _ s rfl Ym R1 Yl)
end
end Mir
namespace Mir
open PySem PySem.Spec L2
open PyProof.Rows hiding St
section
variable {prog : Program} {w : World} {A : Around} {E : Value → Shared → Prop} {s : Shared}
/-- the loop: Ph i holds of the heap behind i elements -/
theorem addAll {R : Result → Shared → Prop} {I S l : Addr} {items : Array Value} (hh : A.in1.handled = none) (nl : l ≠ I) (nS : S ≠ I) (nSl : S ≠ l) (Ph : Nat → Heap → Prop)
  (stay : ∀ i h h', Ph i h → (∀ b o, b ≠ I → h.get? b = some o → h'.get? b = some o) → Ph i h')
  (step : ∀ (i : Nat) (v : Value) (s1 : Shared) (Q : Bool → Shared → Prop) (E1 : Value → Shared → Prop), items[i]? = some v → Ph i s1.heap → (∀ b h' tk, Heap.SameBut S s1.heap h' → s1.toks ≤ tk → Ph (i + 1) h' → Q b { s1 with heap := h', toks := tk }) → wpAny Yav A.in1 (setAdd S v) Q E1 s1) :
  ∀ (k i : Nat) (s0 : Shared), items.size - i = k → i ≤ items.size → (s0.heap.IsListIter I l i ∧ s0.heap.IsList l items) → Ph i s0.heap →
   (∀ s' : Shared, Moved [S, I] (fun a b => b = a) s0 s' → Ph items.size s'.heap → R (.ok (.ret .none)) s') →
   codeAny Yav A (.builtin "set.update.loop" ⟨[.ref S, .ref I], []⟩) R s0 := by
 have W := (Walks.list (prog := prog) (w := w) hh I l nl items).toS
 have wide : ∀ {a b : Shared}, Moved [I] (fun x y => y = x) a b → Moved [S, I] (fun x y => y = x) a b := fun m => ⟨fun b o hb q => m.heap b o (fun z => hb (List.mem_cons_of_mem _ z)) q, m.gens, m.drawn, m.os, m.toks⟩
 intro k
 induction k with
 | zero =>
  intro i s0 hk hi st ph hR
  obtain rfl : i = items.size := by omega
  refine codeAny_builtin F.entry_set_update_loop ?_
  rw [Around.under_plainId F.plain_set_update_loop _]
  refine wpAny_bind (W.done s0 _ _ st fun s' hm => wpAny_pure (hR s' (wide hm) (stay _ _ _ ph fun b o hb q => hm.heap b o (by simpa using hb) q)))
 | succ k ih =>
  intro i s0 hk hi st ph hR
  have hlt : i < items.size := by omega
  refine codeAny_builtin F.entry_set_update_loop ?_
  rw [Around.under_plainId F.plain_set_update_loop _]
  refine wpAny_bind (W.item i s0 _ _ hlt st fun v s1 hv st1 hm => ?_)
  have ph1 : Ph i s1.heap := stay _ _ _ ph fun b o hb q => hm.heap b o (by simpa using hb) q
  refine wpAny_bind (wpAny_holding (step i v s1 _ _ hv ph1 fun b h' tk sb ht ph2 => ?_))
  have kp : ∀ b o, b ≠ S → s1.heap.get? b = some o → h'.get? b = some o := fun b o hb q => (sb.2 b hb).trans q
  refine wpAny_pure ⟨plainId_quiet F.plain_set_update_loop _, ih (i + 1) _ Yb hlt (W.frame _ s1 _ _ st1 ht fun b hb o q => kp b o (fun z => ?_) q) ph2 fun s2 hm2 ph3 => hR s2 ⟨fun b o hb q => ?_, ?_, ?_, ?_, ?_⟩ ph3⟩
  ·subst z
   simp only [List.mem_cons, List.not_mem_nil, or_false] at hb
   rcases hb with z | z
   ·exact nS z
   ·exact nSl z
  ·have h1 := (wide hm).heap b o hb q
   exact hm2.heap b o hb (kp b o (fun z => hb (by simp [z])) h1)
  ·exact hm2.gens.trans hm.gens
  ·exact hm2.drawn.trans hm.drawn
  ·exact hm2.os.trans hm.os
  ·exact Nat.le_trans (Nat.le_trans hm.toks ht) hm2.toks
/-- an empty set -/
abbrev zdz (led : Bool) : Obj := { cls := .type "set", dict := none, data := .set #[] 0 (.fresh 0 0 led) }
/-- set(l) -/
theorem call_setL {l : Addr} {items : Array Value} {Q : Value → Shared → Prop} (hh : A.handled = none) (hl : s.heap.IsList l items) (Ph : Nat → Heap → Prop)
  (base : ∀ led h, h.get? s.heap.objs.size = some (zdz led) → (∀ b o, s.heap.get? b = some o → h.get? b = some o) → Ph 0 h)
  (stay : ∀ i h h', Ph i h → (∀ b o, b ≠ s.heap.objs.size + 1 → h.get? b = some o → h'.get? b = some o) → Ph i h')
  (step : ∀ (A' : Around) (i : Nat) (v : Value) (s1 : Shared) (Q : Bool → Shared → Prop) (E1 : Value → Shared → Prop), A'.handled = none → A'.units ≤ A.units + 8 → items[i]? = some v → Ph i s1.heap → (∀ b h' tk, Heap.SameBut s.heap.objs.size s1.heap h' → s1.toks ≤ tk → Ph (i + 1) h' → Q b { s1 with heap := h', toks := tk }) → wpAny Yav A' (setAdd s.heap.objs.size v) Q E1 s1)
  (hq : ∀ h' tk, Ph items.size h' → (∀ b o, s.heap.get? b = some o → h'.get? b = some o) → Q (.ref s.heap.objs.size) { s with heap := h', toks := tk }) :
  wpAny Yav A (call (.type "set") [.ref l]) Q E s := by
 have TC := PySem.F.called_set
 obtain ⟨c, tl, hmro⟩ := TC.mro
 have hmade := TC.made
 have hsub := TC.sub
 have hnt := TC.notType
 have hcc := TC.canCreate
 have hct := PySem.F.typeCall_set_1 (.ref l)
 refine wpAny_call (codeAny_of_tree (wpAny_pure ⟨Code.quiet_builtin _ Yt, codeAny_builtin PySem.F.entry_type_call ?_⟩))
 rw [Around.under_plain (weight_type_call_type "set" [.ref l] []) rfl]
 repeat (any_goals (first | assumption | wp_step))
 refine codeAny_mono (code_set_new_1 (.ref l) (E := E) (Q₁ := fun obj s₁ => ∃ led : Bool, obj = .ref s.heap.objs.size ∧ s₁ = { s with heap := s.heap.push (zdz led) }) fun led => ⟨led, rfl, rfl⟩) fun r s₁ hr => ?_
 rcases r with e | fl
 ·exact hr
 cases fl with
 | ret obj =>
  obtain ⟨led, rfl, rfl⟩ := hr
  have gS : (s.heap.push (zdz led)).get? s.heap.objs.size = some (zdz led) := Heap.get?_push_size _ rfl
  have tS : Shared.TypeIs { s with heap := s.heap.push (zdz led) } (.ref s.heap.objs.size) "set" := ⟨_, gS, rfl⟩
  have hli := TC.init.lookup
  have hbi := TC.init.bind (.ref s.heap.objs.size)
  have lS : l < s.heap.objs.size := let ⟨_, q, _⟩ := hl; Heap.lt_size q
  have zS : (s.heap.push (zdz led)).objs.size = s.heap.objs.size + 1 := Heap.size_push ..
  repeat (any_goals (first | assumption | wp_step))
  refine codeAny_mono (codeAny_call_builtin (R := wants (fun r s₂ => r = .none ∧ ∃ h' tk, s₂ = { s with heap := h', toks := tk } ∧ Ph items.size h' ∧ ∀ b o, s.heap.get? b = some o → h'.get? b = some o) E) TC.init.plain PySem.F.entry_set_init (check_set_init_1 tS ?_)) fun r₂ s₂ hr₂ => ?_
  ·have hl1 : (s.heap.push (zdz led)).IsList l items := hl.push _
   obtain ⟨ol, hol, hcl, nl, hdl⟩ := id hl1
   have t1 : Shared.TypeIs { s with heap := s.heap.push (zdz led) } (.ref l) "list" := ⟨ol, hol, hcl⟩
   have hsls := PySem.F.sub_list_set
   have hslf := PySem.F.sub_list_frozenset
   have hne : (Value.type "list" == Value.type "dict") = false := by decide
   obtain ⟨ocls, odict, odata, oslots⟩ := ol
   simp only at hcl hdl
   subst hcl hdl
   unfold Builtin.«set.__init__» noKeywords Builtin.Frozenset.updateFrom
   generalize hPI : pyIter = PI
   wp_walk
   subst hPI
   refine wpAny_pyIter_list hl1 (wpAny_bind (wpAny_runValue ?_))
   refine addAll (A := A.in1.in1) (S := s.heap.objs.size) (I := (s.heap.push (zdz led)).objs.size) (l := l) (items := items) (by simp [hh]) (by rw [zS]; exact Nat.ne_of_lt (Nat.lt_succ_of_lt lS)) (by rw [zS]; exact Nat.ne_of_lt Yhv) (Nat.ne_of_gt lS) Ph (fun i h h' p k => stay i h h' p fun b o hb q => k b o (by rw [zS]; exact hb) q) (fun i v s1 Q1 E1 hv p k => step _ i v s1 Q1 E1 (by simp [hh]) (by simp only [Around.in1_units]; omega) hv p k) _ 0 _ rfl (Nat.zero_le _) ?_ ?_ ?_
   ·exact ⟨⟨_, Heap.get?_push_size _ rfl, rfl, rfl⟩, hl1.push _⟩
   ·exact base led _ (Heap.get?_push_of_some _ gS) fun b o q => Heap.get?_push_of_some _ (Heap.get?_push_of_some _ q)
   ·intro s' hm ph
    obtain ⟨h', g', d', tk', os'⟩ := s'
    obtain rfl : g' = s.gens := hm.gens
    obtain rfl : d' = s.drawn := hm.drawn
    obtain rfl : os' = s.os := hm.os
    show wpAny _ _ _ _ _ _
    refine wpAny_pure ?_
    show wpAny _ _ (ret Value.none) _ _ _
    refine wpAny_pure ⟨rfl, h', tk', rfl, ph, fun b o q => ?_⟩
    have hb := Heap.lt_size q
    refine hm.heap b o (fun z => ?_) (Heap.get?_push_of_some _ (Heap.get?_push_of_some _ q))
    simp only [List.mem_cons, List.not_mem_nil, or_false, zS] at z
    rcases z with z | z
    ·rw [z] at hb; exact Nat.lt_irrefl _ hb
    ·rw [z] at hb; exact Nat.lt_irrefl _ (Nat.lt_trans Yhv hb)
  ·rcases r₂ with e | fl₂
   ·exact hr₂
   cases fl₂ with
   | ret r =>
    obtain ⟨rfl, h', tk, rfl, ph, k⟩ := hr₂
    repeat (any_goals (first | assumption | wp_step))
    exact hq h' tk ph k
   | _ => exact hr₂.elim
 | _ => exact hr.elim
end
def memK (k : Key) (l : List Key) : Bool := l.any fun j => decide (k = j)
def addK (acc : List Key) (k : Key) : List Key := if memK k acc = true then acc else acc ++ [k]
/-- each once, where it first comes -/
def zdw (ks : List Key) : List Key := ks.foldl addK []
theorem addK_mem {acc : List Key} {k j : Key} : memK j (addK acc k) = (memK j acc || decide (j = k)) := by
 unfold addK
 split
 ·rename_i h
  by_cases e : j = k
  ·subst e
   rw [h, Bool.true_or]
  ·simp [e]
 ·simp [memK]
theorem addK_len {acc : List Key} {k : Key} : (addK acc k).length = if memK k acc = true then acc.length else acc.length + 1 := by
 unfold addK
 split <;> simp
theorem onceK_snoc (ks : List Key) (k : Key) : zdw (ks ++ [k]) = addK (zdw ks) k := by simp [zdw, List.foldl_append]
theorem onceK_le : ∀ (ks acc : List Key), (ks.foldl addK acc).length ≤ acc.length + ks.length
 | [], acc => by simp
 | k :: r, acc => by
  have h := onceK_le r (addK acc k)
  have h2 : (addK acc k).length ≤ acc.length + 1 := by rw [addK_len]; split <;> omega
  simp only [List.foldl_cons, List.length_cons]
  omega
section
variable {X : Cx}
/-- the set behind the first i -/
def PhK (P : Program) (w : World) (S : Addr) (ks : List Key) (i : Nat) (h : Heap) : Prop := h.SetOf (mixKind P w) S (fun k => memK k (zdw (ks.take i))) (zdw (ks.take i)).length
def tLenSetK (K : PySem.W.Frag) (ta : TE) : TE := fun σ H Q => ta σ H fun x H1 => ∃ (l : Addr) (ks : List Key), x = .ref l ∧ SqL K H1 l (ks.map kV) ∧ ks.length ≤ 4000 ∧ Q (.int Ydz) H1
theorem pe_lenSetK {a : Expr} {ta : TE} {p p2 q pos : Pos} (hc : X.calm = true) (hg : Gl X "len") (hm : X.mg "len" = none) (hg2 : Gl X "set") (hm2 : X.mg "set" = none) (ha : PE X a ta)
  (na : starEach [a] X.env = (false, eval a X.env) :: starEach [] X.env := by rfl) : PE X Ybm (tLenSetK X.K ta) := ⟨fun pins s σ H Q I h => by
 refine Call_ (ld_blt I hg hm boot_len (callWith_builtin1 (args_cons (Call_ (ld_blt I hg2 hm2 boot_set (callWith_type1 (args_cons (thn (ha.run pins s σ H _ I h) ?_) na) na rfl))) rfl) rfl rfl))
 rintro v s1 ⟨x, H1, I1, r1, l, ks, rfl, hq, hz, q1⟩
 cases r1
 obtain ⟨its, rv, pl, _⟩ := I1.list hq
 have hn : its.length = ks.length := by rw [← rv.length, List.length_map]
 refine args_nil (call_setL (items := its.toArray) (I1.ok.hd hc) pl.isList (PhK X.prog X.w s1.heap.objs.size ks) ?_ ?_ ?_ ?_)
 ·intro led h g k
  refine ⟨_, #[], 0, _, g, ⟨rfl, rfl, rfl⟩, rfl, (fun e he => by simp at he), (fun k => by simp [zdw, memK]), by simp [scanBound], rfl, ?_⟩
  simp [zdw]
 ·rintro i h h' ⟨o, es, ep, t, ho, r⟩ k
  exact ⟨o, es, ep, t, k _ _ (Nat.ne_of_lt Yhv) ho, r⟩
 ·intro A' i v s2 Q2 E2 hA _ hv ph k
  have hi : i < ks.length := by
   have := (Array.getElem?_eq_some_iff.mp hv).1
   simpa [hn] using this
  have hk : ks.take (i + 1) = ks.take i ++ [ks[i]] := by rw [List.take_succ_eq_append_getElem hi]
  have rv2 : RelV (kV ks[i]) v := by
   obtain ⟨u, e1, e2⟩ := Vals.get rv (i := i) (x := kV ks[i]) (by rw [List.getElem?_map, List.getElem?_eq_getElem hi]; rfl)
   have e3 : its[i]? = some v := by simpa using hv
   rw [e3] at e1
   cases e1
   exact e2
  unfold setAdd
  refine wpAny_holding (wpAny_bind ((mixKind X.prog X.w).pyHash (k := ks[i]) (kV_is rv2) ?_))
  have hroom : (zdw (ks.take i)).length + 1 < scanBound := by
   have := onceK_le (ks.take i) []
   have e : (ks.take i).length ≤ ks.length := by rw [List.length_take]; omega
   simp only [List.length_nil, scanBound] at *
   unfold zdw
   omega
  refine wpAny_setAddHashed_of (knd := mixKind X.prog X.w) (s := { s2 with toks := s2.toks + 1 }) (kV_is rv2) (key_scan rv2) ph hroom fun h' sb hS => ?_
  refine k _ h' _ sb (Nat.le_succ _) ?_
  have e1 : (fun j => memK j (zdw (ks.take i)) || decide (j = ks[i])) = fun j => memK j (zdw (ks.take (i + 1))) := funext fun j => by rw [hk, onceK_snoc, addK_mem]
  have e2 : (if memK ks[i] (zdw (ks.take i)) = true then (zdw (ks.take i)).length else (zdw (ks.take i)).length + 1) = (zdw (ks.take (i + 1))).length := by rw [hk, onceK_snoc, addK_len]
  rw [e1, e2] at hS
  exact hS
 ·intro h' tk ph k
  have I2 : Inv X pins σ H1 { s1 with heap := h', toks := tk } := I1.kept k
  obtain ⟨o, es, ep, t, ho, hex, hd, _, _, hb, hf, hn2⟩ := ph
  rw [List.take_of_length_le (by simp [hn])] at hn2
  exact args_nil (call_len_set ho hex hd hf (by have : es.size < 4096 := hb; omega) ⟨.int Ydz, H1, I2.tok _, ⟨_, by rw [hn2]⟩, q1⟩)⟩
end
/-- texts and ints as keys -/
def keysOf : List W → Option (List Key)
 | [] => some []
 | .t (.str x) :: r => (keysOf r).map (Sum.inr x :: ·)
 | .t (.int x) :: r => (keysOf r).map (Sum.inl x :: ·)
 | _ => none
def zfm (F : M W) : M W := fun eta hp => (F eta hp).bind fun w h => match (zey h w).bind keysOf with
 | some ks => if ks.length ≤ 4000 then .ok (.t (.int Ydz)) h else .bad
 | none => .bad
section
variable {X : Cx} {Wx : WX} {a : Expr} {F : M W} {p p2 q pos : Pos}
theorem keys_rw {K : PySem.W.Frag} {s : S4} : ∀ {ws : List W} {vs : List V} {ks : List Key}, keysOf ws = some ks → RwL K s ws vs → vs = ks.map kV := by
 intro ws
 induction ws with
 | nil =>
  intro vs ks h r
  simp only [keysOf, Option.some.injEq] at h
  subst h
  exact r
 | cons w ws ih =>
  intro vs ks h r
  obtain ⟨v, t, e, a, b⟩ := r
  unfold keysOf at h
  split at h
  ·rename_i e2
   cases e2
  ·rename_i x r' e2
   cases e2
   obtain ⟨zs, h1, h2⟩ := Option.map_eq_some_iff.mp h
   simp only [Rw, Rf] at a
   rw [← h2, e, a, ih h1 b]
   rfl
  ·rename_i x r' e2
   cases e2
   obtain ⟨zs, h1, h2⟩ := Option.map_eq_some_iff.mp h
   simp only [Rw, Rf] at a
   rw [← h2, e, a, ih h1 b]
   rfl
  ·cases h
theorem ie_lenSet (hc : X.calm = true) (hm : X.mg "len" = none) (hm2 : X.mg "set" = none) (ha : IE X Wx a F) (hg : Gl X "len" := by rfl) (hg2 : Gl X "set" := by rfl)
  (na : starEach [a] X.env = (false, eval a X.env) :: starEach [] X.env := by rfl) : IE X Wx Ybm (zfm F) :=
 PE.imp (pe_lenSetK hc hg hm hg2 hm2 ha na) fun σ H Q h =>
  tM.bind1 (R := fun (x : V) (H1 : Hp) => ∃ (l : Addr) (ks : List Key), x = .ref l ∧ SqL X.K H1 l (ks.map kV) ∧ ks.length ≤ 4000 ∧ Q (.int Ydz) H1)
   (k := fun (w : W) _ h => match (zey h w).bind keysOf with | some ks => (if ks.length ≤ 4000 then .ok (.t (.int Ydz)) h else .bad : Res W) | none => .bad) h fun s eta w v R1 S1 f1 g => by
   split at g
   ·rename_i ks hk
    split at g
    ·rename_i hz
     obtain ⟨ws, h1, h2⟩ := Option.bind_eq_some_iff.mp hk
     obtain ⟨l, xs, e, sq, rl⟩ := litems_sq R1 h1 f1
     subst e
     have ev := keys_rw h2 rl
     subst ev
     exact ⟨l, ks, rfl, sq, hz, g _ s rfl Ym R1 Yl⟩
    ·exact g.elim
   ·exact g.elim
end
section
variable {X : Cx} {Wx : WX} {x : Str} {pos : Pos}
theorem zfc {v : Str} {t : Tok} (hm : X.mg x = some (.str v t)) (hg : Gl X x := by rfl) (hd : (x == ("__debug__" : Str)) = false := by decide) : IE X Wx Yix (mC (.str v)) :=
 ie_glob hg hm (v := .str v) ⟨_, rfl⟩ (fun s => by simp [Rw, Rf]) hd
/-- a tuple of texts -/
theorem ie_globT {a : Addr} {o : Obj} {us : List Value} {vs : List Str} {n : Nat} (hm : X.mg x = some (.ref a)) (hl : X.K.lookup a = some o) (hc : o.cls = .type "tuple") (hdn : o.dict = none) (hd : o.data = .seq us.toArray n) (hr : Vals (vs.map V.str) us) (hz : us.length ≤ 1000) (hg : Gl X x := by rfl) (hdb : (x == ("__debug__" : Str)) = false := by decide) : IE X Wx Yix (mC (.tup (vs.map T.str))) :=
 ie_glob hg hm (v := .ref a) rfl (fun s => by
  simp only [Rw, Rf]
  exact ⟨a, vs.map V.str, rfl, .inr ⟨o, us.toArray, n, hl, hc, hdn, hd, by rw [sizeLine_eq, List.size_toArray]; omega, by simpa using hr⟩, strs_rf vs⟩) hdb
/-- an own class -/
theorem ie_cls {c : Str} {C : Addr} (cn : CN X.K c C) (hm : X.mg x = some (.ref C)) (hg : Gl X x := by rfl) (hdb : (x == ("__debug__" : Str)) = false := by decide) : IE X Wx Yix (mC (.cls c)) :=
 ie_glob hg hm (v := .ref C) rfl (fun s => by
  simp only [Rw, Rf]
  exact ⟨C, rfl, cn⟩) hdb
/-- a built-in type -/
theorem ie_ty {n : String} (hm : X.mg x = none) (hb : bootBuiltins x = some (.type n)) (hg : Gl X x := by rfl) (hn : x ≠ "__name__" := by decide) (hdb : (x == ("__debug__" : Str)) = false := by decide) : IE X Wx Yix (mC (.ty n)) := ⟨fun pins s σ H Q I h => by
 refine ld_blt I hg hm hb ⟨.ty n, H, I, rfl, ?_⟩ hn hdb
 obtain ⟨s0, eta, e1, R1, S1, g⟩ := h
 subst e1
 exact g _ s0 rfl (Aft.refl s0) R1 Yl⟩
end
structure ClsF (K : PySem.W.Frag) (mg : Str → Option Value) (c : Str) (C : Addr) : Prop where
 cn : CN K c C
 mg : mg c = some (.ref C)
 cl : Cls K C
structure XF (P : Program) (w : World) (K : PySem.W.Frag) (mg : Str → Option Value) (base : Heap) (c : Str) (C fI : Addr) (fd : FuncData) (ps : List Str) (fld : Str) : Prop where
 T : OexC K C
 iC : PySem.W.findIn K (.ref C) "__init__" = some (some Yh0)
 tI : PySem.W.typeIn K Yh0 = some Yfm
 cn : CN K c C
 ok : FnOk P w K mg base Yn 1 fI fd ps (spI C fld)
 hot : L2H.FnH P w K mg base Yn 1 fI fd ps (spI C fld)
 mg : mg c = some (.ref C)
 bd : Binds K fd ps []
 em : PySem.W.exmOne K (.ref C) (.ref C) = some true
def hitC (c : Str) : Str → Option Bool := fun x => if x = c then some true else none
section
variable {P : Program} {w : World} {K : PySem.W.Frag} {mg : Str → Option Value} {base : Heap} {c : Str} {C fI : Addr} {fd : FuncData} {ps : List Str} {fld : Str}
theorem XF.hit (x : XF P w K mg base c C fI fd ps fld) : HitOk K (.ref C) (hitC c) := fun c' C' b h n => by
 unfold hitC at h
 split at h
 ·rename_i e
  cases h
  subst e
  cases n.inj x.cn
  exact x.em
 ·cases h
theorem XF.sub (x : XF P w K mg base c C fI fd ps fld) : ∀ (c' : Str) (C' : Addr), hitC c c' = some true → CN K c' C' → PySem.W.subIn K (.ref C') Ya5 = some true := fun c' C' h n => by
 unfold hitC at h
 split at h
 ·rename_i e
  subst e
  cases n.inj x.cn
  exact x.T.exC
 ·cases h
theorem takes_nox {X : Cx} : L2.Takes X.nox W0 := fun u s' x => by
 obtain ⟨_, _, _, _, _, _, _, _, _, _, _, _, _, _, _, _, f⟩ := x
 exact f.elim
end
/-- int(text) -/
def oIntS : OpN := fun ws hp => match ws with
 | [.t (.str a)] => (match PySem.intText? a with | some n => if a.length ≤ 640 then .ok (.t (.int n)) hp else .bad | none => .bad)
 | _ => .bad
theorem ok_intS {K : PySem.W.Frag} {ω : World} {Wx : WX} : OpNOk K ω Wx oIntS (fun xs H Q => ∃ a n, xs = [.str a] ∧ PySem.intText? a = some n ∧ a.length ≤ 640 ∧ Q (.int n) H) := by
 intro s ws xs Q R r go
 unfold oIntS at go
 split at go
 ·obtain ⟨v, e, rv⟩ := RwL.one r
  simp only [Rw, Rf] at rv
  subst rv e
  split at go
  ·rename_i n hn
   split at go
   ·rename_i hz
    exact ⟨_, n, rfl, hn, hz, go _ s rfl Ym R Yl⟩
   ·exact go.elim
  ·exact go.elim
 ·exact go.elim
end Mir
namespace Mir
open PySem PySem.Spec L2
open PyProof.Rows hiding St
end Mir
namespace Mir
open PySem PySem.Spec L2
open PyProof.Rows hiding St
end Mir
namespace Mir
open PySem PySem.Spec L2
open PyProof.Rows hiding St
end Mir
namespace Mir
open PySem PySem.Spec L2
open PyProof.Rows hiding St
section
variable {P : Program} {w : World} {A : Around} {E : Value → Shared → Prop} {s : Shared}
abbrev hK (P : Program) (w : World) (k : List Key) : Int := tupleKeyHash (mixKind P w) k
abbrev IsK (P : Program) (w : World) (h : Heap) (k : List Key) (a : Addr) : Prop := IsTupleKey (mixKind P w) h k a
/-- an int or a text: no class statement of its own, its hash asked for without a step -/
def Leaf (v : Value) : Prop := (∀ n, ofAClassStatement n v = pure false) ∧ ∃ b, ∀ n, hashByValue n v = pure b
theorem leaf_key {k : Key} {v : Value} (h : keyIs k v = true) : Leaf v := by
 rcases keyIs_shape h with ⟨i, t, _, rfl⟩ | ⟨x, t, _, rfl⟩
 ·exact ⟨fun n => by cases n <;> rfl, true, fun n => by cases n <;> rfl⟩
 ·exact ⟨fun n => by cases n <;> rfl, false, fun n => by cases n <;> rfl⟩
theorem leaves {k : List Key} {vs : List Value} (h : ItemsAre (mixKind P w) k vs) : ∀ v ∈ vs, Leaf v := by
 induction h with
 | nil => intro v hv; cases hv
 | cons h1 _ ih =>
  intro v hv
  rcases List.mem_cons.mp hv with rfl | hv
  ·exact leaf_key h1
  ·exact ih v hv
theorem plain_class {k : List Key} {b : Addr} {Q : Bool → Shared → Prop} (hk : IsK P w s.heap k b) (h : Q false s) : wpAny Ych A (ofAClassStatement 8 (.ref b)) Q E s := by
 have ty := hk.typeIs
 obtain ⟨o, its, n, g, _, dat, it⟩ := hk
 have lv := leaves it
 unfold ofAClassStatement
 refine wpAny_bind (wpAny_typeOf ty ?_)
 have e : (("tuple" : String) == "tuple") = true := by decide
 simp only [e, if_true, Bool.not_true, Bool.false_eq_true, if_false]
 show wpAny _ _ (seqItems? (.ref b) >>= _) _ _ s
 refine wpAny_bind (wpAny_seqItems g dat (wpAny_bind ?_))
 show wpAny _ _ (forIn its _ _) _ _ s
 rw [← Array.forIn_toList]
 refine wpAny_forIn_list _ (fun l r z => r.1 = none ∧ z = s ∧ ∀ v ∈ l, Leaf v) _ ?_ ?_ _ _ ⟨rfl, rfl, lv⟩
 ·rintro v l r z ⟨h1, rfl, all⟩
  rw [(all v List.mem_cons_self).1]
  refine wpAny_bind (wpAny_pure ?_)
  simp only [Bool.false_eq_true, if_false]
  exact wpAny_pure ⟨rfl, rfl, fun u hu => all u Ye9⟩
 ·rintro ⟨r1, r2⟩ z ⟨h1, rfl, _⟩
  cases h1
  exact wpAny_pure h
theorem plain_hash {k : List Key} {b : Addr} {Q : Bool → Shared → Prop} (hk : IsK P w s.heap k b) (h : ∀ b, Q b s) : wpAny Ych A (hashByValue 8 (.ref b)) Q E s := by
 have ty := hk.typeIs
 obtain ⟨o, its, n, g, _, dat, it⟩ := hk
 have lv := leaves it
 unfold hashByValue
 refine wpAny_bind (wpAny_specialOf ty F.slot_tuple_hash.lookup ?_)
 show wpAny _ _ (seqItems? (.ref b) >>= _) _ _ s
 refine wpAny_bind (wpAny_seqItems g dat (wpAny_bind ?_))
 show wpAny _ _ (forIn its _ _) _ _ s
 rw [← Array.forIn_toList]
 refine wpAny_forIn_list _ (fun l r z => r.1 = none ∧ z = s ∧ ∀ v ∈ l, Leaf v) _ ?_ ?_ _ _ ⟨rfl, rfl, lv⟩
 ·rintro v l r z ⟨h1, rfl, all⟩
  obtain ⟨c, hc⟩ := (all v List.mem_cons_self).2
  rw [hc]
  refine wpAny_bind (wpAny_pure ?_)
  cases c with
  | true =>
   simp only [Bool.not_true, Bool.false_eq_true, if_false]
   exact wpAny_pure ⟨rfl, rfl, fun u hu => all u Ye9⟩
  | false =>
   simp only [Bool.not_false, if_true]
   exact wpAny_pure (wpAny_pure (h false))
 ·rintro ⟨r1, r2⟩ z ⟨h1, rfl, _⟩
  cases h1
  exact wpAny_pure (h true)
/-- looking among such tuples shows nothing of the table -/
theorem unseen {k : List Key} {b : Addr} {Q : Bool → Shared → Prop} (hk : IsK P w s.heap k b) {ys : List Value} (hy : ∀ y ∈ ys, ∃ k' c, y = Value.ref c ∧ IsK P w s.heap k' c) (h : Q false s) :
  wpAny Ych A (searchCouldBeSeen (.ref b) ys) Q E s := by
 unfold searchCouldBeSeen
 refine wpAny_bind (wpAny_forIn_list _ (fun l r z => r.1 = none ∧ z = s ∧ ∀ y ∈ l, ∃ k' c, y = Value.ref c ∧ IsK P w s.heap k' c) _ ?_ ?_ _ _ ⟨rfl, rfl, hy⟩)
 ·rintro v l r z ⟨h1, rfl, all⟩
  obtain ⟨k', c, rfl, hc⟩ := all v List.mem_cons_self
  have all' := fun u hu => all u Ye9
  dsimp only
  by_cases q : (b == c || (carriedByValue (.ref b) && carriedByValue (.ref c))) = true
  ·exact wp_if_pos q (wpAny_pure ⟨rfl, rfl, all'⟩)
  ·refine wp_if_neg q (wpAny_bind (wpAny_eqIsQuiet_tuple hk ?_))
   simp only [Bool.not_true, Bool.false_eq_true, if_false]
   refine wpAny_bind (wpAny_eqIsQuiet_tuple hc ?_)
   simp only [Bool.not_true, Bool.false_eq_true, if_false]
   refine wpAny_bind (plain_class hk ?_)
   simp only [Bool.false_eq_true, if_false]
   refine wpAny_bind (plain_class hc ?_)
   simp only [Bool.false_eq_true, if_false]
   exact wpAny_pure ⟨rfl, rfl, all'⟩
 ·rintro ⟨r1, r2⟩ z ⟨h1, rfl, _⟩
  cases h1
  exact wpAny_pure h
/-- at a stands the set of the tuples L, with room to spare -/
structure SetM (P : Program) (w : World) (h : Heap) (a : Addr) (L : List Ycf) (es : Array Yh3) (ep : Nat) (t : SetTable) : Prop where
 ob : ∃ o, h.get? a = some o ∧ o.ExactSet ∧ o.data = .set es ep t
 rows : es.toList = L.map fun p => (hK P w p.2, Value.ref p.1)
 tab : TabOk t (L.map fun p => hK P w p.2)
 nd : (L.map (·.2)).Nodup
 tup : ∀ p ∈ L, IsK P w h p.2 p.1
 m7 : t.mask = 7
 few : L.length ≤ 4
variable {a : Addr} {L : List Ycf} {es : Array Yh3} {ep : Nat} {t : SetTable}
theorem SetM.size (R : SetM P w s.heap a L es ep t) : es.size = L.length := by
 rw [← Array.length_toList, R.rows, List.length_map]
theorem SetM.psize (R : SetM P w s.heap a L es ep t) : t.place.size = L.length := by rw [R.tab.sz, List.length_map]
theorem SetM.fits (R : SetM P w s.heap a L es ep t) : t.fits es.size = true := by
 have h1 := R.psize
 have h2 := R.size
 have h3 := R.few
 unfold SetTable.fits SetTable.fill
 rw [R.tab.dm, Bool.and_eq_true, beq_iff_eq, decide_eq_true_eq, R.m7]
 show t.place.size = es.size ∧ t.place.size + 0 ≤ 7
 omega
theorem SetM.at_ (R : SetM P w s.heap a L es ep t) {i : Nat} {p : Addr × List Key} (h : L[i]? = some p) : es[i]? = some (hK P w p.2, Value.ref p.1) := by
 rw [← Array.getElem?_toList, R.rows, List.getElem?_map, h]
 rfl
theorem nth_dummy {m : Nat} : ∀ (n : Nat) (p : SetTable.Probe), p.dummy = none → (nth m p n).dummy = none
 | 0, _, h => h
 | n + 1, p, h => by
  refine nth_dummy n (adv m p) ?_
  unfold adv
  split <;> exact h
/-- the looking for a tuple, from the c-th place of its way on -/
theorem look (R : SetM P w s.heap a L es ep t) {x : Addr} {k : List Key} (hx : IsK P w s.heap k x) (hu : A.units < cLine) {n : Nat} (hn : n < 10 * SetTable.turns t.mask)
  (free : way t.mask Y0 n ∉ t.place.toList) (full : ∀ c, c < n → way t.mask Y0 c ∈ t.place.toList) {Q : SetFound → Shared → Prop}
  (yes : k ∈ L.map (·.2) → Q (.there none) s) (no : k ∉ L.map (·.2) → Q (.free Yf3 false) s) :
  ∀ (f c : Nat) (stand : Option SetTable.Probe), stand.getD (t.probeStart Y0) = nth t.mask (runAt t.mask Yfn (SetTable.bits Y0)) c → c ≤ n → n - c < f →
   (∀ (i : Nat) p, L[i]? = some p → p.2 = k → ∃ c', c ≤ c' ∧ c' < n ∧ t.place.toList[i]? = some (way t.mask Y0 c')) →
   wpAny Ych A (setSearchFrom a (.ref x) Y0 true f stand) Q E s := by
 intro f
 induction f with
 | zero => intro c stand _ _ h; omega
 | succ f ih =>
  intro c stand st hc hf there
  obtain ⟨o, ho, _, hd⟩ := R.ob
  let W0 : SetTable.Probe := runAt t.mask Yfn (SetTable.bits Y0)
  have step : ∀ q, nth t.mask Yhj q = nth t.mask W0 (c + q) := fun q => (nth_add t.mask c _ q).symm
  have jw : ∀ q, (nth t.mask Yhj q).j = way t.mask Y0 (c + q) := fun q => congrArg SetTable.Probe.j (step q)
  have entry : ∀ (i : Nat) p, L[i]? = some p → (es[i]?.map (·.1)).getD 0 = hK P w p.2 := fun i p hp => by rw [R.at_ hp]; rfl
  have gone : ¬ t.gaveWay = true := by
   unfold SetTable.gaveWay
   rw [mask_odd R.tab.mok]
   decide
  rw [setSearchFrom_succ]
  refine wpAny_bind (wpAny_setState_of ho hd R.fits ?_)
  dsimp only
  refine wp_if_neg gone ?_
  rcases go_spec t R.tab.ris R.tab.dm (fun i => (es[i]?.map (·.1)).getD 0) (hK P w k) (10 * SetTable.turns t.mask) (n - c) (nth t.mask W0 c) (nth_dummy c _ rfl) (by omega)
   (fun q hq => by rw [jw]; exact full (c + q) Yb) (by rw [jw, show c + (n - c) = n by omega]; exact free) with ⟨q, i, hq, hi, _, before, pr⟩ | ⟨before, pr⟩
  ·have pr2 : t.probe (fun i => (es[i]?.map (·.1)).getD 0) Y0 Ygd = some (.candidate Yey i Ygi) := by
    rw [st, ← jw, ← step]
    exact pr
   rw [pr2]
   dsimp only
   rw [jw] at hi
   have li : i < L.length := by
    have := (List.getElem?_eq_some_iff.mp hi).1
    rw [Array.length_toList, R.psize] at this
    exact this
   obtain ⟨p, hp⟩ : ∃ p, L[i]? = some p := ⟨L[i], List.getElem?_eq_getElem li⟩
   have mp : p ∈ L := List.mem_of_getElem? hp
   have rest : wpAny Ych A (searchRest a (.ref x) Y0 true f es t Yey i Ygi) Q E s := by
    unfold searchRest
    rw [R.at_ hp]
    dsimp only
    refine wpAny_bind (wpAny_holding (wpAny_eqBool_tuple hu (R.tup p mp) hx ?_))
    refine wpAny_bind (wpAny_setState_of ho hd R.fits ?_)
    dsimp only
    by_cases same : p.2 = k
    ·refine wp_if_pos Yib ?_
     exact wpAny_pure (yes (List.mem_map.mpr ⟨p, mp, same⟩))
    ·have live : t.slot Yey = .live i := slot_live R.tab.ris hi
     refine wp_if_neg Yib ?_
     rw [sameMem]
     dsimp only
     simp only [if_true, live, R.at_ hp]
     refine wpAny_bind (wpAny_isSame_ref_self (wpAny_bind (wpAny_pure ?_)))
     simp only [if_true]
     refine wp_if_neg Yib ?_
     refine ih (c + (q + 1)) _ rfl Yb Yb fun i0 p0 h0 k0 => ?_
     obtain ⟨c', b1, b2, b3⟩ := there i0 p0 h0 k0
     refine ⟨c', ?_, b2, b3⟩
     rcases Nat.lt_trichotomy c' (c + q) with z | z | z
     ·exact absurd Yc4 (before (c' - c) i0 Yb Yck)
     ·exfalso
      rw [z] at b3
      have e := slot_live R.tab.ris b3
      rw [live] at e
      injection e with e
      rw [← e, hp] at h0
      exact same ((congrArg Prod.snd (Option.some.inj h0)).trans k0)
     ·omega
   by_cases led : t.led = true
   ·exact wp_if_neg (by simp [led]) rest
   ·refine wp_if_pos (by simp [led]) (wpAny_bind (unseen hx (fun y hy => ?_) ?_))
    ·obtain ⟨e, he, rfl⟩ := List.mem_map.mp hy
     have he1 : e ∈ es ∧ e.1 = hK P w k := by simpa using he
     have he2 : e ∈ es.toList := by simpa using he1.1
     rw [R.rows] at he2
     obtain ⟨p2, hp2, rfl⟩ := List.mem_map.mp he2
     exact ⟨p2.2, p2.1, rfl, R.tup p2 hp2⟩
    ·exact wp_if_neg Ybz rest
  ·have pr2 : t.probe (fun i => (es[i]?.map (·.1)).getD 0) Y0 Ygd = some (.empty Yf3 none) := by
    have e : way t.mask Y0 n = (nth t.mask Yhj (n - c)).j := by rw [jw, show c + (n - c) = n by omega]
    rw [st, e]
    exact pr
   rw [pr2]
   dsimp only
   refine wpAny_pure (no fun hm => ?_)
   obtain ⟨p0, m0, k0⟩ := List.mem_map.mp hm
   obtain ⟨i0, h0⟩ := List.mem_iff_getElem?.mp m0
   obtain ⟨c', b1, b2, b3⟩ := there i0 p0 h0 k0
   exact before (c' - c) i0 Yb Yck Yc4
end
section
variable {P : Program} {w : World} {A : Around} {E : Value → Shared → Prop} {s : Shared} {a : Addr} {L : List Ycf} {es : Array Yh3} {ep : Nat} {t : SetTable}
theorem isK_but {h h' : Heap} {k : List Key} {b : Addr} {o : Obj} (hb : IsK P w h k b) (ho : h.get? a = some o) (hd : o.data = .set es ep t) (hs : Heap.SameBut a h h') : IsK P w h' k b := by
 obtain ⟨o', its, n, g, c, d, it⟩ := hb
 have ne : b ≠ a := by
  rintro rfl
  rw [ho] at g
  cases g
  rw [hd] at d
  cases d
 exact ⟨o', its, n, (hs.2 b ne).trans g, c, d, it⟩
end
def memT (k : List Key) (l : List (List Key)) : Bool := l.any fun j => decide (j = k)
theorem memT_iff {k : List Key} {l : List (List Key)} : memT k l = true ↔ k ∈ l := by simp [memT]
def ze7 (ks : List (List Key)) : List (List Key) := ks.foldl Ybt []
theorem onceT_snoc (ks : List (List Key)) (k : List Key) : ze7 (ks ++ [k]) = if memT k (ze7 ks) = true then ze7 ks else ze7 ks ++ [k] := by
 unfold ze7
 rw [List.foldl_append]
 rfl
theorem onceT_le : ∀ (ks acc : List (List Key)), (ks.foldl Ybt acc).length ≤ acc.length + ks.length
 | [], acc => by simp
 | k :: r, acc => by
  have h := onceT_le r (if memT k acc = true then acc else acc ++ [k])
  have h2 : (if memT k acc = true then acc else acc ++ [k]).length ≤ acc.length + 1 := by split <;> simp
  simp only [List.foldl_cons, List.length_cons]
  omega
def tupsT : List T → Option (List (List Key))
 | [] => some []
 | .tup xs :: r => match keysT xs, tupsT r with
  | some k, some ks => some (k :: ks)
  | _, _ => none
 | _ => none
section
variable {X : Cx} {Wx : WX} {a : Expr} {F : M W} {p p2 q pos : Pos}
theorem tups_rf {K : PySem.W.Frag} {fz : Addr → Prop} {H : Hp} : ∀ {ts : List T} {vs : List V} {ks : List (List Key)}, tupsT ts = some ks → RfL K fz H ts vs → ∃ es : List Ycf, vs = (es.map (·.1)).map V.ref ∧ es.map (·.2) = ks ∧ ∀ e ∈ es, SqT K H e.1 (e.2.map kV)
 | [], vs, ks, h, r => by
  simp only [tupsT, Option.some.injEq] at h
  simp only [RfL] at r
  exact ⟨[], r, h, fun e he => by simp at he⟩
 | t :: ts, vs, ks, h, r => by
  unfold tupsT at h
  split at h
  ·rename_i e; cases e
  ·rename_i xs r' e
   cases e
   split at h
   ·rename_i k ks' h1 h2
    cases h
    simp only [RfL, Rf] at r
    obtain ⟨v, r', rfl, ⟨b, us, rfl, ft, l⟩, rr⟩ := r
    obtain ⟨es, e1, e2, e3⟩ := tups_rf h2 rr
    have eu := keys_rf h1 l
    subst eu
    refine ⟨(b, k) :: es, by rw [e1]; rfl, by rw [← e2]; rfl, fun e he => ?_⟩
    rcases List.mem_cons.mp he with rfl | he
    ·exact ft.sq
    ·exact e3 e he
   ·cases h
  ·cases h
end
end Mir
namespace Mir
open PySem PySem.Spec L2
open PyProof.Rows hiding St
end Mir
namespace Mir
open PySem PySem.Spec L2
open PyProof.Rows hiding St
def slL (a : W) (lo hi : Option Int) (hp : IH) : Res W := match zey hp a with
 | some ws => .ok Ydc (hp ++ [some (.lst (cutL ws lo hi))])
 | none => .bad
def mSlL (Fa : M W) (Fl Fh : MO) : M W := fun eta hp => (Fa eta hp).bind fun a h1 => (Fl eta h1).bind fun l h2 => (Fh eta h2).bind fun h h3 => slL a l h h3
end Mir
namespace Mir
open PySem PySem.Spec L2
open PyProof.Rows hiding St
end Mir
namespace Mir
open PySem PySem.Spec L2
open PyProof.Rows hiding St
end Mir
namespace Mir
open PySem PySem.Spec L2
open PyProof.Rows hiding St
/-- the lists that live -/
def LiveL (s : S4) (a : Addr) : Prop := ∃ (i : Nat) (ws : List W), getL s.hp i = some ws ∧ s.rho[i]? = some a
section
variable {K : PySem.W.Frag} {ω : World} {s s2 : S4}
theorem LiveL.live {a : Addr} (h : LiveL s a) : Live s a := by
 obtain ⟨i, ws, g, r⟩ := h
 exact ⟨i, _, ⟨zcy g, True.intro⟩, r⟩
theorem LiveL.H (R : Rel K ω s) {a : Addr} (h : LiveL s a) : ∃ vs, s.H a = some (.lst vs) := by
 obtain ⟨i, ws, g, r⟩ := h
 obtain ⟨vs, e, _⟩ := R.cell i _ a (zcy g) r
 exact ⟨vs, e⟩
theorem Live.some (R : Rel K ω s) {a : Addr} (h : Live s a) : s.H a ≠ none := by
 obtain ⟨i, c, g, r⟩ := h
 exact R.trk a (List.mem_of_getElem? r)
end
end Mir
namespace Mir
open PySem PySem.Spec L2
open PyProof.Rows hiding St
end Mir
namespace Mir
open PySem PySem.Spec L2
open PyProof.Rows hiding St
section
variable {P : Program} {w : World}
/-- the set of the texts ks at a; its table can be walked -/
def SetS (P : Program) (w : World) (h : Heap) (a : Addr) (ks : List Str) : Prop :=
 ks.Nodup ∧ ∃ D : PySem.Froz.SD, h.get? a = some (PySem.Froz.sObj "set" D) ∧ PySem.Froz.TxOk P w D ks ∧ Ris D.2.2.place.toList ∧ (w.params.followText "set-order" = true ∨ D.2.2.led = true)
theorem SetS.at {h h' : Heap} {a : Addr} {ks : List Str} (z : SetS P w h a ks) (k : ∀ o, h.get? a = some o → h'.get? a = some o) : SetS P w h' a ks := by
 obtain ⟨nd, D, g, r⟩ := z
 exact ⟨nd, D, k _ g, r⟩
variable {A : Around} {E : Value → Shared → Prop} {s : Shared}
end
end Mir
namespace Mir
open PySem PySem.Spec L2
open PyProof.Rows hiding St
end Mir
namespace Mir
open PySem PySem.Spec L2
open PyProof.Rows hiding St
end Mir
namespace Mir
open PySem PySem.Spec L2
open PyProof.Rows hiding St
abbrev bare (kvs : List Yfy) : List Yfw := kvs.map fun p => (Str.empty, p.2)
section
variable {K : PySem.W.Frag} {ω : World}
theorem RwK.bare {s : S4} : ∀ {ks : List (Key × W)} {vs : List (Key × V)}, RwK K s ks vs → RwF K s (bare ks) (vs.map fun p => (Str.empty, p.2))
 | [], _, h => by rw [show _ = [] from h]; rfl
 | x :: ks, vs, h => by
  obtain ⟨v, r, rfl, a, b⟩ := h
  exact ⟨v, _, rfl, a, RwK.bare b⟩
end
end Mir
namespace Mir
open PySem PySem.Spec L2
open PyProof.Rows hiding St
end Mir
namespace Mir
open PySem PySem.Spec L2
open PyProof.Rows hiding St
def getT (hp : IH) (i : Nat) : Option (List (T × W)) := match hp[i]? with
 | some (some (.dit kvs)) => some kvs
 | _ => none
def valT (kvs : List (T × W)) (k : NestedKey) : Option W := (kvs.find? fun kv => decide (nkT kv.1 = some k)).map (·.2)
def putT (kvs : List (T × W)) (t : T) (k : NestedKey) (w : W) : List (T × W) :=
 if (kvs.any fun kv => decide (nkT kv.1 = some k)) = true then kvs.map (fun kv => if nkT kv.1 = some k then (kv.1, w) else kv) else kvs ++ [(t, w)]
theorem getT_eq {hp : IH} {i : Nat} {ws : List (T × W)} (h : getT hp i = some ws) : hp[i]? = some (some (.dit ws)) := by
 unfold getT at h
 split at h
 ·rename_i kvs e
  simp only [Option.some.injEq] at h
  rw [e, h]
 ·cases h
/-- what the entries hold at a key -/
def valN (xs : List Yae) (k : NestedKey) : Option V := (xs.find? fun x => decide (x.1 = k)).map (·.2.2)
def putN (xs : List Yae) (k : NestedKey) (a : Addr) (v : V) : List Yae :=
 if (xs.find? fun x => decide (x.1 = k)).isSome = true then xs.map (fun x => if x.1 = k then (x.1, x.2.1, v) else x) else xs ++ [(k, a, v)]
section
variable {K : PySem.W.Frag} {ω : World} {s : S4}
theorem RwD.length : ∀ {ws : List (T × W)} {vs : List (NestedKey × Addr × V)}, RwD K s ws vs → ws.length = vs.length
 | [], _, r => by rw [show _ = [] from r]; rfl
 | x :: ws, _, r => by
  obtain ⟨k, b, v, r', rfl, _, _, _, _, h⟩ := r
  simp [RwD.length h]
theorem RwD.val (k : NestedKey) : ∀ {ws : List (T × W)} {vs : List (NestedKey × Addr × V)} {w : W}, RwD K s ws vs → valT ws k = some w → ∃ v, valN vs k = some v ∧ Rw K s w v
 | [], _, _, _, h => by simp [valT] at h
 | x :: ws, _, w, r, h => by
  obtain ⟨k', b, v, r', rfl, h1, h2, h3, h4, h5⟩ := r
  by_cases q : k' = k
  ·subst q
   have : x.2 = w := by simpa [valT, List.find?_cons, h1] using h
   exact ⟨v, by simp [valN, List.find?_cons], this ▸ h4⟩
  ·have h' : valT ws k = some w := by simpa [valT, List.find?_cons, h1, q] using h
   obtain ⟨u, e1, e2⟩ := RwD.val k h5 h'
   exact ⟨u, by simpa [valN, List.find?_cons, q] using e1, e2⟩
theorem RwD.no (k : NestedKey) : ∀ {ws : List (T × W)} {vs : List (NestedKey × Addr × V)}, RwD K s ws vs → valT ws k = none → valN vs k = none
 | [], _, r, _ => by rw [show _ = [] from r]; rfl
 | x :: ws, _, r, h => by
  obtain ⟨k', b, v, r', rfl, h1, h2, h3, h4, h5⟩ := r
  by_cases q : k' = k
  ·subst q
   simp [valT, List.find?_cons, h1] at h
  ·have h' : valT ws k = none := by simpa [valT, List.find?_cons, h1, q] using h
   have := RwD.no k h5 h'
   simpa [valN, List.find?_cons, q] using this
theorem RwD.any (k : NestedKey) : ∀ {ws : List (T × W)} {vs : List (NestedKey × Addr × V)}, RwD K s ws vs → (ws.any fun kv => decide (nkT kv.1 = some k)) = (vs.find? fun x => decide (x.1 = k)).isSome
 | [], _, r => by rw [show _ = [] from r]; rfl
 | x :: ws, _, r => by
  obtain ⟨k', b, v, r', rfl, h1, h2, h3, h4, h5⟩ := r
  by_cases q : k' = k
  ·subst q
   simp [h1, List.find?_cons]
  ·simp [h1, List.find?_cons, q, RwD.any k h5]
theorem RwD.mapPut (k : NestedKey) {w : W} {v : V} (rw_ : Rw K s w v) : ∀ {ws : List (T × W)} {vs : List (NestedKey × Addr × V)}, RwD K s ws vs → RwD K s (ws.map fun kv => if nkT kv.1 = some k then (kv.1, w) else kv) (vs.map fun x => if x.1 = k then (x.1, x.2.1, v) else x)
 | [], _, r => by rw [show _ = [] from r]; rfl
 | x :: ws, _, r => by
  obtain ⟨k', b, u, r', rfl, h1, h2, h3, h4, h5⟩ := r
  have ih := RwD.mapPut k rw_ h5
  simp only [List.map_cons, h1, Option.some.injEq]
  by_cases q : k' = k
  ·rw [if_pos q, if_pos q]
   exact ⟨k', b, v, _, rfl, h1, h2, h3, rw_, ih⟩
  ·rw [if_neg q, if_neg q]
   exact ⟨k', b, u, _, rfl, h1, h2, h3, h4, ih⟩
theorem RwD.snoc {t : T} {k : NestedKey} {b : Addr} {w : W} {v : V} (h1 : nkT t = some k) (h2 : k.depth ≤ 8) (h3 : Rf K s.fz s.H t (.ref b)) (h4 : Rw K s w v) : ∀ {ws : List (T × W)} {vs : List (NestedKey × Addr × V)}, RwD K s ws vs → RwD K s (ws ++ [(t, w)]) (vs ++ [(k, b, v)])
 | [], _, r => by
  rw [show _ = [] from r]
  exact ⟨k, b, v, [], rfl, h1, h2, h3, h4, rfl⟩
 | x :: ws, _, r => by
  obtain ⟨k', b', u, r', rfl, g1, g2, g3, g4, g5⟩ := r
  exact ⟨k', b', u, _, rfl, g1, g2, g3, g4, RwD.snoc h1 h2 h3 h4 g5⟩
theorem RwD.put {t : T} {k : NestedKey} {b : Addr} {w : W} {v : V} (h1 : nkT t = some k) (h2 : k.depth ≤ 8) (h3 : Rf K s.fz s.H t (.ref b)) (h4 : Rw K s w v) {ws : List (T × W)} {vs : List Yae} (r : RwD K s ws vs) : RwD K s (putT ws t k w) (putN vs k b v) := by
 unfold putT putN
 rw [r.any k]
 split
 ·exact r.mapPut k h4
 ·exact r.snoc h1 h2 h3 h4
/-- where a live dict lies -/
theorem Rel.dit (R : Rel K ω s) {i : Nat} {v : V} {ws : List (T × W)} (g : getT s.hp i = some ws) (r : Rw K s (.r i) v) : ∃ a xs, v = .ref a ∧ s.rho[i]? = some a ∧ s.H a = some (DitO ω a xs) ∧ RwD K s ws xs ∧ ¬ s.fz a := by
 obtain ⟨a, e1, e2⟩ := r
 obtain ⟨xs, h1, h2⟩ := R.cell i _ a (getT_eq g) e1
 exact ⟨a, xs, e2, e1, h1, h2, R.fz a ⟨i, _, ⟨getT_eq g, True.intro⟩, e1⟩⟩
end
abbrev RelN : List Yae → List Ybr → Prop := Paired fun (p : NestedKey × Addr × V) (q : NestedKey × Addr × Value) => p.1 = q.1 ∧ p.2.1 = q.2.1 ∧ RelV p.2.2 q.2.2
theorem RelN.len {xs : List Yae} {ys : List Ybr} (r : RelN xs ys) : xs.length = ys.length := Paired.length r
theorem RelN.val (k : NestedKey) {xs : List Yae} {ys : List Ybr} (r : RelN xs ys) : RelO (valN xs k) ((atKey ys k).map (·.2)) := by
 induction r with
 | nil => exact True.intro
 | @cons p q ps qs h t ih =>
  obtain ⟨h1, h2, h3⟩ := h
  by_cases e : q.1 = k
  ·have e' : p.1 = k := h1.trans e
   simp only [valN, atKey, List.find?_cons, e, e', decide_true, Option.map_some]
   exact h3
  ·have e' : ¬ p.1 = k := fun z => e (h1 ▸ z)
   simp only [valN, atKey, List.find?_cons, e, e', decide_false]
   exact ih
theorem RelN.mapPut (k : NestedKey) {v : V} {u : Value} (rv : RelV v u) {xs : List Yae} {ys : List Ybr} (r : RelN xs ys) : RelN (xs.map fun x => if x.1 = k then (x.1, x.2.1, v) else x) (ys.map (putAt k u)) := by
 induction r with
 | nil => exact .nil
 | @cons p q ps qs h t ih =>
  obtain ⟨h1, h2, h3⟩ := h
  simp only [List.map_cons]
  refine .cons ?_ ih
  unfold putAt
  by_cases e : q.1 = k
  ·rw [if_pos e, if_pos (h1.trans e)]
   exact ⟨h1, h2, rv⟩
  ·rw [if_neg e, if_neg (fun z => e (h1 ▸ z))]
   exact ⟨h1, h2, h3⟩
theorem RelN.snoc {k : NestedKey} {a : Addr} {v : V} {u : Value} (rv : RelV v u) {xs : List Yae} {ys : List Ybr} (r : RelN xs ys) : RelN (xs ++ [(k, a, v)]) (ys ++ [(k, a, u)]) := by
 induction r with
 | nil => exact .cons ⟨rfl, rfl, rv⟩ .nil
 | cons h t ih => exact .cons h ih
theorem RelN.some (k : NestedKey) {xs : List Yae} {ys : List Ybr} (r : RelN xs ys) : (xs.find? fun x => decide (x.1 = k)).isSome = (atKey ys k).isSome := by
 induction r with
 | nil => rfl
 | @cons p q ps qs h t ih =>
  by_cases e : q.1 = k
  ·have e' : p.1 = k := h.1.trans e
   simp [atKey, List.find?_cons, e, e']
  ·have e' : ¬ p.1 = k := fun z => e (h.1 ▸ z)
   simp only [atKey, List.find?_cons, e, e', decide_false] at ih ⊢
   exact ih
theorem RelN.put {k : NestedKey} {a : Addr} {v : V} {u : Value} (rv : RelV v u) {xs : List Yae} {ys : List Ybr} (r : RelN xs ys) : RelN (putN xs k a v) (storedH ys k a u) := by
 unfold putN storedH
 rw [r.some k]
 split
 ·exact r.mapPut k rv
 ·exact r.snoc rv
end Mir
namespace Mir
open PySem PySem.Spec L2
open PyProof.Rows hiding St
section
variable {K : PySem.W.Frag} {ω : World} {s : S4}
theorem RwD.isSome (k : NestedKey) {ws : List (T × W)} {vs : List Yae} (r : RwD K s ws vs) : (valN vs k).isSome = (valT ws k).isSome := by
 cases h : valT ws k with
 | none => rw [r.no k h]; rfl
 | some w => obtain ⟨v, e, _⟩ := r.val k h; rw [e]; rfl
end
end Mir
namespace Mir
open PySem PySem.Spec L2
open PyProof.Rows hiding St
end Mir
namespace Mir
open PySem PySem.Spec L2
open PyProof.Rows hiding St
section
variable {X : Cx} {k : Nat} {f C : Addr} {fd : FuncData} {ps : List Str} {sp : Sp} {E : XK}
theorem str_ins {CX : CXT} {pins : List Yc5} {σ : L2.St} {H : Hp} {s : Shared} {a dx : Addr} {fs : List Yfi} {Q : VK} (I : Inv X pins σ H s) (ea : H a = some (.ins C dx fs)) (hm : Meth X.K C "__str__" f)
  (F : FnG X.prog X.w X.K X.mg X.base CX k f fd ps sp) (hr : Room (k + 2) X.A) (hgd : X.A.guards = some []) (hb : Binds X.K fd ps []) (hx : Passes CX X.nox E)
  (h : sp [.ref a] H (fun z H' => ∃ t : Str, z = .str t ∧ Q z H') E) {E' : Value → Shared → Prop} : wpAny Yo X.A (call (.type "str") [.ref a]) (EP X pins σ Q) E' s := by
 obtain ⟨mA, O, _, _, _, _⟩ := ins_get I.hok ea
 obtain ⟨od, J, _⟩ := O.look
 have el : ([Value.ref a] ++ []).length = ps.length := F.len _ _ _ _ h
 refine PySem.W.kso_call (K := X.K) (by have := hr.units; show X.A.units + 1 + 1 < cLine; omega) I.kIn J hm.at_ hm.fn ?_
 refine wpAny_call (codeAny_mono (F.run X.A.in1.in1 X.stack s H ⟨[.ref a], []⟩ [.ref a] [.ref a] _ E hr.in1.in1 hgd I.env0.in1.in1 (hb s [.ref a] I.kIn el) (.cons rfl .nil) h) ?_)
 rintro (er | fl) s' q
 ·exact (hx pins σ H s er s' (I.wish _) q).elim
 ·cases fl with
  | ret u =>
   obtain ⟨v, H', I3, rv, t, ev, q3⟩ := I.after q
   subst ev
   obtain ⟨tk, e⟩ := (show ∃ tk, u = Value.str t tk from rv)
   cases e
   exact ⟨V.str t, H', I3, ⟨_, rfl⟩, q3⟩
  | next => exact (show False from q).elim
  | brk => exact (show False from q).elim
  | cont => exact (show False from q).elim
end
/-- str(o): an alternative for each class -/
structure StrAlt (X : Cx) (c : Str) (m : OpN) : Prop where
 ex : ∃ (C f : Addr) (fd : FuncData) (ps : List Str) (k n : Nat), CN X.K c C ∧ Meth X.K C "__str__" f ∧ FnG X.prog X.w X.K X.mg X.base Ydf k f fd ps Yf0 ∧ Room (k + 2) X.A ∧ Binds X.K fd ps [] ∧ ∀ ws hp, ws.length ≠ n → m ws hp = .bad
theorem StrAlt.mk' {X : Cx} {c : Str} {m : OpN} {C f : Addr} {fd : FuncData} {ps : List Str} {k n : Nat} (cn : CN X.K c C) (hm : Meth X.K C "__str__" f) (F : FnG X.prog X.w X.K X.mg X.base Ydf k f fd ps Yf0) (hr : Room (k + 2) X.A) (hb : Binds X.K fd ps []) (hl : ∀ ws hp, ws.length ≠ n → m ws hp = .bad) : StrAlt X c m :=
 ⟨C, f, fd, ps, k, n, cn, hm, F, hr, hb, hl⟩
def AltsOk (X : Cx) : List Yiu → Prop
 | [] => True
 | p :: r => StrAlt X p.1 p.2 ∧ AltsOk X r
def oStrO (alts : List Yiu) : OpN := fun ws hp => match ws with
 | [o] => (match insOf hp o with
  | some (c, _) => (match alts.find? fun p => decide (p.1 = c) with
   | some p => (noEr (p.2 [o] hp)).bind fun w h2 => (match w with | .t (.str t) => .ok (.t (.str t)) h2 | _ => .bad)
   | none => .bad)
  | none => .bad)
 | _ => .bad
theorem AltsOk.get {X : Cx} : ∀ {alts : List (Str × OpN)} {p : Str × OpN}, AltsOk X alts → p ∈ alts → StrAlt X p.1 p.2
 | [], _, _, h => nomatch h
 | q :: r, p, ok, h => by
  rcases List.mem_cons.mp h with rfl | h
  ·exact ok.1
  ·exact AltsOk.get ok.2 h
def rStrO (X : Cx) (alts : List Yiu) : List V → Hp → VK → Prop := fun vs H Q => ∃ (a C dx : Addr) (fs : List Yfi) (p : Str × OpN) (n : Nat), vs = [.ref a] ∧ H a = some (.ins C dx fs) ∧ CN X.K p.1 C ∧ p ∈ alts ∧
 ∀ n, (∀ ws hp, ws.length ≠ n → p.2 ws hp = .bad) → spM X.K X.w p.2 n [.ref a] H (fun z H' => ∃ t : Str, z = .str t ∧ Q z H') E0
theorem cr_strO {X : Cx} {alts : List Yiu} (ok : AltsOk X alts) (hgd : X.A.guards = some []) : CallR X (.type "str") (rStrO X alts) := by
 intro pins s σ H xs us Q I r h
 obtain ⟨a, C, dx, fs, p, _, rfl, ea, cn, hp, hs⟩ := h
 rw [Vals.ref1 r]
 obtain ⟨C', f, fd, ps, k, n, cn', hm, F, hr, hb, hl⟩ := (ok.get hp).ex
 cases cn.inj cn'
 exact str_ins I ea hm F hr hgd hb (passL (X := X.nox)) (hs n hl)
theorem ok_strO {X : Cx} {Wx : WX} {alts : List Yiu} : OpNOk X.K X.w Wx (oStrO alts) (rStrO X alts) := by
 intro s ws xs Q R r go
 unfold oStrO at go
 split at go
 ·rename_i o
  split at go
  ·rename_i c fs hi
   split at go
   ·rename_i p hf
    obtain ⟨v, rfl, rx⟩ := RwL.one r
    obtain ⟨a, C, dx, vs, rfl, hH, cn, l⟩ := ins_at R hi rx
    have e : p.1 = c := by simpa using List.find?_some hf
    refine ⟨a, C, dx, vs, p, 0, rfl, hH, e ▸ cn, List.mem_of_find?_eq_some hf, fun n hl => ?_⟩
    refine ⟨s, [o], rfl, R, ⟨.ref a, [], rfl, rx, rfl⟩, ?_, ?_⟩
    ·by_cases q : [o].length = n
     ·exact q
     ·rw [hl _ _ q] at go; exact go.elim
    ·cases hq : p.2 [o] s.hp with
     | ok b h =>
      rw [hq] at go
      intro v' s' e1 e2 e3 e4
      simp only [noEr, Res.bind] at go
      split at go
      ·rename_i t
       have ev : v' = .str t := by simpa only [Rw, Rf] using e4
       exact ⟨t, ev, go v' s' e1 e2 e3 e4⟩
      ·exact go.elim
     | er _ _ _ => rw [hq] at go; exact go.elim
     | bad => rw [hq] at go; exact go.elim
   ·exact go.elim
  ·exact go.elim
 ·exact go.elim
end Mir
namespace Mir
open PySem PySem.Spec L2
open PyProof.Rows hiding St
end Mir
namespace Mir
open PySem PySem.Spec L2
open PyProof.Rows hiding St
end Mir
namespace Mir
open PySem PySem.Spec L2
open PyProof.Rows hiding St
end Mir
namespace Mir
open PySem PySem.Spec L2
open PyProof.Rows hiding St
end Mir
namespace Mir
open PySem PySem.Spec L2
open PyProof.Rows hiding St
end Mir
namespace Mir
open PySem PySem.Spec L2
open PyProof.Rows hiding St
/-- o == p: an alternative for each class -/
structure EqAlt (X : Cx) (c : Str) (m : OpN) : Prop where
 ex : ∃ (C f : Addr) (fd : FuncData) (ps : List Str) (k n : Nat), CN X.K c C ∧ Meth X.K C "__eq__" f ∧ FnG X.prog X.w X.K X.mg X.base Ydf k f fd ps Yf0 ∧ Room (k + 2) X.A ∧ Binds X.K fd ps [] ∧ (∀ ws hp, ws.length ≠ n → m ws hp = .bad) ∧
  PySem.W.findIn X.K (.ref C) "__ne__" = some (some (.builtin "object.__ne__")) ∧ PySem.W.mroIn X.K C Yia = some true
theorem EqAlt.mk' {X : Cx} {c : Str} {m : OpN} {C f : Addr} {fd : FuncData} {ps : List Str} {k n : Nat} (cn : CN X.K c C) (hm : Meth X.K C "__eq__" f) (F : FnG X.prog X.w X.K X.mg X.base Ydf k f fd ps Yf0) (hr : Room (k + 2) X.A) (hb : Binds X.K fd ps []) (hl : ∀ ws hp, ws.length ≠ n → m ws hp = .bad)
  (hne : PySem.W.findIn X.K (.ref C) "__ne__" = some (some (.builtin "object.__ne__"))) (ho : PySem.W.mroIn X.K C Yia = some true) : EqAlt X c m :=
 ⟨C, f, fd, ps, k, n, cn, hm, F, hr, hb, hl, hne, ho⟩
def EqAlts (X : Cx) : List Yiu → Prop
 | [] => True
 | p :: r => EqAlt X p.1 p.2 ∧ EqAlts X r
theorem EqAlts.get {X : Cx} : ∀ {alts : List (Str × OpN)} {p : Str × OpN}, EqAlts X alts → p ∈ alts → EqAlt X p.1 p.2
 | [], _, _, h => nomatch h
 | q :: r, p, ok, h => by
  rcases List.mem_cons.mp h with rfl | h
  ·exact ok.1
  ·exact EqAlts.get ok.2 h
end Mir
namespace Mir
open PySem PySem.Spec L2
open PyProof.Rows hiding St
end Mir
namespace Mir
open PySem PySem.Spec L2
open PyProof.Rows hiding St
end Mir
namespace Mir
open PySem PySem.Spec L2
open PyProof.Rows hiding St
/-- o == p and o in (..): an alternative for each class -/
structure InAlt (X : Cx) (c : Str) (m : OpN) : Prop where
 ex : ∃ (C f : Addr) (fd : FuncData) (ps : List Str) (k n : Nat), CN X.K c C ∧ Meth X.K C "__eq__" f ∧ FnG X.prog X.w X.K X.mg X.base Ydf k f fd ps Yf0 ∧ Room (k + 4) X.A ∧ Binds X.K fd ps [] ∧ (∀ ws hp, ws.length ≠ n → m ws hp = .bad) ∧
  PySem.W.subIn X.K (.ref C) (.type "str") = some false ∧ PySem.W.subIn X.K (.ref C) (.type "tuple") = some false ∧ PySem.W.subIn X.K (.ref C) (.type "NoneType") = some false
theorem InAlt.mk' {X : Cx} {c : Str} {m : OpN} {C f : Addr} {fd : FuncData} {ps : List Str} {k n : Nat} (cn : CN X.K c C) (hm : Meth X.K C "__eq__" f) (F : FnG X.prog X.w X.K X.mg X.base Ydf k f fd ps Yf0) (hr : Room (k + 4) X.A) (hb : Binds X.K fd ps []) (hl : ∀ ws hp, ws.length ≠ n → m ws hp = .bad)
  (h1 : PySem.W.subIn X.K (.ref C) (.type "str") = some false) (h2 : PySem.W.subIn X.K (.ref C) (.type "tuple") = some false) (h3 : PySem.W.subIn X.K (.ref C) (.type "NoneType") = some false) : InAlt X c m :=
 ⟨C, f, fd, ps, k, n, cn, hm, F, hr, hb, hl, h1, h2, h3⟩
def InAlts (X : Cx) : List Yiu → Prop
 | [] => True
 | p :: r => InAlt X p.1 p.2 ∧ InAlts X r
theorem InAlts.get {X : Cx} : ∀ {alts : List (Str × OpN)} {p : Str × OpN}, InAlts X alts → p ∈ alts → InAlt X p.1 p.2
 | [], _, _, h => nomatch h
 | q :: r, p, ok, h => by
  rcases List.mem_cons.mp h with rfl | h
  ·exact ok.1
  ·exact InAlts.get ok.2 h
end Mir
namespace Mir
open PySem PySem.Spec L2
end Mir
namespace Mir
open PySem PySem.Spec L2
open PyProof.Rows hiding St
end Mir
namespace Mir
open PySem PySem.Spec L2
open PyProof.Rows hiding St
end Mir
namespace Mir
open PySem PySem.Spec L2
open PyProof.Rows hiding St
def getTl (hp : IH) (i : Nat) : Option (List (T × W)) := match hp[i]? with
 | some (some (.dil kvs)) => some kvs
 | _ => none
theorem getTl_eq {hp : IH} {i : Nat} {ws : List (T × W)} (h : getTl hp i = some ws) : hp[i]? = some (some (.dil ws)) := by
 unfold getTl at h
 split at h
 ·rename_i kvs e
  simp only [Option.some.injEq] at h
  rw [e, h]
 ·cases h
theorem Rel.dil {K : PySem.W.Frag} {ω : World} {s : S4} (R : Rel K ω s) {i : Nat} {v : V} {ws : List (T × W)} (g : getTl s.hp i = some ws) (r : Rw K s (.r i) v) : ∃ a ob xs, v = .ref a ∧ s.rho[i]? = some a ∧ s.H a = some (.frz ob (DitO ω a xs)) ∧ RwD K s ws xs ∧ ¬ Live s a := by
 obtain ⟨a, e1, e2⟩ := r
 obtain ⟨ob, xs, h1, h2⟩ := R.cell i _ a (getTl_eq g) e1
 refine ⟨a, ob, xs, e2, e1, h1, h2, ?_⟩
 rintro ⟨j, c, ⟨q1, q2⟩, q3⟩
 have : i = j := (List.getElem?_inj (List.getElem?_eq_some_iff.mp e1).1 R.nd).mp (e1.trans q3.symm)
 subst this
 rw [getTl_eq g] at q1
 cases q1
 exact q2
end Mir
namespace Mir
open PySem PySem.Spec L2
open PyProof.Rows hiding St
end Mir
namespace Mir
open PySem PySem.Spec L2
open PyProof.Rows hiding St
/-- the pairs laid so far -/
structure ZLaid (Rel : Nat → Value → Value → Prop) (lo : Nat) (h : Heap) (as : List Addr) : Prop where
 rise : as.Pairwise (· < ·)
 above : ∀ a ∈ as, lo ≤ a
 pairs : ∀ (j : Nat) (a : Addr), as[j]? = some a → ∃ x y, Rel j x y ∧ IsTupOf2 h a x y
theorem ZLaid.there {Rel : Nat → Value → Value → Prop} {lo : Nat} {h : Heap} {as : List Addr} (g : ZLaid Rel lo h as) {a : Addr} (ha : a ∈ as) : a < h.objs.size := by
 obtain ⟨j, hj⟩ := List.mem_iff_getElem?.mp ha
 obtain ⟨_, _, _, e⟩ := g.pairs j a hj
 exact Heap.lt_size e
end Mir
namespace Mir
open PySem PySem.Spec L2
open PyProof.Rows hiding St
/-- what a suite asks of the class of its exception -/
structure XcF (K : PySem.W.Frag) (C : Addr) : Prop where
 ga : PySem.W.findIn K (.ref C) "__getattribute__" = some (some (.builtin "BaseException.__getattribute__"))
 gg : PySem.W.findIn K (.ref C) "__getattr__" = some none
 exC : PySem.W.subIn K (.ref C) Ya5 = some true
 hd : PySem.W.hasDictIn K C = true
 ha : PySem.W.findIn K (.ref C) "__class__" = some (some Yar)
 hn : PySem.W.specialIn K Yar "__get__" = some Yf2
 ht : PySem.W.takesIn K Yar = some true
 hm : PySem.W.mroIn K C Yia = some true
theorem XcF.xf {K : PySem.W.Frag} {C : Addr} (x : XcF K C) : L2.XfC K C := ⟨x.ga, x.gg, x.exC, x.hd⟩
theorem XcF.cl {K : PySem.W.Frag} {C : Addr} (x : XcF K C) : (PySem.W.clsIn K C).isSome = true := by
 obtain ⟨cd, hc, _⟩ := PySem.W.any_some x.hd
 rw [hc]; rfl
/-- a reading in a suite: slot i holds the exception, of class c -/
def tXM {A B : Type} (K : PySem.W.Frag) (ω : World) (Fam : S4 → A → B → Prop) (a : Addr) (cls : Value) (d : Option Addr) (i : Nat) (c : Str) (F : Ex → M A) : L2.St → Hp → (B → Hp → Prop) → Prop := fun σ H Q =>
 σ[i]? = some Ycu ∧ ∃ (ex : Ex) (s : S4) (eta : IS), s.H = H ∧ Rel K ω s ∧ Sl K s eta σ ∧ ex.cls = c ∧ ExR K s ex cls d ∧ Go K ω W0 Fam s (F ex eta s.hp) Q
theorem ExR.aft {K : PySem.W.Frag} {ω : World} {s s' : S4} {e : Ex} {cls : Value} {d : Option Addr} (h : ExR K s e cls d) (A : Aft s s') (R : Rel K ω s) (nl : ∀ x, d = some x → ¬ Live s x) : ExR K s' e cls d := by
 obtain ⟨C, e1, cn, h⟩ := h
 refine ⟨C, e1, cn, ?_⟩
 rcases h with h | ⟨dd, vs, e2, e3, r⟩
 ·exact .inl h
 ·exact .inr ⟨dd, vs, e2, A.keep dd _ e3 (nl dd e2), RwF.aft A R _ _ r⟩
theorem ExR.nl {K : PySem.W.Frag} {ω : World} {s : S4} {e : Ex} {cls : Value} {d : Option Addr} (h : ExR K s e cls d) (R : Rel K ω s) : ∀ x, d = some x → ¬ Live s x := fun x ex l => by
 obtain ⟨C, _, _, h⟩ := h
 rcases h with ⟨_, h⟩ | ⟨dd, vs, e2, e3, _⟩
 ·rw [h] at ex; cases ex
 ·obtain rfl : dd = x := by rw [e2] at ex; exact Option.some.inj ex
  obtain ⟨i, c, ⟨hc, _⟩, hr⟩ := l
  have := R.cell i c dd hc hr
  rw [e3] at this
  cases c with
  | lst ws => obtain ⟨vs, e, _⟩ := this; cases e
  | dic kvs => obtain ⟨vs, e, _⟩ := this; cases e
  | ins c fs => obtain ⟨C, dx, vs, e, _⟩ := this; cases e
  | dit kvs => obtain ⟨vs, e, _⟩ := this; unfold DitO at e; cases e
  | tpl ws => obtain ⟨ob, vs, e, _⟩ := this; cases e
  | dil kvs => obtain ⟨ob, vs, e, _⟩ := this; cases e
section
variable {X : Cx} {a : Addr} {oe : Obj} {cls : Value} {d : Option Addr} {pn : List Yc5} {i : Nat} {c : Str}
theorem tXM.bind1 {A B C D : Type} {K : PySem.W.Frag} {ω : World} {Fam : S4 → A → B → Prop} {Gam : S4 → C → D → Prop} {Fa : Ex → M A} {k : Ex → A → IS → IH → Res C} {σ : L2.St} {H : Hp} {Q : D → Hp → Prop} {R : B → Hp → Prop}
  (h : tXM K ω Gam a cls d i c (fun ex eta hp => (Fa ex eta hp).bind fun a h1 => k ex a eta h1) σ H Q)
  (n : ∀ (ex : Ex) (s : S4) (eta : IS) (x : A) (b : B), Rel K ω s → Sl K s eta σ → ex.cls = c → ExR K s ex cls d → Fam s x b → Go K ω W0 Gam s (k ex x eta s.hp) Q → R b s.H) : tXM K ω Fam a cls d i c Fa σ H R := by
 obtain ⟨e0, ex, s, eta, e1, R1, S1, ec, er, g⟩ := h
 refine ⟨e0, ex, s, eta, e1, R1, S1, ec, er, Go.bind g fun x b s' A' R' f _ g' => n ex s' eta x b R' (S1.aft A' R1) ec (er.aft A' R1 (er.nl R1)) f g'⟩
theorem tXM.of {A B : Type} {K : PySem.W.Frag} {ω : World} {Fam : S4 → A → B → Prop} {F : M A} {σ : L2.St} {H : Hp} {Q : B → Hp → Prop} (h : tXM K ω Fam a cls d i c (fun _ => F) σ H Q) : tM K ω W0 Fam F σ H Q := by
 obtain ⟨e0, ex, s, eta, e1, R1, S1, ec, er, g⟩ := h
 exact ⟨s, eta, e1, R1, S1, g⟩
def XE (X : Cx) (a : Addr) (oe : Obj) (cls : Value) (d : Option Addr) (pn : List Yc5) (i : Nat) (c : Str) (e : Expr) (F : Ex → M W) : Prop := PE Yfa e (tXM X.K X.w (Rw X.K) a cls d i c F)
def XT (X : Cx) (a : Addr) (oe : Obj) (cls : Value) (d : Option Addr) (pn : List Yc5) (i : Nat) (c : Str) (e : Expr) (F : Ex → M Bool) : Prop := PT Yfa e (tXM X.K X.w Ygj a cls d i c F)
def XW (X : Cx) (a : Addr) (oe : Obj) (cls : Value) (d : Option Addr) (pn : List Yc5) (i : Nat) (c : Str) (e : Expr) (F : Ex → M Bool) : Prop := PW Yfa e (tXM X.K X.w Ygj a cls d i c F)
def XSs (X : Cx) (a : Addr) (oe : Obj) (cls : Value) (d : Option Addr) (pn : List Yc5) (i : Nat) (c : Str) (st : List Stmt) (F : Ex → M Fl) : Prop := PSs Yfa st (fun D σ H => tXM X.K X.w (RFl X.K) a cls d i c F σ H (endQ D))
variable {e e2 e3 : Expr} {es : List Expr} {F G L : Ex → M W} {Fs : Ex → M (List W)} {U V' : Ex → M Bool} {pos p p2 : Pos} {n : Str}
theorem xe_of {F : M W} (h : IE Yfa W0 e F) : XE X a oe cls d pn i c e (fun _ => F) := PE.imp h fun σ H Q h => h.of
/-- e.f -/
def mXF (f : Str) : Ex → M W := fun ex _ hp => match ex.fs.lookup f with
 | some w => .ok w hp
 | none => .bad
theorem xe_fld {C : Addr} {f : Str} (cn : CN X.K c C) (x : XcF X.K C) (hno : PySem.W.findIn X.K (.ref C) f = some none) (hz : Zc cls d oe) (hf : ∃ vs, oe.data = .fields vs)
  (hN : X.N[i]? = some n := by rfl) (hv : Vis X.env.scope n := by first | exact Or.inl rfl | exact Or.inr (Or.inl rfl) | exact Or.inr (Or.inr rfl)) (hd : (n == ("__debug__" : Str)) = false := by decide) (hcd : (n == ("__classdict__" : Str)) = false := by decide)
  (hb : attributeBase (.Name n p) f X.env (eval (.Name n p) X.env) = eval (.Name n p) X.env := by rfl) : XE X a oe cls d pn i c (.Attribute (.Name n p) f pos) (mXF f) :=
 PE.imp (pe_xf (C := C) (d := d) x.xf hno hz hf (pe_var (X := X.suite a Ya6) (i := i) hN hv hd hcd) hb) fun σ H Q h => by
  obtain ⟨e0, ex, s, eta, e1, R1, S1, ec, er, g⟩ := h
  subst e1
  obtain ⟨C', eC, cn', er⟩ := er
  rw [ec] at cn'
  cases cn'.inj cn
  unfold mXF at g
  split at g
  ·rename_i w hw
   rcases er with ⟨z, _⟩ | ⟨dd, vs, ed, eH, rf⟩
   ·rw [z] at hw; simp at hw
   obtain ⟨v, h1, h2⟩ := (RwF.look f rf).1 w hw
   exact ⟨.ref a, e0, rfl, eC, dd, vs, v, ed, eH, h1, g v s rfl Ym R1 h2⟩
  ·exact g.elim
def rIsX (K : PySem.W.Frag) (a C : Addr) (d : Option Addr) : List V → Hp → VK → Prop := fun xs H Q => ∃ (c : V) (cv : Value) (b : Bool), xs = [.ref a, c] ∧ (∀ u, RelV c u → u = cv) ∧ PySem.W.kitOne K (.ref C) cv = some b ∧ (d = none ∨ ∃ dd fs, d = some dd ∧ H dd = some (.xd fs)) ∧ Q (.bl b) H
theorem call_isX {C : Addr} (x : XcF X.K C) (hz : Zc (.ref C) d oe) (hf : ∃ vs, oe.data = .fields vs) : CallR Yfa (.builtin "isinstance") (rIsX X.K a C d) := by
 intro pins s σ H xs us Q I r h
 obtain ⟨c, cv, b, rfl, hcv, e, hd, q⟩ := h
 cases r with
 | cons rx rr =>
  cases rr with
  | cons rt rr =>
   cases rr
   cases rx
   have ec := hcv _ rt
   subst ec
   obtain ⟨hget, _⟩ := I.pin (a, oe) (List.mem_append.mpr (.inl List.mem_cons_self))
   obtain ⟨vs, hv⟩ := hf
   have J : ∃ od, PySem.W.InstAt s.heap a oe C od := by
    rcases hd with hd | ⟨dd, fs, ed, eH⟩
    ·subst hd
     refine ⟨none, ?_⟩
     obtain ⟨oc, od, oda, osl⟩ := oe
     obtain ⟨h1, h2⟩ := hz
     dsimp only at h1 h2 hv
     subst h1 h2 hv
     exact ⟨hget, rfl, rfl, trivial⟩
    ·subst ed
     have hx : ObjOk X.prog X.w H s.heap dd (.xd fs) := I.hok dd _ eH
     obtain ⟨mA, hns, hr⟩ := hx
     obtain ⟨od, ho, hl⟩ := lookIn_ns hns
     exact ⟨some od, hget, hz.1, by unfold PySem.W.notCls; rw [hv] <;> rfl, by rw [hz.2]; exact ho⟩
   obtain ⟨od, J⟩ := J
   exact PySem.W.kia_one (PySem.W.kitx_exc x.cl x.ga x.gg x.exC x.ha x.hn x.ht x.hm) I.kIn J e (fun z => nomatch z) fun tk => ⟨.bl b, H, I.kept (t' := tk) fun _ _ z => z, rfl, q⟩
/-- .. of an exception of class c: the class asked for is an own one or a built-in one -/
theorem xe_isi {C : Addr} {t : T} {ct : CT} {b : Bool} (cn : CN X.K c C) (x : XcF X.K C) (hz : Zc cls d oe) (hf : ∃ vs, oe.data = .fields vs) (hcl : clC t = some ct) (htab : ∀ cv, CVal X.K ct cv → PySem.W.kitOne X.K (.ref C) cv = some b)
  (h2 : IE Yfa W0 e2 (mC t)) (hm : X.mg "isinstance" = none) (hN : X.N[i]? = some n := by rfl) (hv : Vis X.env.scope n := by first | exact Or.inl rfl | exact Or.inr (Or.inl rfl) | exact Or.inr (Or.inr rfl)) (hd : (n == ("__debug__" : Str)) = false := by decide) (hcd : (n == ("__classdict__" : Str)) = false := by decide)
  (hg : Gl Yfa "isinstance" := by rfl)
  (he : starEach [.Name n p, e2] X.env = (false, eval (.Name n p) X.env) :: starEach [e2] X.env := by rfl) (he2 : starEach [e2] X.env = (false, eval e2 X.env) :: starEach [] X.env := by rfl) (hpl : (backTo pos (starEach [e2] X.env)).any (·.1) = false := by rfl) :
  XE X a oe cls d pn i c (.Call (.Name "isinstance" p2) [.Name n p, e2] [] pos) (fun _ => mC (.bl b)) := by
 refine ⟨fun pins s σ H Q I h => ?_⟩
 obtain ⟨e0, ex, s0, eta, e1, R1, S1, ec, er, g⟩ := h
 subst e1
 obtain ⟨C', eC, cn', er'⟩ := id er
 rw [ec] at cn'
 cases cn'.inj cn
 subst eC
 refine (pe_callB (X := X.suite a Ya6) (call_isX (d := d) x hz hf) hg hm (by with_unfolding_all rfl) (pa_cons (pe_var (X := X.suite a Ya6) (i := i) hN hv hd hcd) (pa_cons h2 pa_nil he2) he) Ybz Ybz he hpl).run pins s σ s0.H Q I ⟨_, e0, s0, eta, rfl, R1, S1, fun v s' q1 q2 q3 q4 => ?_⟩
 obtain ⟨cv, c1, c2⟩ := cl_at hcl (by simpa only [Rw] using q4)
 have hrel : ∀ u, RelV v u → u = cv := fun u hu => by
  cases c2 with
  | ty n => cases hu; rfl
  | own C => cases hu; rfl
 have nl := er.nl R1
 have er2 := er.aft q2 R1 nl
 refine ⟨_, cv, b, rfl, hrel, htab cv c1, ?_, ?_⟩
 ·obtain ⟨_, _, _, h⟩ := er2
  rcases h with ⟨_, h⟩ | ⟨dd, vs, h1, h2, _⟩
  ·exact .inl h
  ·exact .inr ⟨dd, vs, h1, h2⟩
 ·exact Go.aft g q2 (.bl b) s' q1 (Aft.refl s') q3 Yl
theorem xt_val (h : XE X a oe cls d pn i c e F) (he : ∀ whole, isTrue e X.env whole = (do let v ← whole; standAt e.pos; holding [v] (truthy v)) := by intro _; rfl) : XT X a oe cls d pn i c e (fun ex => zae asB (F ex)) :=
 PT.imp (pt_val h he) fun σ H Q h => tXM.bind1 (R := fun (x : V) (H1 : Hp) => ∃ c, x = .bl c ∧ Q c H1) (k := fun _ (a : W) _ hp => asB a hp) h fun ex s eta a b R1 _ _ _ f1 g => go_asB R1 f1 g
theorem xt_cond {R : Bool → Hp → Prop} {C D : Type} {Gam : S4 → C → D → Prop} {k : Ex → Bool → IS → IH → Res C} {σ : L2.St} {H : Hp} {Q : D → Hp → Prop}
  (h : tXM X.K X.w Gam a cls d i c (fun ex eta hp => (U ex eta hp).bind fun b h1 => k ex b eta h1) σ H Q) (n : ∀ (ex : Ex) (s : S4) (eta : IS) (b : Bool), Rel X.K X.w s → Sl X.K s eta σ → ex.cls = c → ExR X.K s ex cls d → Go X.K X.w W0 Gam s (k ex b eta s.hp) Q → R b s.H) : tXM X.K X.w Ygj a cls d i c U σ H R :=
 tXM.bind1 (R := R) h fun ex s eta a b R1 S1 ec er f1 g => by subst f1; exact n ex s eta a R1 S1 ec er g
theorem XW.t (h : XW X a oe cls d pn i c e U) : XT X a oe cls d pn i c e U := PW.pt h
theorem xw_and1 (ha : XT X a oe cls d pn i c e U) : XW X a oe cls d pn i c (.BoolOp .And [e] pos) U := pw_and1 ha
theorem xw_and {rest : List Expr} (ha : XT X a oe cls d pn i c e U) (hb : XW X a oe cls d pn i c (.BoolOp .And (e2 :: rest) pos) V') : XW X a oe cls d pn i c (.BoolOp .And (e :: e2 :: rest) pos) (fun ex => mAnd (U ex) (V' ex)) :=
 PW.imp (pw_and ha hb) fun σ H Q h => by
  have e0 := h.1
  exact xt_cond (R := fun c1 H1 => if c1 = true then tXM X.K X.w Ygj a cls d i c V' σ H1 Q else Q false H1) (k := fun ex a eta h1 => if a then V' ex eta h1 else .ok false h1) h fun ex s eta b R1 S1 ec er g => by
   cases b with
   | true => exact ⟨e0, ex, s, eta, rfl, R1, S1, ec, er, g⟩
   | false => exact g false s rfl Ym R1 rfl
theorem xt_not (ha : XT X a oe cls d pn i c e U) : XT X a oe cls d pn i c (.UnaryOp .Not e pos) (fun ex => mNot (U ex)) :=
 PT.imp (pt_not ha) fun σ H Q h => xt_cond (R := fun c H1 => Q (!c) H1) (k := fun _ a eta h1 => .ok (!a) h1) h fun ex s eta b R1 S1 _ _ g => g (!b) s rfl Ym R1 rfl
theorem xe_if (hc : XT X a oe cls d pn i c e U) (ha : XE X a oe cls d pn i c e2 F) (hb : XE X a oe cls d pn i c e3 G) : XE X a oe cls d pn i c (.IfExp e e2 e3 pos) (fun ex => mIf (U ex) (F ex) (G ex)) :=
 PE.imp (pe_ifExp hc ha hb) fun σ H Q h => by
  have e0 := h.1
  exact xt_cond (R := fun c1 H1 => if c1 = true then tXM X.K X.w (Rw X.K) a cls d i c F σ H1 Q else tXM X.K X.w (Rw X.K) a cls d i c G σ H1 Q) (k := fun ex b eta h1 => if b then F ex eta h1 else G ex eta h1) h fun ex s eta b R1 S1 ec er g => by
   cases b with
   | true => exact ⟨e0, ex, s, eta, rfl, R1, S1, ec, er, g⟩
   | false => exact ⟨e0, ex, s, eta, rfl, R1, S1, ec, er, g⟩
variable {x : Str} {rest suite : List Stmt} {Gs : Ex → M Fl} {j : Nat}
theorem xss_nil : XSs X a oe cls d pn i c [] (fun _ => zbh) := PSs.imp (pss_nil (X := X.suite a Ya6)) fun D σ H h => by
 obtain ⟨e0, ex, s, eta, e1, R1, S1, ec, er, g⟩ := h
 subst e1
 exact Go.nx R1 S1 g
theorem xss_set (j : Nat) {pos' : Pos} (hij : j ≠ i) (hN : X.N.Nodup) (he : XE X a oe cls d pn i c e F) (hr : XSs X a oe cls d pn i c rest Gs) (hi : X.N[j]? = some x := by rfl) (hx : Loc X.env.scope x := by first | exact Or.inl rfl | exact Or.inr rfl) (hs : swapsWith e (some (.Name x pos')) pos.line X.env = pure false := by rfl) (hf : (X.suite a ((a, oe) :: pn)).fn x = true ∨ X.env.scope.names.lookup x = some .local := by first | exact .inl rfl | exact .inr rfl | assumption) :
  XSs X a oe cls d pn i c (.Assign [.Name x pos'] e pos :: rest) (fun ex => mSeq (mSet j (F ex)) (Gs ex)) := PSs.imp (pss_cons (ps_set (X := X.suite a Ya6) hN hi hx he hs hf) hr) fun D σ H h => by
 have e0 := h.1
 have h' : tXM X.K X.w (RFl X.K) a cls d i c (fun ex eta hp => (F ex eta hp).bind fun w h1 => thenF (Gs ex) (Fl.nx (eta.set j (some w))) h1) σ H (endQ D) := by
  obtain ⟨e0, ex, s, eta, e1, R1, S1, ec, er, g⟩ := h
  refine ⟨e0, ex, s, eta, e1, R1, S1, ec, er, ?_⟩
  have : (mSeq (mSet j (F ex)) (Gs ex)) eta s.hp = (F ex eta s.hp).bind fun w h1 => thenF (Gs ex) (Fl.nx (eta.set j (some w))) h1 := by
   show ((F ex eta s.hp).bind _).bind _ = _
   rw [Res.bind_assoc]
   rfl
  have g : Go X.K X.w W0 (RFl X.K) s ((mSeq (mSet j (F ex)) (Gs ex)) eta s.hp) (endQ D) := g
  rw [this] at g
  exact g
 exact tXM.bind1 (R := fun (y : V) (H1 : Hp) => tXM X.K X.w (RFl X.K) a cls d i c Gs (σ.set j (some y)) H1 (endQ D)) (k := fun ex (w : W) eta hp => thenF (Gs ex) (Fl.nx (eta.set j (some w))) hp) h' fun ex s eta w v R1 S1 ec er f1 g =>
  ⟨by rw [List.getElem?_set_ne hij]; exact e0, ex, s, eta.set j (some w), rfl, R1, S1.set j f1, ec, er, g⟩
end
/-- what the clauses wish of an exception of the body -/
def wManyA (K : PySem.W.Frag) (i : Nat) (Wout : WX) (D : Ends) : List Ybk → WX
 | [] => Wout
 | (c, ts) :: r => fun cls d σ H => ∃ b, PySem.W.exmOne K cls c = some b ∧ (b = true → ∀ a, H a = none → ts a cls d { nx := fun σ' H' => D.nx (σ'.set i none) H', rt := D.rt, bk := fun σ' H' => D.bk (σ'.set i none) H', ct := fun σ' H' => D.ct (σ'.set i none) H' } (σ.set i Ycu) H) ∧ (b = false → wManyA K i Wout D r cls d σ H)
inductive HdsA (X : Cx) (n : Str) : List ExceptHandler → List Ybk → Prop
 | nil : HdsA X n [] []
 | cons {x : Str} {c : Value} {ts : Addr → Value → Option Addr → TS} {b₀ : Stmt} {suite : List Stmt} {np pos' : Pos} {hds : List ExceptHandler} {l : List (Value × (Addr → Value → Option Addr → TS))} (hc : Names X x c)
   (hsu : ∀ (a : Addr) (oe : Obj) (cls : Value) (d : Option Addr) (pn : List (Addr × Obj)), Zc cls d oe → (∃ vs, oe.data = .fields vs) → PSs Yfa Yg7 (ts a cls d)) (r : HdsA X n hds l) :
   HdsA X n (.ExceptHandler Yih (some n) Yg7 pos' :: hds) ((c, ts) :: l)
section
variable {X : Cx} {body : List Stmt} {h₀ : ExceptHandler} {hds : List ExceptHandler} {l : List Ybk} {pos : Pos} {tb : WX → TS} {Wout : WX} {i : Nat} {n : Str}
theorem ps_try_manyA (hs : X.stack = X.env :: X.outer) (hf : X.env.frame = some X.env.locals) (hN : X.N.Nodup) (hi : X.N[i]? = some n) (hln : X.env.kindOf n = some .local) (tk : L2.Takes X Wout)
  (hb : ∀ (W : WX) (pn : List (Addr × Obj)) (xe : Value → Shared → Prop), L2.Takes Yit W → PassesOwn Yo X.A X.env xe → PSs Yit body (tb W))
  (hh : HdsA X n (h₀ :: hds) l) : PS X (.Try body (h₀ :: hds) [] [] pos) (fun D σ H => tb (wManyA X.K i Wout D l) D σ H) := by
 refine ⟨fun pins s σ H D I h => ?_⟩
 have ok := I.ok
 have hfr : X.A.frames = some Ybo := by rw [ok.frames, hs]
 have hloc : Loc X.env.scope n := .inl hln
 refine wpAny_Try_except ?_
 refine wpAny_mono ((hb (wManyA X.K i Wout D l) (X.pn ++ pins) (fun e s₁ => wpAny Yo X.A (noteFrame e X.env) (fun _ s₂ => wpAny Yo X.A (setFlight e none) (fun _ s₃ =>
  wpAny Yo X.A (handleBy e X.env (h₀ :: hds)) (SP X pins D) X.xe s₃) X.xe s₂) X.xe s₁) (fun u s' xx => ?_) PassesOwn.looking).run [] s σ H D (I.toTry _) h) (fun f s1 hsp => ?_) (fun e s1 he => he)
 ·obtain ⟨a, B, sI, pins', σ', H', cls, d, rfl, J', nb, up, sky, na, os, ag, w⟩ := xx
  have J : Inv X pins σ' H' sI := J'.ofTry ok
  have sky' : Sky B Ybo a (Zc cls d) X.env.locals s'.heap := by rw [← hs]; exact sky
  show wpAny Yo X.A (noteFrame (.ref a) X.env) _ _ _
  refine Sky.land Zc.steady hfr hf sky' fun h3 fl3 up3 => ?_
  have J3 : Inv X pins σ' H' { s' with heap := h3 } := J.landed nb fl3.1 (up.trans up3) os ag
  obtain ⟨oe3, vs3, he3, hz3, hd3⟩ := fl3.there
  have notFr : ∀ {h : Heap} {o : Obj} {vs : Array Value}, h.FunFrames B Ybo → h.get? a = some o → o.data = .fields vs → a ∉ frs Ybo := fun {h o vs} ff e dd hm => by
   obtain ⟨_, o', e', hnf⟩ := ff.mem hm
   rw [e] at e'; cases e'
   exact hnf _ dd
  have nfr := notFr fl3.2.2.1 he3 hd3
  have nL : a ≠ X.env.locals := fun z => nfr Yhw
  have nF : a ∉ X.fs := fun hm => by
   obtain ⟨e, he, q⟩ := List.mem_filterMap.mp hm
   exact nfr Yi8
  have S3 := J3.suite he3 hd3 na nL nF
  have go : ∀ {hds' : List ExceptHandler} {l' : List (Value × (Addr → Value → Option Addr → TS))}, HdsA X n hds' l' → wManyA X.K i Wout D l' cls d σ' H' →
    wpAny Yo X.A (handleBy (.ref a) X.env hds') (SP X pins D) X.xe { s' with heap := h3 } := by
   intro hds' l' hk
   induction hk with
   | nil =>
    intro w
    refine wpAny_handleBy_nil ?_
    obtain ⟨k1, k2, k3, oe, vs, T, oT, ts', he, hz, hd, h1, hr⟩ := id fl3
    unfold PySem.passOn
    refine wpAny_bind (wpAny_field he hd h1 ?_)
    rw [if_neg Ydy]
    have fin : wpAny Yo X.A (setFlight (.ref a) X.env.frame) Yg3 X.xe { s' with heap := h3 } := by
     rw [hf]
     refine HandSPX.setFlight_upZ fl3 fun h4 hh4 up4 => wpAny_throw (tk _ _ ?_)
     exact ⟨a, B, sI, pins, σ', H', cls, d, rfl, J, nb, (up.trans up3).trans up4, .inr (.inr (by rw [hs]; exact hh4)), na, os, ag, w⟩
    first
     | exact wpAny_bind (wpAny_pure (wpAny_bind fin))
     | exact wpAny_bind fin
   | @cons x c ts b₀ suite np pos' hds2 l2 hc hsu r ih =>
    intro w
    obtain ⟨b, hb1, hyes, hno⟩ := w
    refine wpAny_handleBy_cons (codeAny_handlers_test ?_) (by intro q; cases q)
    have LT : PySem.W.Looks Yo h3 (typeOf (.ref a)) cls := fun A Q E s k q => wpAny_typeOf_ref (k _ _ he3) (by rw [hz3.1]; exact q)
    have LM := PySem.W.exm_one (M := model X.prog X.w) (J3.kIn) LT hb1
    have test : ∀ {Q : Value → Shared → Prop} {E : Value → Shared → Prop}, Q c { s' with heap := h3 } → wpAny Yo (X.A.mark Ycu) (eval (.Name x np) X.env) Q E { s' with heap := h3 } := fun {Q E} q => by
     obtain ⟨hg, hdbg, hm | ⟨hm, hv, hnn⟩⟩ := hc
     ·exact ld_glob (X := X.suite a Ygw) S3 hg hm q hdbg
     ·exact ld_blt (X := X.suite a Ygw) S3 hg hm hv q hnn hdbg
    refine test (LM.here ?_)
    cases b with
    | true =>
     refine codeAny_handlers_suite_as ?_
     refine HandSPX.lands_againZ fl3 fun h4 fl4 up4 => ?_
     have J4 : Inv X pins σ' H' { s' with heap := h4 } := J.landed nb fl4.1 ((up.trans up3).trans up4) os ag
     obtain ⟨oe4, vs4, he4, hz4, hd4⟩ := fl4.there
     have S4 := J4.suite he4 hd4 na nL nF
     refine store_ok (X := X.suite a Yc9) (v := .ref a) S4 hN hi hloc rfl (fun s5 S5 => ?_) (.inr hln)
     refine wpAny_mono ((hsu a oe4 cls d (X.pn ++ pins) hz4 ⟨_, hd4⟩).run [] s5 _ H' _ S5 (hyes rfl a na)) (fun f s6 hsp => ?_) (fun _ _ z => False.elim z)
     have end_ : ∀ {σ6 : L2.St} {H6 : Hp} {Q : Shared → Prop}, Inv (X.suite a Yc9) [] σ6 H6 s6 → (∀ s7, Inv X pins (σ6.set i none) H6 s7 → Q s7) →
       wpAny Yo X.A Yi9 (fun _ s7 => Q s7) X.xe s6 := fun {σ6 H6 Q} S6 hq => gone_ok (S6.unsuite ok) hN hi hln hq
     cases f with
     | next =>
      obtain ⟨σ6, H6, S6, q6⟩ := hsp
      exact end_ S6 fun s7 J7 => ⟨_, _, J7, q6⟩
     | brk =>
      obtain ⟨σ6, H6, S6, q6⟩ := hsp
      exact end_ S6 fun s7 J7 => ⟨_, _, J7, q6⟩
     | cont =>
      obtain ⟨σ6, H6, S6, q6⟩ := hsp
      exact end_ S6 fun s7 J7 => ⟨_, _, J7, q6⟩
     | ret u =>
      obtain ⟨v6, σ6, H6, S6, r6, q6⟩ := hsp
      exact end_ S6 fun s7 J7 => ⟨_, _, _, J7, r6, q6⟩
    | false =>
     show wpAny _ X.A (handleBy (.ref a) X.env hds2) _ _ _
     exact ih (hno rfl)
  exact go hh w
 ·cases f with
  | next =>
   obtain ⟨σ', H', J', q⟩ := hsp
   exact wpAny_execs_nil ⟨σ', H', J'.ofTry ok, q⟩
  | brk =>
   obtain ⟨σ', H', J', q⟩ := hsp
   exact ⟨σ', H', J'.ofTry ok, q⟩
  | cont =>
   obtain ⟨σ', H', J', q⟩ := hsp
   exact ⟨σ', H', J'.ofTry ok, q⟩
  | ret u =>
   obtain ⟨v, σ', H', J', r, q⟩ := hsp
   exact ⟨v, σ', H', J'.ofTry ok, r, q⟩
end
def unI (i : Nat) : Fl → Fl
 | .nx eta => .nx Yh9
 | .rt w => .rt w
 | .bk eta => .bk Yh9
 | .ct eta => .ct Yh9
/-- clauses: the class whose errors one takes (which other classes it lets by), its suite -/
abbrev Cl := Str × (Str → Option Bool) × (Ex → M Fl)
def clsL (i : Nat) (e : Ex) (eta : IS) (h : IH) : List Cl → Res Fl
 | [] => .er e eta h
 | (c, hit, S) :: r => match hit e.cls with
  | some true => if e.cls = c ∧ i < eta.length then (match S e Yh9 h with | .ok fl h' => .ok (unI i fl) h' | _ => .bad) else .bad
  | some false => clsL i e eta h r
  | none => .bad
def mTryAs (i : Nat) (B : M Fl) (l : List Cl) : M Fl := fun eta hp => match B eta hp with
 | .er e eta' h => clsL i e eta' h l
 | r => r
inductive ClsA (X : Cx) (n : Str) (i : Nat) : List ExceptHandler → List Cl → List Ybk → Prop
 | nil : ClsA X n i [] [] []
 | cons {x : Str} {cv : Value} {c : Str} {hit : Str → Option Bool} {S : Ex → M Fl} {b₀ : Stmt} {suite : List Stmt} {np pos' : Pos} {hds : List ExceptHandler} {l : List Cl} {tl : List (Value × (Addr → Value → Option Addr → TS))} (hc : Names X x cv) (ht : HitOk X.K cv hit)
   (hsu : ∀ (a : Addr) (oe : Obj) (cls : Value) (d : Option Addr) (pn : List (Addr × Obj)), Zc cls d oe → (∃ vs, oe.data = .fields vs) → XSs X a oe cls d pn i c Yg7 S) (r : ClsA X n i hds l tl) :
   ClsA X n i (.ExceptHandler Yih (some n) Yg7 pos' :: hds) ((c, hit, S) :: l) ((cv, fun a cls d => fun D σ H => tXM X.K X.w (RFl X.K) a cls d i c S σ H (endQ D)) :: tl)
theorem ClsA.hds {X : Cx} {n : Str} {i : Nat} : ∀ {hds : List ExceptHandler} {l : List Cl} {tl : List (Value × (Addr → Value → Option Addr → TS))}, ClsA X n i hds l tl → HdsA X n hds tl
 | _, _, _, .nil => .nil
 | _, _, _, .cons hc _ hsu r => .cons hc hsu r.hds
section
variable {X : Cx} {Wx : WX} {n : Str} {i : Nat} {body : List Stmt} {h₀ : ExceptHandler} {hds : List ExceptHandler} {pos : Pos} {B : M Fl} {l : List Cl} {tl : List Ybk}
theorem cls_go {D : Ends} {s s' : S4} {e : Ex} {eta : IS} {σ : L2.St} {h : IH} {cls : Value} {d : Option Addr} (h1 : s'.hp = h) (h2 : Aft s s') (h3 : Rel X.K X.w s') (h4 : Sl X.K s' eta σ) (h5 : ExR X.K s' e cls d) :
  ∀ {hds : List ExceptHandler} {l : List Cl} {tl : List (Value × (Addr → Value → Option Addr → TS))}, ClsA X n i hds l tl → Go X.K X.w Wx (RFl X.K) s (clsL i e eta h l) (endQ D) → wManyA X.K i Wx D tl cls d σ s'.H := by
 intro hds l tl k
 induction k with
 | nil => exact fun g => g s' σ cls d h1 h2 h3 h4 h5
 | @cons x cv c hit S b₀ suite np pos' hds l tl hc ht hsu r ih =>
  intro g
  obtain ⟨C, ec, cn, _⟩ := id h5
  unfold clsL at g
  split at g
  ·rename_i hh
   split at g
   ·rename_i hlt
    refine ⟨true, by rw [ec]; exact ht _ _ _ hh cn, fun _ a na => ⟨by rw [List.getElem?_set_self (by rw [← h4.1]; exact hlt.2)], e, s', eta.set i none, rfl, h3, h4.unset i _, hlt.1, h5, ?_⟩, fun z => by cases z⟩
    rw [h1]
    cases hS : S e (eta.set i none) h with
    | er _ _ _ => rw [hS] at g; exact g.elim
    | bad => rw [hS] at g; exact g.elim
    | ok fl h' =>
     rw [hS] at g
     intro fv s2 q1 q2 q3 q4
     cases fl with
     | nx eta2 =>
      cases fv with
      | nx o => exact g (.nx (o.set i none)) s2 q1 (h2.trans q2) q3 (Sl.unset q4 i none)
      | rt _ => exact q4.elim
      | bk _ => exact q4.elim
      | ct _ => exact q4.elim
     | rt w =>
      cases fv with
      | rt v => exact g (.rt v) s2 q1 (h2.trans q2) q3 q4
      | nx _ => exact q4.elim
      | bk _ => exact q4.elim
      | ct _ => exact q4.elim
     | bk eta2 =>
      cases fv with
      | bk o => exact g (.bk (o.set i none)) s2 q1 (h2.trans q2) q3 (Sl.unset q4 i none)
      | rt _ => exact q4.elim
      | nx _ => exact q4.elim
      | ct _ => exact q4.elim
     | ct eta2 =>
      cases fv with
      | ct o => exact g (.ct (o.set i none)) s2 q1 (h2.trans q2) q3 (Sl.unset q4 i none)
      | rt _ => exact q4.elim
      | bk _ => exact q4.elim
      | nx _ => exact q4.elim
   ·exact g.elim
  ·rename_i hh
   exact ⟨false, by rw [ec]; exact ht _ _ _ hh cn, fun z => (by cases z), fun _ => ih g⟩
  ·exact g.elim
theorem st_tryAs (hs : X.stack = X.env :: X.outer) (hf : X.env.frame = some X.env.locals) (hN : X.N.Nodup) (hi : X.N[i]? = some n) (hln : X.env.kindOf n = some .local) (tk : L2.Takes X Wx)
  (hb : ∀ (W : WX) (pn : List (Addr × Obj)) (xe : Value → Shared → Prop), L2.Takes Yit W → PassesOwn Yo X.A X.env xe → ISs Yit W body B)
  (hh : ClsA X n i (h₀ :: hds) l tl) : ISt X Wx (.Try body (h₀ :: hds) [] [] pos) (mTryAs i B l) :=
 PS.imp (ps_try_manyA (tb := fun W => tS X.K X.w W B) hs hf hN hi hln tk hb hh.hds) fun D σ H h => by
  obtain ⟨s, eta, e1, R1, S1, g⟩ := h
  refine ⟨s, eta, e1, R1, S1, ?_⟩
  unfold mTryAs at g
  cases hB : B eta s.hp with
  | ok fl hp => rw [hB] at g; exact g
  | bad => rw [hB] at g; exact g
  | er e eta' h =>
   rw [hB] at g
   intro s' σ' cls d h1 h2 h3 h4 h5
   exact cls_go h1 h2 h3 h4 h5 hh g
end
section
variable {K : PySem.W.Frag} {C D : Addr} {b : Bool} {c t o : Str} {n : String}
theorem cv_cls (nX : CN K t D) (kt : PySem.W.kitOne K (.ref C) (.ref D) = some b) : ∀ cv, CVal K (.inr t) cv → PySem.W.kitOne K (.ref C) cv = some b := fun cv ⟨C', e, n⟩ => by
 subst e
 cases n.inj nX
 exact kt
theorem kt_ofb {t : Value} (hd : PySem.W.hasDictIn K C = true) (ty : PySem.W.typeIn K (.ref C) = some Yd7) (s : PySem.W.subIn K t (.ref C) = some b) (ne : (t == .ref C) = false) : PySem.W.kitOne K t (.ref C) = some b := by
 obtain ⟨cd, hc, _⟩ := PySem.W.any_some hd
 unfold PySem.W.kitOne
 rw [ne, if_neg Ybz]
 show (if _ then _ else _) = _
 rw [if_pos (by rw [hc, ty]; rfl)]
 exact s
theorem ne_ofb (h : C ≠ D) : ((Value.ref C) == .ref D) = false := Bool.eq_false_iff.mpr fun q => h (Value.ref.inj (beq_iff_eq.mp q))
end
section
variable {X : Cx} {Wx : WX} {a b : Expr} {Fa Fb : M W} {pos : Pos}
theorem ok_ninS {K : PySem.W.Frag} {ω : World} : zec K ω Wx (inS true) (fun x y H Q => ∃ (c : Nat) (z : Str), x = .str ⟨#[c]⟩ ∧ y = .str z ∧ Q (.bl (!decide (c ∈ z.cps.toList))) H) := by
 intro s a b x y Q R ra rb go
 unfold inS at go
 split at go
 ·rename_i i j
  split at go
  ·rename_i c hc
   simp only [Rw, Rf] at ra rb
   subst ra rb
   have ei : i = ⟨#[c]⟩ := Str.ext' (Array.toList_inj.mp (by rw [hc]))
   subst ei
   exact ⟨c, j, rfl, rfl, go _ s rfl Ym R Yl⟩
  ·exact go.elim
 ·exact go.elim
theorem it_ninS (ha : IE X Wx a Fa) (hb : IE X Wx b Fb) (hm : behindInMarks .NotIn b = false := by rfl) : IT X Wx (.Compare a [.NotIn] [b] pos) (zae asB (mBin (inS true) Fa Fb)) := it_cmp op_notIn_sign ok_ninS ha hb hm
end
end Mir
namespace Mir
open PySem PySem.Spec L2
open PyProof.Rows hiding St
section
variable {P : Program} {w : World} {A : Around} {E : Value → Shared → Prop} {s : Shared}
/-- at a stands the set of the tuples L, with room to spare -/
structure SetGr (P : Program) (w : World) (h : Heap) (a : Addr) (L : List Ycf) (es : Array Yh3) (ep : Nat) (t : SetTable) : Prop where
 ob : ∃ o, h.get? a = some o ∧ o.ExactSet ∧ o.data = .set es ep t
 rows : es.toList = L.map fun p => (hK P w p.2, Value.ref p.1)
 tab : TabOk t (L.map fun p => hK P w p.2)
 nd : (L.map (·.2)).Nodup
 tup : ∀ p ∈ L, IsK P w h p.2 p.1
 room : L.length * 5 < t.mask * 3
 few : L.length < 64
variable {a : Addr} {L : List Ycf} {es : Array Yh3} {ep : Nat} {t : SetTable}
theorem SetGr.size (R : SetGr P w s.heap a L es ep t) : es.size = L.length := by
 rw [← Array.length_toList, R.rows, List.length_map]
theorem SetGr.psize (R : SetGr P w s.heap a L es ep t) : t.place.size = L.length := by rw [R.tab.sz, List.length_map]
theorem SetGr.fits (R : SetGr P w s.heap a L es ep t) : t.fits es.size = true := by
 have h1 := R.psize
 have h2 := R.size
 have h3 := R.room
 unfold SetTable.fits SetTable.fill
 rw [R.tab.dm, Bool.and_eq_true, beq_iff_eq, decide_eq_true_eq]
 show t.place.size = es.size ∧ t.place.size + 0 ≤ t.mask
 omega
theorem SetGr.at_ (R : SetGr P w s.heap a L es ep t) {i : Nat} {p : Addr × List Key} (h : L[i]? = some p) : es[i]? = some (hK P w p.2, Value.ref p.1) := by
 rw [← Array.getElem?_toList, R.rows, List.getElem?_map, h]
 rfl
/-- the looking for a tuple, from the c-th place of its way on -/
theorem lookGr (R : SetGr P w s.heap a L es ep t) {x : Addr} {k : List Key} (hx : IsK P w s.heap k x) (hu : A.units < cLine) {n : Nat} (hn : n < 10 * SetTable.turns t.mask)
  (free : way t.mask Y0 n ∉ t.place.toList) (full : ∀ c, c < n → way t.mask Y0 c ∈ t.place.toList) {Q : SetFound → Shared → Prop}
  (yes : k ∈ L.map (·.2) → Q (.there none) s) (no : k ∉ L.map (·.2) → Q (.free Yf3 false) s) :
  ∀ (f c : Nat) (stand : Option SetTable.Probe), stand.getD (t.probeStart Y0) = nth t.mask (runAt t.mask Yfn (SetTable.bits Y0)) c → c ≤ n → n - c < f →
   (∀ (i : Nat) p, L[i]? = some p → p.2 = k → ∃ c', c ≤ c' ∧ c' < n ∧ t.place.toList[i]? = some (way t.mask Y0 c')) →
   wpAny Ych A (setSearchFrom a (.ref x) Y0 true f stand) Q E s := by
 intro f
 induction f with
 | zero => intro c stand _ _ h; omega
 | succ f ih =>
  intro c stand st hc hf there
  obtain ⟨o, ho, _, hd⟩ := R.ob
  let W0 : SetTable.Probe := runAt t.mask Yfn (SetTable.bits Y0)
  have step : ∀ q, nth t.mask Yhj q = nth t.mask W0 (c + q) := fun q => (nth_add t.mask c _ q).symm
  have jw : ∀ q, (nth t.mask Yhj q).j = way t.mask Y0 (c + q) := fun q => congrArg SetTable.Probe.j (step q)
  have entry : ∀ (i : Nat) p, L[i]? = some p → (es[i]?.map (·.1)).getD 0 = hK P w p.2 := fun i p hp => by rw [R.at_ hp]; rfl
  have gone : ¬ t.gaveWay = true := by
   unfold SetTable.gaveWay
   rw [mask_odd R.tab.mok]
   decide
  rw [setSearchFrom_succ]
  refine wpAny_bind (wpAny_setState_of ho hd R.fits ?_)
  dsimp only
  refine wp_if_neg gone ?_
  rcases go_spec t R.tab.ris R.tab.dm (fun i => (es[i]?.map (·.1)).getD 0) (hK P w k) (10 * SetTable.turns t.mask) (n - c) (nth t.mask W0 c) (nth_dummy c _ rfl) (by omega)
   (fun q hq => by rw [jw]; exact full (c + q) Yb) (by rw [jw, show c + (n - c) = n by omega]; exact free) with ⟨q, i, hq, hi, _, before, pr⟩ | ⟨before, pr⟩
  ·have pr2 : t.probe (fun i => (es[i]?.map (·.1)).getD 0) Y0 Ygd = some (.candidate Yey i Ygi) := by
    rw [st, ← jw, ← step]
    exact pr
   rw [pr2]
   dsimp only
   rw [jw] at hi
   have li : i < L.length := by
    have := (List.getElem?_eq_some_iff.mp hi).1
    rw [Array.length_toList, R.psize] at this
    exact this
   obtain ⟨p, hp⟩ : ∃ p, L[i]? = some p := ⟨L[i], List.getElem?_eq_getElem li⟩
   have mp : p ∈ L := List.mem_of_getElem? hp
   have rest : wpAny Ych A (searchRest a (.ref x) Y0 true f es t Yey i Ygi) Q E s := by
    unfold searchRest
    rw [R.at_ hp]
    dsimp only
    refine wpAny_bind (wpAny_holding (wpAny_eqBool_tuple hu (R.tup p mp) hx ?_))
    refine wpAny_bind (wpAny_setState_of ho hd R.fits ?_)
    dsimp only
    by_cases same : p.2 = k
    ·refine wp_if_pos Yib ?_
     exact wpAny_pure (yes (List.mem_map.mpr ⟨p, mp, same⟩))
    ·have live : t.slot Yey = .live i := slot_live R.tab.ris hi
     refine wp_if_neg Yib ?_
     rw [sameMem]
     dsimp only
     simp only [if_true, live, R.at_ hp]
     refine wpAny_bind (wpAny_isSame_ref_self (wpAny_bind (wpAny_pure ?_)))
     simp only [if_true]
     refine wp_if_neg Yib ?_
     refine ih (c + (q + 1)) _ rfl Yb Yb fun i0 p0 h0 k0 => ?_
     obtain ⟨c', b1, b2, b3⟩ := there i0 p0 h0 k0
     refine ⟨c', ?_, b2, b3⟩
     rcases Nat.lt_trichotomy c' (c + q) with z | z | z
     ·exact absurd Yc4 (before (c' - c) i0 Yb Yck)
     ·exfalso
      rw [z] at b3
      have e := slot_live R.tab.ris b3
      rw [live] at e
      injection e with e
      rw [← e, hp] at h0
      exact same ((congrArg Prod.snd (Option.some.inj h0)).trans k0)
     ·omega
   by_cases led : t.led = true
   ·exact wp_if_neg (by simp [led]) rest
   ·refine wp_if_pos (by simp [led]) (wpAny_bind (unseen hx (fun y hy => ?_) ?_))
    ·obtain ⟨e, he, rfl⟩ := List.mem_map.mp hy
     have he1 : e ∈ es ∧ e.1 = hK P w k := by simpa using he
     have he2 : e ∈ es.toList := by simpa using he1.1
     rw [R.rows] at he2
     obtain ⟨p2, hp2, rfl⟩ := List.mem_map.mp he2
     exact ⟨p2.2, p2.1, rfl, R.tup p2 hp2⟩
    ·exact wp_if_neg Ybz rest
  ·have pr2 : t.probe (fun i => (es[i]?.map (·.1)).getD 0) Y0 Ygd = some (.empty Yf3 none) := by
    have e : way t.mask Y0 n = (nth t.mask Yhj (n - c)).j := by rw [jw, show c + (n - c) = n by omega]
    rw [st, e]
    exact pr
   rw [pr2]
   dsimp only
   refine wpAny_pure (no fun hm => ?_)
   obtain ⟨p0, m0, k0⟩ := List.mem_map.mp hm
   obtain ⟨i0, h0⟩ := List.mem_iff_getElem?.mp m0
   obtain ⟨c', b1, b2, b3⟩ := there i0 p0 h0 k0
   exact before (c' - c) i0 Yb Yck Yc4
theorem lookGr_at (R : SetGr P w s.heap a L es ep t) {x : Addr} {k : List Key} (hx : IsK P w s.heap k x) (hu : A.units < cLine) {Q : SetFound → Shared → Prop} (yes : k ∈ L.map (·.2) → Q (.there none) s)
  (no : ∀ n, k ∉ L.map (·.2) → way t.mask Y0 n ∉ t.place.toList → (∀ c, c < n → way t.mask Y0 c ∈ t.place.toList) → Q (.free Yf3 false) s) :
  wpAny Ych A (setSearch a (.ref x) Y0 true) Q E s := by
 have few := R.room
 obtain ⟨n, hn, free, full⟩ := R.tab.first Yab Y0
 have big : n < 100000 := by
  have : 10 * SetTable.turns t.mask ≤ 5000 := by
   unfold SetTable.turns
   rcases R.tab.mok with e | e | e <;> rw [e] <;> decide
  omega
 unfold setSearch
 refine lookGr R hx hu hn free full yes (fun h => no n h free full) 100000 0 none rfl (Nat.zero_le _) Yb fun i p hp e => ?_
 have hi : (L.map fun p => hK P w p.2)[i]? = some Y0 := by rw [List.getElem?_map, hp, ← e]; rfl
 have lt : i < t.place.toList.length := by
  rw [Array.length_toList, R.psize]
  exact (List.getElem?_eq_some_iff.mp hp).1
 obtain ⟨c, hc, e⟩ := R.tab.before free hi (List.getElem?_eq_getElem lt)
 exact ⟨c, Nat.zero_le _, hc, by rw [List.getElem?_eq_getElem lt, e]⟩
end
section
variable {P : Program} {w : World} {A : Around} {E : Value → Shared → Prop} {s : Shared} {a : Addr} {L : List Ycf} {es : Array Yh3} {ep : Nat} {t : SetTable}
abbrev rowB (P : Program) (w : World) (p : Addr × List Key) : Int × Value := (hK P w p.2, Value.ref p.1)
theorem pick_all {α : Type} (L : List α) : (List.range L.length).filterMap (fun i => L[i]?) = L := by
 have key : ∀ n, n ≤ L.length → (List.range n).filterMap (fun i => L[i]?) = L.take n := fun n => by
  induction n with
  | zero => intro _; simp
  | succ n ih =>
   intro h
   rw [List.range_succ, List.filterMap_append, ih (Nat.le_of_succ_le h), List.take_succ, List.getElem?_eq_getElem h]
   simp [List.getElem?_eq_getElem h]
 rw [key _ Yd8, List.take_length]
theorem order_B (L : List Ycf) (es : Array Yh3) (order : Array Nat) (hr : es.toList = L.map (rowB P w)) (hp : order.toList.Perm (List.range L.length)) :
  ∃ L2 : List Ycf, (order.filterMap (es[·]?)).toList = L2.map (rowB P w) ∧ L2.Perm L ∧ (L2.map fun p => hK P w p.2) = order.toList.map fun i => (es.map (·.1)).getD i 0 := by
 refine ⟨order.toList.filterMap fun i => L[i]?, ?_, ?_, ?_⟩
 ·rw [Array.toList_filterMap, List.map_filterMap]
  have e : (fun i => es[i]?) = fun i => (L[i]?).map (rowB P w) := funext fun i => by rw [← Array.getElem?_toList, hr, List.getElem?_map]
  rw [e]
 ·have := hp.filterMap fun i => L[i]?
  rwa [pick_all] at this
 ·have hm : ∀ i ∈ order.toList, i < L.length := fun i hi => List.mem_range.mp (hp.mem_iff.mp hi)
  generalize order.toList = l at hm
  induction l with
  | nil => rfl
  | cons i l ih =>
   have hi := hm i List.mem_cons_self
   have e5 : (es.map (·.1))[i]? = some (hK P w (L[i]).2) := by
    rw [Array.getElem?_map, ← Array.getElem?_toList, hr, List.getElem?_map, List.getElem?_eq_getElem hi]
    rfl
   rw [List.filterMap_cons_some (List.getElem?_eq_getElem hi), List.map_cons, List.map_cons, ih fun j hj => hm j (List.mem_cons_of_mem _ hj)]
   congr 1
   simp [Array.getD_eq_getD_getElem?, e5]
/-- the table laid anew, larger -/
theorem relayB {o : Obj} (ho : s.heap.get? a = some o) (hex : o.ExactSet) (hd : o.data = .set es ep t) (hrows : es.toList = L.map (rowB P w)) (hsz : t.place.size = es.size) (hdm : t.dummies = #[]) (hfl : es.size ≤ t.mask)
  (nd : (L.map (·.2)).Nodup) (tup : ∀ p ∈ L, IsK P w s.heap p.2 p.1) (few : L.length < 64) {wanted M : Nat}
  (hw : SetTable.sizeAbove wanted - 1 = M) (hM : MaskOk M) (hw2 : SetTable.sizeAbove wanted ≤ 128) (hn : L.length * 5 < M * 3) {Q : Unit → Shared → Prop}
  (hQ : ∀ h' L' es' ep' t', Heap.SameBut a s.heap h' → SetGr P w h' a L' es' ep' t' → L'.Perm L → Q () { s with heap := h' }) : wpAny Ych A (setRelay a wanted) Q E s := by
 have hsl : es.size = L.length := by rw [← Array.length_toList, hrows, List.length_map]
 have hfits : t.fits es.size = true := by
  unfold SetTable.fits SetTable.fill
  rw [hdm, Bool.and_eq_true, beq_iff_eq, decide_eq_true_eq]
  show t.place.size = es.size ∧ t.place.size + 0 ≤ t.mask
  omega
 obtain ⟨t', order, e, hp, T, em, _, _, _⟩ := relaid_ok t (hs := es.map (·.1)) (wanted := wanted) hw hM (by rw [Array.size_map, hsl]; omega)
 rw [Array.size_map, hsl] at hp
 obtain ⟨L2, r1, r2, r3⟩ := order_B L es order hrows hp
 rw [← r3] at T
 have hs2 : (order.filterMap (es[·]?)).size = es.size := by rw [← Array.length_toList, r1, List.length_map, r2.length_eq, hsl]
 rw [setRelay_eq]
 refine wpAny_bind (wpAny_setState_of ho hd hfits ?_)
 dsimp only
 refine wp_if_neg (by rw [sizeLine_eq]; omega) ?_
 try refine wpAny_bind (wpAny_pure ?_)
 rw [e]
 dsimp only
 refine wpAny_bind ?_
 refine wp_if_neg (by rw [hs2]; simp) ?_
 try refine wpAny_bind (wpAny_pure ?_)
 refine wpAny_pure ?_
 dsimp only
 refine wpAny_storeSet_of ho hd ?_ (by rw [hs2, hsl, sizeLine_eq]; omega)
 have sb : Heap.SameBut a s.heap (s.heap.update a (Obj.putSet (order.filterMap (es[·]?)) t')) := Heap.SameBut.update ..
 refine hQ _ L2 (order.filterMap (es[·]?)) (ep + 1) t' sb ⟨⟨_, store_at ho hd, ⟨hex.1, hex.2.1, hex.2.2⟩, rfl⟩, r1, T, ?_, fun p hpm => isK_but (tup p (r2.mem_iff.mp hpm)) ho hd sb, by rw [r2.length_eq, em]; exact hn, by rw [r2.length_eq]; exact few⟩ r2
 exact (r2.map (·.2)).nodup_iff.mpr nd
/-- one more put in -/
theorem addGr_in (R : SetGr P w s.heap a L es ep t) {x : Addr} {k : List Key} (hx : IsK P w s.heap k x) (hu : A.units < cLine) (few : L.length + 1 < 64) {Q : Bool → Shared → Prop}
  (hQ : ∀ b h' L' es' ep' t', Heap.SameBut a s.heap h' → SetGr P w h' a L' es' ep' t' → (k ∈ L.map (·.2) → L' = L) → (k ∉ L.map (·.2) → L'.Perm ((x, k) :: L)) → Q b { s with heap := h' }) :
  wpAny Ych A (setAddHashed a (.ref x) Y0) Q E s := by
 obtain ⟨o, ho, hex, hd⟩ := R.ob
 unfold setAddHashed
 refine wpAny_holding ?_
 rw [show (100000 : Nat) = 99999 + 1 from rfl, setAddHashedIn_succ]
 refine wpAny_bind (wpAny_setState_of ho hd R.fits ?_)
 dsimp only
 refine wp_if_neg (by simp [byScan, Value.scannable]) ?_
 refine wpAny_bind (lookGr_at R hx hu (fun hm => ?_) fun n hm free full => ?_)
 ·dsimp only
  exact wpAny_pure (hQ false s.heap L es ep t (Heap.SameBut.refl a s.heap) R (fun _ => rfl) fun z => absurd hm z)
 ·dsimp only
  refine wpAny_bind (wpAny_setState_of ho hd R.fits ?_)
  dsimp only
  obtain ⟨q1, _, q3, q4, _, _, _, _, q9⟩ := R.tab.put free full
  generalize hpt : t.put Yf3 = pt at q1 q3 q4 q9 ⊢
  obtain ⟨t1, p⟩ := pt
  dsimp only at q1 q3 q4 q9 ⊢
  subst q1
  generalize hj : SetTable.below t.place Yf3 = j at q3 ⊢
  let L1 := L.take j ++ (x, k) :: L.drop j
  have pm : L1.Perm ((x, k) :: L) := by
   have h : L1.Perm ((x, k) :: (L.take j ++ L.drop j)) := List.perm_middle
   rwa [List.take_append_drop] at h
  have l1 : L1.length = L.length + 1 := pm.length_eq
  have rows1 : (SetTable.insertAt es j (hK P w k, Value.ref x)).toList = L1.map fun p => (hK P w p.2, Value.ref p.1) := by
   rw [SetTable.toList_insertAt, R.rows]
   simp only [L1, List.map_append, List.map_cons, List.map_take, List.map_drop]
  have z1 : (SetTable.insertAt es j (hK P w k, Value.ref x)).size = L.length + 1 := by rw [← Array.length_toList, rows1, List.length_map, l1]
  have tab1 : TabOk t1 (L1.map fun p => hK P w p.2) := by
   have e : L1.map (fun p => hK P w p.2) = (L.map fun p => hK P w p.2).take j ++ hK P w k :: (L.map fun p => hK P w p.2).drop j := by
    simp only [L1, List.map_append, List.map_cons, List.map_take, List.map_drop]
   rw [e]
   exact q3
  have nd1 : (L1.map (·.2)).Nodup := by
   refine (pm.map (·.2)).nodup_iff.mpr ?_
   rw [List.map_cons]
   exact List.nodup_cons.mpr ⟨hm, R.nd⟩
  have go : ∀ t2 : SetTable, t2.place = t1.place → t2.dummies = t1.dummies → t2.mask = t1.mask →
    wpAny Ych A (do
     storeSet a Y5 t2
     if !false && t2.tooFull then setRelay a (SetTable.grown (es.size + 1))
     return true) Q E s := fun t2 e1 e2 e3 => by
   refine wpAny_bind (wpAny_storeSet_of ho hd ?_ (by rw [z1, sizeLine_eq]; omega))
   have sb : Heap.SameBut a s.heap (s.heap.update a Ygx) := Heap.SameBut.update ..
   have tup1 : ∀ p ∈ L1, IsK P w (s.heap.update a Ygx) p.2 p.1 := fun p hp => by
    rcases List.mem_cons.mp (pm.mem_iff.mp hp) with rfl | hp
    ·exact isK_but hx ho hd sb
    ·exact isK_but (R.tup p hp) ho hd sb
   have fe : t2.fill = L.length + 1 := by
    have : t2.fill = t1.fill := by unfold SetTable.fill; rw [e1, e2]
    rw [this, q9, List.length_map]
   have tab2 : TabOk t2 (L1.map fun p => hK P w p.2) := ⟨by rw [e1]; exact tab1.ris, by rw [e2]; exact tab1.dm, by rw [e1]; exact tab1.sz, by rw [e3]; exact tab1.mok, by rw [e1, e3]; exact tab1.bd, by rw [e1, e3]; exact tab1.reach⟩
   have room := R.room
   by_cases hf : t2.tooFull = true
   ·have hfull : (L.length + 1) * 5 ≥ t.mask * 3 := by
     have h := hf
     unfold SetTable.tooFull at h
     rw [decide_eq_true_eq, fe, e3, q4] at h
     exact h
    have cases2 : (t.mask = 7 ∧ L.length = 4) ∨ (t.mask = 31 ∧ L.length = 18) := by
     rcases R.tab.mok with e | e | e
     ·left; rw [e] at hfull room; exact ⟨e, by omega⟩
     ·right; rw [e] at hfull room; exact ⟨e, by omega⟩
     ·exfalso; rw [e] at hfull; omega
    have sz : es.size = L.length := R.size
    have grow : ∀ M, SetTable.sizeAbove (SetTable.grown (L.length + 1)) - 1 = M → MaskOk M → SetTable.sizeAbove (SetTable.grown (L.length + 1)) ≤ 128 → (L.length + 1) * 5 < M * 3 →
      wpAny Ych A (setRelay a (SetTable.grown (L.length + 1))) (fun _ s' => wpAny Ych A (pure true) Q E s') E { s with heap := s.heap.update a Ygx } := fun M h1 h2 h3 h4 => by
     refine relayB (L := L1) (s := { s with heap := s.heap.update a Ygx }) (store_at ho hd) ⟨hex.1, hex.2.1, hex.2.2⟩ rfl rows1 (by rw [tab2.sz, List.length_map, l1, z1]) tab2.dm (by rw [z1, e3, q4]; rcases cases2 with ⟨e, e2⟩ | ⟨e, e2⟩ <;> omega) nd1 tup1 (by omega) h1 h2 h3 (by rw [l1]; exact h4) ?_
     intro h2 L2 es2 ep2 t2' sb2 R2 pm2
     exact wpAny_pure (hQ true h2 L2 es2 ep2 t2' (sb.trans sb2) R2 (fun z => absurd z hm) fun _ => pm2.trans pm)
    have fin : wpAny Ych A (setRelay a (SetTable.grown (es.size + 1))) (fun _ s' => wpAny Ych A (pure true) Q E s') E { s with heap := s.heap.update a Ygx } := by
     rw [sz]
     rcases cases2 with ⟨_, e2⟩ | ⟨_, e2⟩
     ·exact grow 31 (by rw [e2, size_20]) (.inr Ygm) (by rw [e2, size_20]; decide) Yb
     ·exact grow 127 (by rw [e2, size_76]) (.inr (.inr rfl)) (by rw [e2, size_76]; decide) Yb
    first
     | exact wpAny_bind (wp_if_pos (by simp [hf]) fin)
     | exact wp_if_pos (by simp [hf]) (wpAny_bind fin)
   ·have room1 : L1.length * 5 < t2.mask * 3 := by
     have h := hf
     unfold SetTable.tooFull at h
     rw [decide_eq_true_eq, fe] at h
     rw [l1]
     omega
    have done : ∀ b, Q b { s with heap := s.heap.update a Ygx } := fun b =>
     hQ b _ L1 _ (ep + 1) t2 sb ⟨⟨_, store_at ho hd, ⟨hex.1, hex.2.1, hex.2.2⟩, rfl⟩, rows1, tab2, nd1, tup1, room1, by rw [l1]; omega⟩ (fun z => absurd z hm) fun _ => pm
    first
     | exact wpAny_bind (wp_if_neg (by simp [hf]) (wpAny_pure (wpAny_pure (done true))))
     | exact wp_if_neg (by simp [hf]) (wpAny_pure (done true))
  by_cases pl : t1.plain = true
  ·have br : ∀ b : Bool, wpAny Ych A (do
     storeSet a Y5 (if b = true then t1 else { t1 with plain := false })
     if !false && (if b = true then t1 else { t1 with plain := false }).tooFull then setRelay a (SetTable.grown (es.size + 1))
     return true) Q E s := fun b => by
    cases b with
    | true => exact go t1 rfl rfl rfl
    | false => exact go { t1 with plain := false } rfl rfl rfl
   first
    | (refine wpAny_bind ?_; refine wp_if_pos pl ?_; refine plain_hash hx ?_; exact br)
    | (refine wp_if_pos pl (wpAny_bind (plain_hash hx ?_)); exact br)
  ·first
    | (refine wpAny_bind ?_; refine wp_if_neg pl ?_; refine wpAny_pure ?_; exact go t1 rfl rfl rfl)
    | (refine wp_if_neg pl ?_; refine wpAny_bind (wpAny_pure ?_); exact go t1 rfl rfl rfl)
    | (refine wp_if_neg pl ?_; exact go t1 rfl rfl rfl)
end
section
variable {X : Cx}
/-- the set behind the first i of the tuples ents -/
structure PhGr (P : Program) (w : World) (S n0 : Addr) (ents : List Ycf) (i : Nat) (h : Heap) : Prop where
 tup : ∀ e ∈ ents, IsK P w h e.2 e.1 ∧ e.1 < n0
 st : ∃ L es ep t, SetGr P w h S L es ep t ∧ (∀ p ∈ L, p ∈ ents) ∧ (∀ k, k ∈ L.map (·.2) ↔ k ∈ ze7 ((ents.map (·.2)).take i)) ∧ L.length = (ze7 ((ents.map (·.2)).take i)).length
def tLenSetGr (K : PySem.W.Frag) (ta : TE) : TE := fun σ H Q => ta σ H fun x H1 => ∃ (l : Addr) (es : List Ycf), x = .ref l ∧ SqL K H1 l ((es.map (·.1)).map V.ref) ∧ (∀ e ∈ es, SqT K H1 e.1 (e.2.map kV)) ∧ es.length ≤ 63 ∧ Q (.int (((ze7 (es.map (·.2))).length : Nat) : Int)) H1
theorem pe_lenSetGr {a : Expr} {ta : TE} {p p2 q pos : Pos} (hc : X.calm = true) (hu : X.A.units + 64 < cLine) (hg : Gl X "len") (hm : X.mg "len" = none) (hg2 : Gl X "set") (hm2 : X.mg "set" = none) (ha : PE X a ta)
  (na : starEach [a] X.env = (false, eval a X.env) :: starEach [] X.env := by rfl) : PE X Ybm (tLenSetGr X.K ta) := ⟨fun pins s σ H Q I h => by
 refine Call_ (ld_blt I hg hm boot_len (callWith_builtin1 (args_cons (Call_ (ld_blt I hg2 hm2 boot_set (callWith_type1 (args_cons (thn (ha.run pins s σ H _ I h) ?_) na) na rfl))) rfl) rfl rfl))
 rintro v s1 ⟨x, H1, I1, r1, l, es, rfl, hq, ht, hz, q1⟩
 cases r1
 obtain ⟨its, rv, pl, _⟩ := I1.list hq
 have ei := refs_at rv
 subst ei
 have tp : ∀ e ∈ es, IsK X.prog X.w s1.heap e.2 e.1 ∧ e.1 < s1.heap.objs.size := fun e he => by
  obtain ⟨us, ru, tu, _⟩ := I1.tuple (ht e he)
  obtain ⟨o, g, c, n, d⟩ := tu
  exact ⟨⟨o, us.toArray, n, g, c, d, by simpa using items_are ru⟩, Heap.lt_size g⟩
 have hn : ((es.map (·.1)).map Value.ref).toArray.size = es.length := by simp
 refine args_nil (call_setL (items := ((es.map (·.1)).map Value.ref).toArray) (I1.ok.hd hc) pl.isList (PhGr X.prog X.w s1.heap.objs.size s1.heap.objs.size es) ?_ ?_ ?_ ?_)
 ·intro led h g k
  refine ⟨fun e he => ?_, [], #[], 0, _, ⟨⟨_, g, ⟨rfl, rfl, rfl⟩, rfl⟩, rfl, ⟨List.Pairwise.nil, rfl, rfl, .inl rfl, fun x hx => (by cases hx), fun i h j hi => (by simp at hi)⟩, List.nodup_nil, fun p hp => (by cases hp), by show 0 * 5 < 7 * 3; decide, by show 0 < 64; decide⟩, fun p hp => (by cases hp), fun k => by simp [ze7], by simp [ze7]⟩
  obtain ⟨⟨o, us, n, g1, c, d, it⟩, lt⟩ := tp e he
  exact ⟨⟨o, us, n, k _ _ g1, c, d, it⟩, lt⟩
 ·rintro i h h' ⟨tup, L, e1, ep, t, R, sub, mem, len⟩ k
  have keep : ∀ e ∈ es, IsK X.prog X.w h' e.2 e.1 := fun e he => by
   obtain ⟨⟨o, us, n, g1, c, d, it⟩, lt⟩ := tup e he
   exact ⟨o, us, n, k _ _ (Nat.ne_of_lt (Nat.lt_succ_of_lt lt)) g1, c, d, it⟩
  obtain ⟨o, ho, r⟩ := R.ob
  exact ⟨fun e he => ⟨keep e he, (tup e he).2⟩, L, e1, ep, t, ⟨⟨o, k _ _ (Nat.ne_of_lt Yhv) ho, r⟩, R.rows, R.tab, R.nd, fun p hp => keep p (sub p hp), R.room, R.few⟩, sub, mem, len⟩
 ·intro A' i v s2 Q2 E2 hA hAu hv ph k
  have hi : i < es.length := by
   have := (Array.getElem?_eq_some_iff.mp hv).1
   rwa [hn] at this
  obtain ⟨tup, L, e1, ep, t, R, sub, mem, len⟩ := ph
  have ev : v = .ref es[i].1 := by
   have e3 : ((es.map (·.1)).map Value.ref)[i]? = some v := by simpa using hv
   rw [List.getElem?_map, List.getElem?_map, List.getElem?_eq_getElem hi] at e3
   exact (Option.some.inj e3).symm
  subst ev
  have me : es[i] ∈ es := List.getElem_mem hi
  have tk : (es.map (·.2)).take (i + 1) = (es.map (·.2)).take i ++ [es[i].2] := by
   rw [List.take_succ, List.getElem?_map, List.getElem?_eq_getElem hi]
   rfl
  have fw : L.length + 1 < 64 := by
   have h1 := onceT_le ((es.map (·.2)).take i) []
   have h2 : ((es.map (·.2)).take i).length ≤ i := by rw [List.length_take]; omega
   rw [len]
   simp only [List.length_nil] at h1
   unfold ze7
   omega
  have hu' : A'.units < cLine := by omega
  unfold setAdd
  refine wpAny_holding (wpAny_bind (wpAny_pyHash_tuple (knd := mixKind X.prog X.w) hu' (tup _ me).1 ?_))
  refine addGr_in (s := { s2 with toks := s2.toks + (es[i].2.length + 1) }) (L := L) R (tup _ me).1 hu' fw fun b h' L' es' ep' t' sb R' same more => ?_
  have keep : ∀ e ∈ es, IsK X.prog X.w h' e.2 e.1 := fun e he => by
   obtain ⟨o, ho, _, hd⟩ := R.ob
   exact isK_but (tup e he).1 ho hd sb
  refine k b h' _ sb (Nat.le_add_right _ _) ⟨fun e he => ⟨keep e he, (tup e he).2⟩, L', es', ep', t', R', ?_⟩
  by_cases hm : es[i].2 ∈ L.map (·.2)
  ·have eL := same hm
   subst eL
   have hm2 := (mem _).mp hm
   rw [tk, onceT_snoc, if_pos (memT_iff.mpr hm2)]
   exact ⟨sub, mem, len⟩
  ·have pm := more hm
   have hm2 : ¬ es[i].2 ∈ ze7 ((es.map (·.2)).take i) := fun z => hm ((mem _).mpr z)
   rw [tk, onceT_snoc, if_neg fun z => hm2 (memT_iff.mp z)]
   refine ⟨fun p hp => ?_, fun kk => ?_, by rw [pm.length_eq, List.length_cons, len, List.length_append]; rfl⟩
   ·rcases List.mem_cons.mp (pm.mem_iff.mp hp) with rfl | hp
    ·exact me
    ·exact sub p hp
   ·rw [(pm.map (·.2)).mem_iff, List.map_cons, List.mem_cons, List.mem_append, List.mem_singleton, mem]
    exact Or.comm
 ·intro h' tk ph k
  have I2 : Inv X pins σ H1 { s1 with heap := h', toks := tk } := I1.kept k
  obtain ⟨_, L, e1, ep, t, R, _, _, len⟩ := ph
  obtain ⟨o, ho, hex, hd⟩ := R.ob
  have sz := SetGr.size (s := { s1 with heap := h', toks := tk }) R
  have fw := R.few
  rw [hn] at len
  rw [List.take_of_length_le Y4] at len
  exact args_nil (call_len_set ho hex hd (SetGr.fits (s := { s1 with heap := h', toks := tk }) R) Yb ⟨.int (((ze7 (es.map (·.2))).length : Nat) : Int), H1, I2.tok _, ⟨_, by rw [sz, len]⟩, q1⟩)⟩
end
/-- len(set(tuples)) -/
def mLenSetGr (F : M W) : M W := fun eta hp => (F eta hp).bind fun w h => match w with
 | .t (.lst ts) => match tupsT ts with
  | some ks => if ks.length ≤ 63 then .ok (.t (.int (((ze7 ks).length : Nat) : Int))) h else .bad
  | none => .bad
 | _ => .bad
section
variable {X : Cx} {Wx : WX} {a : Expr} {F : M W} {p p2 q pos : Pos}
theorem ie_lenSetGr (hc : X.calm = true) (hu : X.A.units + 64 < cLine) (hm : X.mg "len" = none) (hm2 : X.mg "set" = none) (ha : IE X Wx a F) (hg : Gl X "len" := by rfl) (hg2 : Gl X "set" := by rfl)
  (na : starEach [a] X.env = (false, eval a X.env) :: starEach [] X.env := by rfl) : IE X Wx Ybm (mLenSetGr F) :=
 PE.imp (pe_lenSetGr hc hu hg hm hg2 hm2 ha na) fun σ H Q h =>
  tM.bind1 (R := fun (x : V) (H1 : Hp) => ∃ (l : Addr) (es : List Ycf), x = .ref l ∧ SqL X.K H1 l ((es.map fun e : Addr × List Key => e.1).map V.ref) ∧ (∀ e ∈ es, SqT X.K H1 e.1 (e.2.map kV)) ∧ es.length ≤ 63 ∧ Q (.int (((ze7 (es.map fun e : Addr × List Key => e.2)).length : Nat) : Int)) H1)
   (k := fun (w : W) _ h => match w with | .t (.lst ts) => (match tupsT ts with | some ks => (if ks.length ≤ 63 then .ok (.t (.int (((ze7 ks).length : Nat) : Int))) h else .bad : Res W) | none => .bad) | _ => .bad) h fun s eta w v R1 S1 f1 g => by
   split at g
   ·rename_i ts
    split at g
    ·rename_i ks hk
     split at g
     ·rename_i hz
      simp only [Rw, Rf] at f1
      obtain ⟨b, vs, rfl, fl, l⟩ := f1
      obtain ⟨es, e1, e2, e3⟩ := tups_rf hk l
      subst e1
      refine ⟨b, es, rfl, .inl (.inl fl.2), e3, ?_, ?_⟩
      ·rw [← e2, List.length_map] at hz
       exact hz
      ·rw [e2]
       exact g _ s rfl Ym R1 Yl
     ·exact g.elim
    ·exact g.elim
   ·exact g.elim
end
end Mir
namespace Mir
open PySem PySem.Spec L2
open PyProof.Rows hiding St
/-- the run ends well, with a value and a heap of which Q holds -/
structure Wp {A : Type} (r : Res A) (Q : A → IH → Prop) : Prop where
 out : match r with
  | .ok a h => Q a h
  | _ => False
section
variable {A B : Type} {r : Res A} {k : A → IH → Res B} {P Q : A → IH → Prop} {R : B → IH → Prop} {a : A} {h hp : IH}
theorem Wp.ok (q : Q a h) : Wp (.ok a h) Q := ⟨q⟩
theorem Wp.ex (q : Wp r Q) : ∃ a h, r = .ok a h ∧ Q a h := by
 obtain ⟨q⟩ := q
 cases r <;> first | exact ⟨_, _, rfl, q⟩ | exact q.elim
theorem Wp.bind (q : Wp r fun a h => Wp (k a h) R) : Wp (r.bind k) R := by
 obtain ⟨a, h, rfl, q2⟩ := q.ex
 exact q2
theorem Wp.noEr (q : Wp r Q) : Wp (noEr r) Q := by
 obtain ⟨a, h, rfl, q2⟩ := q.ex
 exact Wp.ok q2
theorem Wp.mono (q : Wp r P) (i : ∀ a h, P a h → Q a h) : Wp r Q := by
 obtain ⟨a, h, rfl, q2⟩ := q.ex
 exact Wp.ok (i _ _ q2)
theorem Wp.of (e : r = .ok a h) (q : Q a h) : Wp r Q := by rw [e]; exact Wp.ok q
theorem Wp.rw {r' : Res A} (e : r = r') (q : Wp r' Q) : Wp r Q := by rw [e]; exact q
theorem Wp.ite {c : Prop} [Decidable c] {x y : Res A} (t : c → Wp x Q) (f : ¬ c → Wp y Q) : Wp (if c then x else y) Q := by
 split
 ·exact t ‹_›
 ·exact f ‹_›
theorem Wp.itt {c : Prop} [Decidable c] {x y : Res A} (hc : c) (t : Wp x Q) : Wp (if c then x else y) Q := by rw [if_pos hc]; exact t
theorem Wp.itf {c : Prop} [Decidable c] {x y : Res A} (hc : ¬ c) (t : Wp y Q) : Wp (if c then x else y) Q := by rw [if_neg hc]; exact t
end
section
variable {eta : IS} {hp : IH} {Q : W → IH → Prop} {QL : List W → IH → Prop} {QB : Bool → IH → Prop} {QF : Fl → IH → Prop}
theorem za1 {i : Nat} {w : W} (e : eta[i]? = some (some w)) (q : Q w hp) : Wp (mVar i eta hp) Q := Wp.of (varP e) q
theorem vc_c {x : T} (q : Q (.t x) hp) : Wp (mC x eta hp) Q := Wp.ok q
theorem vc_bin {f : Op2} {Fa Fb : M W} (q : Wp Yii fun a h1 => Wp (Fb eta h1) fun b h2 => Wp (f a b h2) Q) : Wp (mBin f Fa Fb eta hp) Q := Wp.bind (q.mono fun _ _ q => Wp.bind q)
theorem vc_un {f : Op1} {Fa : M W} (q : Wp Yii fun a h1 => Wp (f a h1) Q) : Wp (mUn f Fa eta hp) Q := Wp.bind q
theorem zbb (q : QL [] hp) : Wp (mNil eta hp) QL := Wp.ok q
theorem zak {Fa : M W} {Fr : M (List W)} (q : Wp Yii fun a h1 => Wp (Fr eta h1) fun r h2 => QL (a :: r) h2) : Wp (zab Fa Fr eta hp) QL := Wp.bind (q.mono fun _ _ q => Wp.bind Yem)
theorem zct {f : OpN} {Fs : M (List W)} (q : Wp (Fs eta hp) fun ws h1 => Wp (f ws h1) Q) : Wp (mApp f Fs eta hp) Q := Wp.bind q
theorem vc_test {f : W → IH → Res Bool} {F : M W} (q : Wp Yfj fun a h1 => Wp (f a h1) QB) : Wp (zae f F eta hp) QB := Wp.bind q
theorem vc_asB {b : Bool} (q : QB b hp) : Wp (asB Ygc hp) QB := Wp.ok q
theorem vc_and {U V : M Bool} (q : Wp (U eta hp) fun a h1 => Wp (if a then V eta h1 else .ok false h1) QB) : Wp (mAnd U V eta hp) QB := Wp.bind q
theorem vc_or {U V : M Bool} (q : Wp (U eta hp) fun a h1 => Wp (if a then .ok true h1 else V eta h1) QB) : Wp (mOr U V eta hp) QB := Wp.bind q
theorem vc_not {U : M Bool} (q : Wp (U eta hp) fun a h1 => QB (!a) h1) : Wp (mNot U eta hp) QB := Wp.bind Yem
theorem vc_if {A : Type} {QA : A → IH → Prop} {U : M Bool} {F G : M A} (q : Wp (U eta hp) fun b h1 => Wp (if b then F eta h1 else G eta h1) QA) : Wp (mIf U F G eta hp) QA := Wp.bind q
theorem za3 (q : QF Yeq hp) : Wp (zbh eta hp) QF := Wp.ok q
theorem zam {S R : M Fl} (q : Wp (S eta hp) fun fl h1 => Wp (thenF R fl h1) QF) : Wp (mSeq S R eta hp) QF := Wp.bind q
theorem zax {R : M Fl} {e : IS} (q : Wp (R e hp) QF) : Wp (thenF R (.nx e) hp) QF := q
theorem zd7 {R : M Fl} {w : W} (q : QF (.rt w) hp) : Wp (thenF R (.rt w) hp) QF := Wp.ok q
theorem zay {F : M W} (q : Wp Yfj fun a h1 => QF (.rt a) h1) : Wp (mRet F eta hp) QF := Wp.bind Yem
theorem vc_drop {F : M W} (q : Wp Yfj fun _ h1 => QF Yeq h1) : Wp (mDrop F eta hp) QF := Wp.bind Yem
theorem zbi {i : Nat} {F : M W} (q : Wp Yfj fun a h1 => QF (.nx Yfu) h1) : Wp (mSet i F eta hp) QF := Wp.bind Yem
theorem vc_asg {F : M W} {G : W → IS → Option IS} (q : Wp Yfj fun a h1 => ∃ e, G a eta = some e ∧ QF (.nx e) h1) : Wp (mAsg F G eta hp) QF := Wp.bind (q.mono fun a h1 ⟨e, he, q⟩ => by show Wp (match G a eta with | some e => .ok (.nx e) h1 | none => .bad) QF; rw [he]; exact Wp.ok q)
theorem vc_par2 {i j : Nat} {Fs : M (List W)} (q : Wp (Fs eta hp) fun ws h1 => ∃ a b, ws = [a, b] ∧ QF (.nx ((eta.set i (some a)).set j (some b))) h1) : Wp (mPar [i, j] Fs eta hp) QF := Wp.bind (q.mono fun ws h1 ⟨a, b, he, q⟩ => by subst he; exact Wp.ok q)
theorem vc_parG {n : Nat} {Fs : M (List W)} {Gs : List W → IS → Option IS} (q : Wp (Fs eta hp) fun ws h1 => (ws.length = n ∧ n ≤ 16777216) ∧ ∃ e, Gs ws eta = some e ∧ QF (.nx e) h1) : Wp (mParG n Fs Gs eta hp) QF := Wp.bind (q.mono fun ws h1 ⟨hl, e, he, q⟩ => by
 show Wp (if ws.length = n ∧ n ≤ 16777216 then (match Gs ws eta with | some e => .ok (.nx e) h1 | none => .bad) else .bad) QF
 rw [if_pos hl, he]
 exact Wp.ok q)
theorem vc_for {Fi : M (List W)} {G : W → IS → Option IS} {S : M Fl} (q : Wp (Fi eta hp) fun ws h1 => Wp (forL G S ws eta h1) QF) : Wp (mFor Fi G S eta hp) QF := Wp.bind q
theorem vc_sq {F : M W} (q : Wp Yfj fun a h1 => Wp (sqI a h1) QL) : Wp (mSq F eta hp) QL := Wp.bind q
theorem vc_src {f : List W → IH → Res (List W)} {Fs : M (List W)} (q : Wp (Fs eta hp) fun ws h1 => Wp (f ws h1) QL) : Wp (mSrc f Fs eta hp) QL := Wp.bind q
theorem zfk {f : OpN} {Fs : M (List W)} (q : Wp (Fs eta hp) fun ws h1 => Wp (f ws h1) Q) : Wp (zaq f [] Fs eta hp) Q := Wp.bind (q.mono fun ws h1 q => by
 show Wp (noEr (f (ws ++ [].map W.t) h1)) Q
 rw [List.map_nil, List.append_nil]
 exact Wp.noEr q)
theorem vc_callD {f : OpN} {ds : List T} {Fs : M (List W)} (q : Wp (Fs eta hp) fun ws h1 => Wp (f (ws ++ ds.map W.t) h1) Q) : Wp (zaq f ds Fs eta hp) Q := Wp.bind (q.mono fun ws h1 q => Wp.noEr q)
theorem vc_meth {ty : W → IH → Bool} {f : OpM} {Fo : M W} {Fs : M (List W)} (q : Wp (Fo eta hp) fun w h1 => ty w h1 = true ∧ Wp (Fs eta h1) fun ws h2 => Wp (f w ws h2) Q) : Wp (zfd ty f Fo Fs eta hp) Q := Wp.bind (q.mono fun w h1 ⟨t, q⟩ => by
 show Wp (if ty w h1 = true then (Fs eta h1).bind fun ws h2 => f w ws h2 else .bad) Q
 rw [if_pos t]
 exact Wp.bind q)
theorem vc_sl {Fa : M W} {Fl Fh : MO} (q : Wp Yii fun a h1 => Wp (Fl eta h1) fun l h2 => Wp (Fh eta h2) fun h h3 => Wp (slW a l h h3) Q) : Wp (mSl Fa Fl Fh eta hp) Q := Wp.bind Yjb
theorem vc_slL {Fa : M W} {Fl Fh : MO} (q : Wp Yii fun a h1 => Wp (Fl eta h1) fun l h2 => Wp (Fh eta h2) fun h h3 => Wp (slL a l h h3) Q) : Wp (mSlL Fa Fl Fh eta hp) Q := Wp.bind Yjb
theorem zci {QO : Option Int → IH → Prop} (q : QO none hp) : Wp (zat eta hp) QO := Wp.ok q
theorem zeg {QO : Option Int → IH → Prop} {F : M W} (q : Wp Yfj fun a h1 => ∃ i, a = .t (.int i) ∧ QO (some i) h1) : Wp (zbt F eta hp) QO := Wp.bind (q.mono fun a h1 ⟨i, e, q⟩ => by subst e; exact Wp.ok q)
theorem vc_fz {i : Nat} {S : M Fl} {w : W} (e : eta[i]? = some (some w)) (q : Wp (zc9 w hp) fun w' h1 => Wp (S (eta.set i (some w')) h1) QF) : Wp (mFz i S eta hp) QF := by
 rw [p_fz, e]
 exact Wp.bind q
theorem zeu {fin : OpN} {Fi : M (List W)} {G : W → IS → Option IS} {U : M Bool} {E : M W} {vs : List Nat} (q : Wp (Fi eta hp) fun ws h1 => ws.length ≤ 16777216 ∧ Wp (zdt G U E (wipeI eta vs) ws h1) fun r h2 => Wp (fin r h2) Q) : Wp (zbq fin Fi G U E vs eta hp) Q := Wp.bind (q.mono fun ws h1 ⟨hl, q⟩ => by
 show Wp (if ws.length ≤ 16777216 then (zdt G U E (wipeI eta vs) ws h1).bind fun r h2 => fin r h2 else .bad) Q
 rw [if_pos hl]
 exact Wp.bind q)
theorem vc_chain {f g : Op2} {Fa Fb Fc : M W} (q : Wp Yii fun a h1 => Wp (Fb eta h1) fun b h2 => Wp (f a b h2) fun z h3 => ∃ t, z = .t (.bl t) ∧ if t then Wp (Fc eta h3) fun c h4 => Wp (g b c h4) Q else Q (.t Ycd) h3) : Wp (mChain f g Fa Fb Fc eta hp) Q :=
 Wp.bind (q.mono fun _ _ q => Wp.bind (q.mono fun _ _ q => Wp.bind (q.mono fun z h3 ⟨t, e, q⟩ => by subst e; cases t <;> first | exact Wp.ok q | exact Wp.bind q)))
theorem vc_fld {cs : List Str} {f : Str} {F : M W} (q : Wp Yfj fun a h1 => Wp (fldW cs f a h1) Q) : Wp (mFld cs f F eta hp) Q := Wp.bind q
theorem vc_yes (q : QB true hp) : Wp (mYes eta hp) QB := Wp.ok q
theorem vc_newL {ws : List W} (hl : ws.length ≤ 16777216) (q : Q Ydc Yiq) : Wp (newL ws hp) Q := by
 unfold newL
 rw [if_pos hl]
 exact Wp.ok q
theorem vc_lstE {ws : List W} {ts : List T} (e : allT ws = some ts) (hl : ts.length ≤ 16777216) (q : Q Yad hp) : Wp (zas ws hp) Q := by
 unfold zas
 simp only [e, hl, if_true]
 exact Wp.ok q
theorem zew {ws : List W} {ts : List T} (e : allT ws = some ts) (hl : ts.length ≤ 16777216) (q : Q Yaq hp) : Wp (za2 ws hp) Q := by
 unfold za2
 simp only [e, hl, if_true]
 exact Wp.ok q
theorem allT_ts : ∀ ts : List T, allT Yr = some ts
 | [] => rfl
 | t :: ts => by simp only [List.map_cons, allT, allT_ts ts]; rfl
theorem zd8 {ts : List T} (hl : ts.length ≤ 16777216) (q : Q Yad hp) : Wp (zas Yr hp) Q := vc_lstE (allT_ts ts) hl q
theorem vc_sqL {ts : List T} (q : QL Yr hp) : Wp (sqI Yad hp) QL := Wp.ok q
theorem vc_sqT {ts : List T} (q : QL Yr hp) : Wp (sqI Yaq hp) QL := Wp.ok q
theorem vc_slWl {ts : List T} {lo hi : Option Int} (q : Q (.t (.lst Yg6)) hp) : Wp (slW Yad lo hi hp) Q := Wp.ok q
theorem vc_slWt {ts : List T} {lo hi : Option Int} (q : Q (.t (.tup Yg6)) hp) : Wp (slW Yaq lo hi hp) Q := Wp.ok q
theorem vc_slLl {ts : List T} {lo hi : Option Int} (q : Q Ydc (hp ++ [some (.lst (cutL Yr lo hi))])) : Wp (slL Yad lo hi hp) Q := Wp.ok q
/-- + of lists, live or not -/
theorem vc_addL {a b : W} {xs ys : List T} (ha : (hitems hp a) = some Yip) (hb : (hitems hp b) = some (ys.map W.t)) (hl : xs.length + ys.length ≤ 16777216) (q : Q Yjf hp) : Wp (wAdd a b hp) Q := by
 have key : wAdd a b hp = (match (hitems hp a).bind allT, (hitems hp b).bind allT with
  | some xs, some ys => if xs.length + ys.length ≤ 16777216 then .ok Yjf hp else .bad
  | _, _ => .bad) := by
  cases a with
  | t x => cases x <;> first | rfl | (simp [hitems] at ha)
  | r i => rfl
 rw [key, ha, hb, Option.bind_some, Option.bind_some, allT_ts, allT_ts]
 simp only [hl, if_true]
 exact Wp.ok q
theorem vc_sm {f : OpM} {Fo Fe : M W} (q : Wp (Fo eta hp) fun w h1 => ∃ a, w = .t (.str a) ∧ Wp (Fe eta h1) fun u h2 => Wp (f Yex [u] h2) Q) : Wp (mSM f Fo Fe eta hp) Q := Wp.bind (q.mono fun w h1 ⟨a, e, q⟩ => by subst e; exact Wp.bind q)
theorem vc_frz {F : M W} (q : Wp Yfj fun a h1 => Wp (zc9 a h1) Q) : Wp (mFrz F eta hp) Q := Wp.bind q
theorem vc_frzD {F : M W} (q : Wp Yfj fun a h1 => Wp (freezeD a h1) Q) : Wp (mFrzD F eta hp) Q := Wp.bind q
/-- a comprehension that changes no heap: each is kept or not, and told -/
theorem vc_mapG {A : Type} {G : W → IS → Option IS} {U : M Bool} {E : M W} {src : A → W} {p : A → Bool} {g : A → T} : ∀ (as : List A), (∀ a ∈ as, ∃ e1, G (src a) eta = some e1 ∧ U e1 hp = .ok (p a) hp ∧ (p a = true → E e1 hp = .ok (.t (g a)) hp)) → zdt G U E eta (as.map src) hp = .ok (((as.filter p).map g).map W.t) hp
 | [], _ => rfl
 | a :: as, h => by
  obtain ⟨e1, g1, u1, x1⟩ := h a Yj
  have ih := vc_mapG as fun b hb => h b Yg8
  simp only [List.map_cons, zdt, turnL, g1, noEr_bind, Res.bind_assoc, u1, zc3, zaf, List.filter_cons]
  cases e : p a with
  | false => simp only [Bool.false_eq_true, if_false, zc3, zaf, ih]
  | true => simp only [if_true, x1 e, zc3, zaf, ih, List.map_cons]
theorem filter_tt {A : Type} : ∀ l : List A, l.filter (fun _ => true) = l := fun l => List.filter_eq_self.mpr fun _ _ => rfl
theorem vc_mapA {A : Type} {G : W → IS → Option IS} {E : M W} {src : A → W} {g : A → T} (as : List A) (h : ∀ a ∈ as, ∃ e1, G (src a) eta = some e1 ∧ E e1 hp = .ok (.t (g a)) hp) (q : QL ((as.map g).map W.t) hp) : Wp (zdt G mYes E eta (as.map src) hp) QL := by
 have := vc_mapG (U := mYes) (p := fun _ => true) as fun a ha => let ⟨e1, a1, a2⟩ := h a ha; ⟨e1, a1, rfl, fun _ => a2⟩
 rw [filter_tt] at this
 exact Wp.of this q
theorem vc_fnM {n nn : Nat} {B : M Fl} {ws : List W} {eta : IS} (hl : ws.length = n) (he : ws.map some ++ List.replicate (nn - n) none = eta) (q : Wp (B eta hp) fun fl h1 => ∃ w, fl = .rt w ∧ Q w h1) : Wp (fnM n nn B ws hp) Q := by
 obtain ⟨fl, h1, e, w, rfl, q⟩ := q.ex
 exact Wp.of (fnM_ok hl he e) q
theorem zdc {n nn : Nat} {B : M Fl} {ts : List T} {eta : IS} (hl : ts.length = n) (he : (ts.map W.t).map some ++ List.replicate (nn - n) none = eta) (q : Wp (B eta []) fun fl _ => ∃ t, fl = .rt (.t t) ∧ Q (.t t) hp) : Wp (fnP n nn B Yr hp) Q := by
 obtain ⟨fl, h1, e, t, rfl, q⟩ := q.ex
 exact Wp.of (fnP_ok hl he e) q
/-- a loop: I holds ahead of each turn, of what is still to come -/
theorem vc_loop {G : W → IS → Option IS} {S : M Fl} (I : List W → IS → IH → Prop) (turn : ∀ w ws eta hp, I (w :: ws) eta hp → ∃ e1, G w eta = some e1 ∧ Wp (S e1 hp) fun fl h => ∃ e, fl = .nx e ∧ I ws e h) : ∀ (ws : List W) (eta : IS) (hp : IH), I ws eta hp → (∀ e h, I [] e h → QF (.nx e) h) → Wp (forL G S ws eta hp) QF
 | [], eta, hp, i, q => Wp.ok (q _ _ i)
 | w :: ws, eta, hp, i, q => by
  obtain ⟨e1, g, t⟩ := turn w ws eta hp i
  obtain ⟨fl, h, e, e2, rfl, i2⟩ := t.ex
  have r := vc_loop I turn ws e2 h i2 q
  simp only [forL, g]
  rw [e, zaf]
  exact r
/-- a loop that may return -/
theorem vc_loopR {G : W → IS → Option IS} {S : M Fl} (I : List W → IS → IH → Prop) (R : W → IH → Prop) (turn : ∀ w ws eta hp, I (w :: ws) eta hp → ∃ e1, G w eta = some e1 ∧ Wp (S e1 hp) fun fl h => (∃ e, fl = .nx e ∧ I ws e h) ∨ ∃ x, fl = .rt x ∧ R x h) : ∀ (ws : List W) (eta : IS) (hp : IH), I ws eta hp → (∀ e h, I [] e h → QF (.nx e) h) → (∀ x h, R x h → QF (.rt x) h) → Wp (forL G S ws eta hp) QF
 | [], eta, hp, i, q, _ => Wp.ok (q _ _ i)
 | w :: ws, eta, hp, i, q, qr => by
  obtain ⟨e1, g, t⟩ := turn w ws eta hp i
  obtain ⟨fl, h, e, t⟩ := t.ex
  simp only [forL, g]
  rw [e, zaf]
  rcases t with ⟨e2, rfl, i2⟩ | ⟨x, rfl, r⟩
  ·exact vc_loopR I R turn ws e2 h i2 q qr
  ·exact Wp.ok (qr x h r)
/-- a comprehension: acc is what has been gathered -/
theorem vc_compL {G : W → IS → Option IS} {U : M Bool} {E : M W} (I : List W → List W → IH → Prop) (turn : ∀ w ws acc hp, I (w :: ws) acc hp → ∃ e1, G w eta = some e1 ∧ Wp (U e1 hp) fun b h1 => if b then Wp (E e1 h1) fun x h2 => I ws (acc ++ [x]) h2 else I ws acc h1) : ∀ (ws acc : List W) (hp : IH) (QL : List W → IH → Prop), I ws acc hp → (∀ r h, I [] (acc ++ r) h → QL r h) → Wp (zdt G U E eta ws hp) QL
 | [], acc, hp, QL, i, q => Wp.ok (q [] _ (by rw [List.append_nil]; exact i))
 | w :: ws, acc, hp, QL, i, q => by
  obtain ⟨e1, g, t⟩ := turn w ws acc hp i
  obtain ⟨b, h1, eb, t⟩ := t.ex
  simp only [zdt, turnL, g, noEr_bind, Res.bind_assoc, eb, zc3, zaf]
  cases b with
  | false =>
   have := vc_compL I turn ws acc h1 QL (by simpa using t) q
   simp only [Bool.false_eq_true, if_false, zc3, zaf]
   exact Wp.bind (this.mono fun _ _ q => Wp.ok q)
  | true =>
   simp only [if_true] at t ⊢
   obtain ⟨x, h2, ex, i2⟩ := t.ex
   have := vc_compL I turn ws (acc ++ [x]) h2 (fun r h => QL (x :: r) h) i2 fun r h i => q (x :: r) h (by rw [List.append_assoc] at i; exact i)
   simp only [ex, zc3, zaf]
   exact Wp.bind (this.mono fun _ _ q => Wp.ok q)
end
end Mir
namespace Mir
open PySem PySem.Spec L2
open PyProof.Rows hiding St
/-- the run ends well (then Q) or with an error (then E) -/
structure Wq {A : Type} (r : Res A) (Q : A → IH → Prop) (E : Ex → IS → IH → Prop) : Prop where
 out : match r with
  | .ok a h => Q a h
  | .er e eta h => E e eta h
  | .bad => False
section
variable {A B : Type} {r : Res A} {k : A → IH → Res B} {P Q : A → IH → Prop} {R : B → IH → Prop} {a : A} {h hp : IH} {E E' : Ex → IS → IH → Prop} {e : Ex} {eta : IS}
theorem Wq.ok (q : Q a h) : Wq (.ok a h) Q E := ⟨q⟩
theorem Wq.er (q : E e eta h) : Wq (.er e eta h : Res A) Q E := ⟨q⟩
theorem Wq.of (q : Wp r Q) : Wq r Q E := by
 obtain ⟨a, h, rfl, q'⟩ := q.ex
 exact Wq.ok q'
theorem Wq.eqOk (e : r = .ok a h) (q : Q a h) : Wq r Q E := by rw [e]; exact Wq.ok q
theorem Wq.eqEr (x : r = .er e eta h) (q : E e eta h) : Wq r Q E := by rw [x]; exact Wq.er q
theorem Wq.cases (q : Wq r Q E) : (∃ a h, r = .ok a h ∧ Q a h) ∨ ∃ e eta h, r = .er e eta h ∧ E e eta h := by
 obtain ⟨q⟩ := q
 cases r with
 | ok a h => exact .inl ⟨a, h, rfl, q⟩
 | er e eta h => exact .inr ⟨e, eta, h, rfl, q⟩
 | bad => exact q.elim
theorem Wq.mono (q : Wq r P E) (i : ∀ a h, P a h → Q a h) (j : ∀ e eta h, E e eta h → E' e eta h) : Wq r Q E' := by
 rcases q.cases with ⟨a, h, rfl, q'⟩ | ⟨e, eta, h, rfl, q'⟩
 ·exact Wq.ok (i _ _ q')
 ·exact Wq.er (j _ _ _ q')
theorem Wq.bind (q : Wq r (fun a h => Wq (k a h) R E) E) : Wq (r.bind k) R E := by
 rcases q.cases with ⟨a, h, rfl, q'⟩ | ⟨e, eta, h, rfl, q'⟩
 ·exact q'
 ·exact Wq.er q'
/-- nothing is raised -/
theorem Wq.wp (q : Wq r Q fun _ _ _ => False) : Wp r Q := by
 rcases q.cases with ⟨a, h, rfl, q'⟩ | ⟨e, eta, h, rfl, q'⟩
 ·exact Wp.ok q'
 ·exact q'.elim
theorem Wq.re (q : Wq r Q fun e _ h => E e eta h) : Wq (reEr eta r) Q E := by
 rcases q.cases with ⟨a, h, rfl, q'⟩ | ⟨e, eta, h, rfl, q'⟩
 ·exact Wq.ok q'
 ·exact Wq.er q'
end
section
variable {eta : IS} {hp : IH} {Q : W → IH → Prop} {QL : List W → IH → Prop} {QB : Bool → IH → Prop} {QF : Fl → IH → Prop} {E : Ex → IS → IH → Prop}
theorem wq_seq {S R : M Fl} (q : Wq (S eta hp) (fun fl h1 => Wq (thenF R fl h1) QF E) E) : Wq (mSeq S R eta hp) QF E := Wq.bind q
theorem wq_nx {R : M Fl} {e : IS} (q : Wq (R e hp) QF E) : Wq (thenF R (.nx e) hp) QF E := q
theorem wq_set {i : Nat} {F : M W} (q : Wq Yfj (fun a h1 => QF (.nx Yfu) h1) E) : Wq (mSet i F eta hp) QF E := Wq.bind Yfo
theorem wq_ret {F : M W} (q : Wq Yfj (fun a h1 => QF (.rt a) h1) E) : Wq (mRet F eta hp) QF E := Wq.bind Yfo
theorem wq_if {A : Type} {QA : A → IH → Prop} {U : M Bool} {F G : M A} {b : Bool} {h1 : IH} (u : U eta hp = .ok b h1) (t : b = true → Wq (F eta h1) QA E) (f : b = false → Wq (G eta h1) QA E) : Wq (mIf U F G eta hp) QA E := by
 show Wq ((U eta hp).bind _) QA E
 rw [u]
 cases b with
 | true => exact t rfl
 | false => exact f rfl
theorem wq_raise {c f : Str} {Fs : M (List W)} {w : W} {h1 : IH} (u : Fs eta hp = .ok [w] h1) (q : E ⟨c, [(f, w)]⟩ eta h1) : Wq (mRaise (mExc c f Fs) eta hp) QF E := by
 show Wq (((Fs eta hp).bind _).bind _) QF E
 rw [u]
 exact Wq.er q
theorem wq_app {f : OpN} {Fs : M (List W)} (q : Wq (Fs eta hp) (fun ws h1 => Wq (f ws h1) Q E) E) : Wq (mApp f Fs eta hp) Q E := Wq.bind q
theorem wq_cons {Fa : M W} {Fr : M (List W)} (q : Wq Yii (fun a h1 => Wq (Fr eta h1) (fun r h2 => QL (a :: r) h2) E) E) : Wq (zab Fa Fr eta hp) QL E := Wq.bind (q.mono (fun _ _ q => Wq.bind Yfo) fun _ _ _ q => q)
theorem wq_nil (q : QL [] hp) : Wq (mNil eta hp) QL E := Wq.ok q
theorem wq_fnX {n nn : Nat} {B : M Fl} {ws : List W} {eta : IS} (hl : ws.length = n) (he : ws.map some ++ List.replicate (nn - n) none = eta) (q : Wq (B eta hp) (fun fl h => (∃ w, fl = .rt w ∧ Q w h) ∨ ∃ e, fl = .nx e ∧ Q Ybh h) fun e _ h => E e [] h) : Wq (fnX n nn B ws hp) Q E := by
 unfold fnX
 rw [if_pos hl, he]
 rcases q.cases with ⟨fl, h, e, q⟩ | ⟨e, eta', h, x, q⟩
 ·rw [e]
  rcases q with ⟨w, rfl, q⟩ | ⟨e2, rfl, q⟩
  ·exact Wq.ok q
  ·exact Wq.ok q
 ·rw [x]
  exact Wq.er q
theorem wq_cmeth {c : Str} {f : OpN} {Fo : M W} {Fs : M (List W)} {ws : List W} {h1 h2 : IH} (o : Fo eta hp = .ok (.t (.cls c)) h1) (u : Fs eta h1 = .ok ws h2) (q : Wq (f (.t (.cls c) :: ws) h2) Q fun e _ h => E e eta h) : Wq (mCMeth c f [] Fo Fs eta hp) Q E := by
 unfold mCMeth
 rw [o]
 show Wq (if c = c then _ else _) Q E
 rw [if_pos rfl, u]
 show Wq (reEr eta (f (.t (.cls c) :: (ws ++ [])) h2)) Q E
 rw [List.append_nil]
 exact Wq.re q
theorem wq_makeX {c : Str} {f : OpN} {ds : List T} {Fs : M (List W)} {ws : List W} {h1 : IH} (u : Fs eta hp = .ok ws h1) (q : Wq (f Yh2 Yho) (fun w h => w = .t .non ∧ Q (.r h1.length) h) fun e _ h => E e eta h) : Wq (mMakeX c f ds Fs eta hp) Q E := by
 unfold mMakeX
 rw [u]
 show Wq ((reEr eta _).bind _) Q E
 refine Wq.bind (Wq.re (q.mono (fun w h ⟨e, q⟩ => ?_) fun _ _ _ q => q))
 subst e
 exact Wq.ok q
theorem wq_makeL {i : Nat} {c : Str} {f : OpN} {ds : List T} {Fs : M (List W)} (hc : eta[i]? = some (some (.t (.cls c)))) (q : Wq (mMakeX c f ds Fs eta hp) Q E) : Wq (mMakeL i c f ds Fs eta hp) Q E := by
 unfold mMakeL
 rw [hc]
 show Wq (if c = c then _ else _) Q E
 rw [if_pos rfl]
 exact q
theorem wq_frzI {F : M W} (q : Wq Yfj (fun a h1 => Wp (freezeI a h1) Q) E) : Wq (mFrzI F eta hp) Q E := Wq.bind (q.mono (fun _ _ q => Wq.of q) fun _ _ _ q => q)
theorem wq_tryFrom {hit : Str → Option Bool} {i : Nat} {B : M Fl} {F : M Ex} (q : Wq (B eta hp) QF fun e eta' h => (hit e.cls = some true ∧ i < eta'.length ∧ Wp (F (eta'.set i none) h) fun e2 h2 => E e2 (eta'.set i none) h2) ∨ (hit e.cls = some false ∧ E e eta' h)) : Wq (zfl hit i B F eta hp) QF E := by
 unfold zfl
 rcases q.cases with ⟨fl, h, e, q⟩ | ⟨e, eta', h, x, q⟩
 ·rw [e]; exact Wq.ok q
 ·rw [x]
  rcases q with ⟨q1, q2, q3⟩ | ⟨q1, q2⟩
  ·simp only [q1, if_pos q2]
   obtain ⟨e2, h2, e3, q4⟩ := q3.ex
   rw [e3]
   exact Wq.er q4
  ·simp only [q1]
   exact Wq.er q2
theorem wq_cls {i : Nat} {c : Str} {hit : Str → Option Bool} {S : Ex → M Fl} {l : List Cl} {e : Ex} (hh : hit e.cls = some true) (hc : e.cls = c) (hi : i < eta.length) (q : Wp (S e Yh9 hp) fun fl h' => QF (unI i fl) h') : Wq (clsL i e eta hp ((c, hit, S) :: l)) QF E := by
 unfold clsL
 obtain ⟨fl, h', x, q⟩ := q.ex
 simp only [hh, if_pos (And.intro hc hi), x]
 exact Wq.ok q
theorem wq_tryAs {i : Nat} {B : M Fl} {l : List Cl} (q : Wq (B eta hp) QF fun e eta' h => Wq (clsL i e eta' h l) QF E) : Wq (mTryAs i B l eta hp) QF E := by
 unfold mTryAs
 rcases q.cases with ⟨fl, h, e, q⟩ | ⟨e, eta', h, x, q⟩
 ·rw [e]; exact Wq.ok q
 ·rw [x]; exact q
end
end Mir
namespace D
open PySem PySem.Spec L2 Mir
open PyProof.Rows hiding St
theorem exm_self {K : PySem.W.Frag} {S : Addr} (h1 : PySem.W.subIn K (.ref S) Ya5 = some true) (h2 : PySem.W.isClsIn K S = true) (h3 : PySem.W.typeIn K (.ref S) = some Yd7) (h4 : PySem.W.subIn K (.ref S) (.ref S) = some true) : PySem.W.exmOne K (.ref S) (.ref S) = some true := by
 have h2' : (PySem.W.clsIn K S).isSome = true := h2
 unfold PySem.W.exmOne
 simp [PySem.W.kitCls, h1, h2', h3, h4]
abbrev DFn (K : PySem.W.Frag) (x q : Str) (s : Stmt) (a : Addr) (d : FuncData) : Prop := FunD K x q (defArgs s) (defBody s) (defScope s) [] [] a d
def MDf (K : PySem.W.Frag) (x : Str) (s : Stmt) (a : Addr) (d : FuncData) : Prop := PySem.W.nsIn K mainGlobals x = some Ycu ∧ DFn K x x s a d
def HDf (K : PySem.W.Frag) (C : Addr) (x q : Str) (s : Stmt) (a : Addr) (d : FuncData) : Prop := PySem.W.findIn K (.ref C) x = some Ycu ∧ PySem.W.isFn K (.ref a) = true ∧ DFn K x q s a d
section
variable {K : PySem.W.Frag} {x q : Str} {s : Stmt} {C a : Addr} {d : FuncData}
theorem DFn.of {oc kV dc pm cd ct : Value} {od an : Option Addr} {sl : Array Yc3} (h1 : K.lookup a = some ⟨oc, od, .func Yax, sl⟩) (h2 : PySem.W.codeIn K cd q = true) (h3 : PySem.W.keepIn K (.ref a) = true) :
  DFn K x q s a Yax := ⟨⟨oc, od, .none, kV, dc, pm, an, cd, ct, sl, rfl, h1, h2, .inl ⟨rfl, rfl⟩, .inl rfl⟩, h3⟩
theorem _root_.PyProof.Rows.FunD.kp {A : Arguments} {B : List Stmt} {S : Scope} {l : List V} {k : List Yfi} (h : FunD K x q A B S l k a d) : PySem.W.keepIn K (.ref a) = true := h.2
theorem MDf.of {oc kV dc pm cd ct : Value} {od an : Option Addr} {sl : Array Yc3} (h0 : PySem.W.nsIn K mainGlobals x = some Ycu) (h1 : K.lookup a = some ⟨oc, od, .func Ygs, sl⟩) (h2 : PySem.W.codeIn K cd x = true) (h3 : PySem.W.keepIn K (.ref a) = true) :
  MDf K x s a Ygs := ⟨h0, DFn.of h1 h2 h3⟩
theorem HDf.of {oc kV dc pm cd ct : Value} {od an : Option Addr} {sl : Array Yc3} (h0 : PySem.W.findIn K (.ref C) x = some Ycu) (h4 : PySem.W.isFn K (.ref a) = true) (h1 : K.lookup a = some ⟨oc, od, .func Yax, sl⟩) (h2 : PySem.W.codeIn K cd q = true) (h3 : PySem.W.keepIn K (.ref a) = true) :
  HDf K C x q s a Yax := ⟨h0, h4, DFn.of h1 h2 h3⟩
theorem HDf.me (h : HDf K C x q s a d) : Meth K C x a := ⟨h.1, h.2.1, h.2.2.kp⟩
theorem cm_of {p : Addr} {rs : List Value} (h1 : PySem.W.findCls K (.ref C) Yd7 x = some (.get (.builtin "classmethod.__get__") (.ref p) .none (.ref C))) (h2 : PySem.W.recIn K p "classmethod" = some (.ref a :: rs)) (h3 : PySem.W.fnIn K a = true) : ClX.CMet K C Yd7 x p a := ⟨h1, ⟨_, h2⟩, h3⟩
end
theorem law_sp {K : PySem.W.Frag} {w : World} {F : OpN} {H : Hp} {a : Addr} {ns : List Int} (hF : ∃ hp', F [.t Yas] [] = .ok Ydd hp')
  (h : (∃ o, H a = some Yif) ∨ (∃ (o : Obj) (its : Array Value) (m : Nat), K.lookup a = some o ∧ o.cls = .type "list" ∧ o.dict = none ∧ o.data = .seq its m ∧ its.size ≤ sizeLine ∧ Vals Yd4 its.toList)) :
  spM K w F 1 [.ref a] H (fun v _ => v = .bl true) fun _ _ _ => False := by
 obtain ⟨hp', e⟩ := hF
 let s : S4 := ⟨[], fun b => b = a ∧ ∃ o, H a = some Yif, [], H⟩
 have nl : ∀ b, ¬ Live s b := fun b l => by
  obtain ⟨i, c, e1, _⟩ := l
  simp [s] at e1
 have R : Rel K w s := ⟨rfl, List.nodup_nil, fun b m => absurd m (by simp [s]), fun b f => by obtain ⟨e1, o, e2⟩ := f; subst e1; show H b ≠ none; rw [e2]; simp, fun b l => absurd l (nl b), fun i c b e1 => by simp [s] at e1⟩
 refine ⟨s, [.t Yas], rfl, R, ?_, rfl, ?_⟩
 ·refine ⟨.ref a, [], rfl, ?_, rfl⟩
  simp only [Rw, Rf]
  refine ⟨a, ns.map V.int, rfl, ?_, ints_rf ns⟩
  rcases h with ⟨o, h⟩ | h
  ·exact .inl ⟨⟨rfl, o, h⟩, o, h⟩
  ·exact .inr h
 ·show Go K w W0 (Rw K) s (noEr (F [.t Yas] [])) _
  rw [e]
  intro b s' _ _ _ r
  simpa only [Rw, Rf] using r
theorem no_cx {P : Program} {w : World} {o : List Env} {H : Hp} {s : Shared} {e : Value} {s' : Shared} (h : L2.CX P w o H s Yfv e s') : False := by
 obtain ⟨_, _, _, _, _, _, _, _, _, _, _, _, f⟩ := h
 exact f
def topS (i : Nat) : Stmt := PySem.Challenge.pw_untorn_k07_texts_of_readers.main.body.getD i (.Pass ⟨0, 0, 0, 0⟩)
abbrev s_w_deal : Stmt := topS 27
abbrev ymi : Stmt := topS 28
abbrev ynr : Stmt := topS 31
abbrev yk3 : Stmt := topS 30
abbrev ymj : Stmt := topS 29
abbrev ycf : Stmt := topS 32
abbrev ybb : Stmt := topS 35
abbrev yc4 : Stmt := topS 34
abbrev yeo : Stmt := topS 36
abbrev yj5 : Stmt := topS 37
abbrev yhw : Stmt := topS 33
abbrev ygu : Stmt := inClass (topS 25) 6
abbrev yj6 : Stmt := topS 24
abbrev yhx : Stmt := topS 10
abbrev yf7 : Stmt := topS 9
abbrev yk4 : Stmt := topS 19
abbrev ybs : Stmt := topS 20
abbrev yf0 : Stmt := topS 11
abbrev yk5 : Stmt := topS 21
abbrev yf4 : Stmt := topS 22
abbrev yep : Stmt := topS 23
abbrev yi : Stmt := inClass (topS 25) 0
abbrev yf8 : Stmt := inClass (topS 25) 1
abbrev yk6 : Stmt := topS 43
abbrev yf1 : Stmt := topS 38
abbrev yeq : Stmt := topS 39
abbrev yf5 : Stmt := topS 40
abbrev ye5 : Stmt := topS 41
abbrev yf9 : Stmt := topS 42
abbrev ypg : Stmt := topS 44
abbrev AllMk (F : OpN) : Prop := ∀ {l : PySem.W.OpenLaw} {w : World} {K : PySem.W.Frag} {h : Heap} {mg : Str → Option Value} {fa : Addr} (KX : K.In h) (G : h.Ns mainGlobals mg) (hfa : mg "law" = some (.ref fa))
  {yf : Addr} (y2 : PySem.W.nsIn K mainGlobals "Reader" = some (some Yi1))
  (yhy : PySem.W.plainGet K yf Str.empty = true)
  (yhz : PySem.W.hasDictIn K yf = true)
  (yh0 : PySem.W.plainOver K yf = true)
  (yh1 : PySem.W.findIn K Yi1 "__setattr__" = some Yhk)
  (yh2 : PySem.W.makesIn K yf = true)
  (yh3 : PySem.W.keepIn K Yi1 = true)
  (yh4 : PySem.W.readsIn K yf Yd7 = true)
  (yh5 : PySem.W.specialIn K Yi1 "__getattribute__" = some (some (.builtin "type.__getattribute__")))
  (yc5 : PySem.W.findIn K Yi1 "name" = some none)
  (ybt : PySem.W.findIn K Yi1 "checks" = some none)
  (ycm : PySem.W.findIn K Yi1 "steps" = some none)
  (ycn : PySem.W.findIn K Yi1 "tests" = some none)
  (yco : PySem.W.findIn K Yi1 "deeds" = some none)
  (ih : PySem.W.specialIn K Yar "__get__" = some Yf2)
  (it : PySem.W.takesIn K Yar = some true)
  (ia_Reader : PySem.W.findIn K Yi1 "__class__" = some (some Yar))
  (im_Reader : PySem.W.mroIn K yf Yia = some true)
  {yb : Addr} (yo : PySem.W.nsIn K mainGlobals "InvalidReader" = some (some Yf4))
  {ygv ygw : Str} {ygx : Addr} {ygy yd3 : List Value} {ygz : List Str} {yg0 : List Value} {yg1 : Bool} {yg2 : Option Bool} {yg3 : Option Addr} {yg4 yg5 yg6 yg7 yg8 : Option Value} (ybu : K.lookup yb = some (excClassObj ygv ygw yb ygx ygy yd3 true ygz yg0 yg1 yg2 yg3 yg4 yg5 yg6 yg7 yg8 "ValueError.__new__"))
  (ybv : PySem.HandSPX.refsVE yd3 = true)
  (ya6 : PySem.W.findIn K Yf4 "__setattr__" = some Yhk)
  (yat : PySem.W.subIn K Yf4 Ya5 = some true)
  (y5 : PySem.W.typeIn K Yf4 = some Yd7)
  (ybw : PySem.W.keepIn K Yf4 = true)
  {yp : Addr} (yau : PySem.W.findIn K Yf4 "__init__" = some (some (.ref yp)))
  (yav : PySem.W.typeIn K (.ref yp) = some Yfm)
  {yg9 ybx yby ybz yb0 : Value} {yha yb1 : Option Addr} {y6 yaw : Addr} {yhb : Array Yc3} (yb2 : K.lookup yp = some ⟨yg9, yha, .func Yw, yhb⟩)
  (yb3 : PySem.W.codeIn K (.ref y6) "InvalidReader.__init__" = true)
  {yhc : Value} {yhd : Option Addr} {yd4 : Array Value} {yhe : Array Yc3} {yd5 : Str} {yhf : Tok} (yb4 : K.lookup y6 = some ⟨yhc, yhd, .fields yd4, yhe⟩)
  (yb5 : yd4[2]? = some (.str yd5 yhf))
  (yb6 : ((l.prog.main.file : Str) == yd5) = true)
  {yhg : Value} {yhh : Option Addr} {yhi : Array Yc3} (yb7 : K.lookup yaw = some ⟨yhg, yhh, .cell (some Yf4), yhi⟩)
  (yb8 : PySem.W.ks_superIn K yb yb "__init__" = some Yd9)
  (yb9 : PySem.W.subIn K Yf4 (.type "ValueError") = some true)
  (yca : PySem.W.mroIn K yb Yf4 = some true)
  (ya7 : PySem.W.findIn K Yf4 "word" = some none)
  (ya8 : PySem.W.isClsIn K yb = true)
  (ya9 : PySem.W.subIn K Yf4 Yf4 = some true)
  {ya : Addr} (ybc : PySem.W.nsIn K mainGlobals "InvalidText" = some (some Yds))
  {yi1 yi2 : Str} {yi3 : Addr} {yi4 ye6 : List Value} {yi5 : List Str} {yi6 : List Value} {yi7 : Bool} {y0 : Option Bool} {yi8 : Option Addr} {yi9 yja yjb yjc yjd : Option Value} (yc6 : K.lookup ya = some (excClassObj yi1 yi2 ya yi3 yi4 ye6 true yi5 yi6 yi7 y0 yi8 yi9 yja yjb yjc yjd "ValueError.__new__"))
  (yc7 : PySem.HandSPX.refsVE ye6 = true)
  (ycp : PySem.W.findIn K Yds "__setattr__" = some Yhk)
  (yai : PySem.W.subIn K Yds Ya5 = some true)
  (ybd : PySem.W.typeIn K Yds = some Yd7)
  (yc8 : PySem.W.keepIn K Yds = true)
  {yr : Addr} (ybe : PySem.W.findIn K Yds "__init__" = some (some (.ref yr)))
  (ybf : PySem.W.typeIn K (.ref yr) = some Yfm)
  {yje yc9 yda ydb ydc : Value} {yjf ydd : Option Addr} {yaj ybg : Addr} {yjg : Array Yc3} (yde : K.lookup yr = some ⟨yje, yjf, .func Yx, yjg⟩)
  (ydf : PySem.W.codeIn K (.ref yaj) "InvalidText.__init__" = true)
  {yjh : Value} {yji : Option Addr} {ye7 : Array Value} {yjj : Array Yc3} {ye8 : Str} {yjk : Tok} (ydg : K.lookup yaj = some ⟨yjh, yji, .fields ye7, yjj⟩)
  (ydh : ye7[2]? = some (.str ye8 yjk))
  (ydi : ((l.prog.main.file : Str) == ye8) = true)
  {yjl : Value} {yjm : Option Addr} {yjn : Array Yc3} (ydj : K.lookup ybg = some ⟨yjl, yjm, .cell (some Yds), yjn⟩)
  (ydk : PySem.W.ks_superIn K ya ya "__init__" = some Yd9)
  (ydl : PySem.W.subIn K Yds (.type "ValueError") = some true)
  (ydm : PySem.W.mroIn K ya Yds = some true)
  (ya2 : PySem.W.findIn K Yds "at" = some none)
  (ycq : PySem.W.isClsIn K ya = true)
  (ycr : PySem.W.subIn K Yds Yds = some true)
  (ycs : PySem.W.findIn K Yds "__getattribute__" = some (some (.builtin "BaseException.__getattribute__")))
  (yct : PySem.W.findIn K Yds "__getattr__" = some none)
  (ycu : PySem.W.hasDictIn K ya = true)
  (ycv : PySem.W.findIn K Yds "__class__" = some (some Yar))
  (ycw : PySem.W.mroIn K ya Yia = some true)
  (yba : PySem.W.hasDictIn K yb = true)
  {yt : Addr} (y1 : PySem.W.nsIn K mainGlobals "RecordError" = some (some (.ref yt)))
  (ycx : PySem.W.hasDictIn K yt = true)
  (ydn : PySem.W.typeIn K (.ref yt) = some Yd7)
  (yu : PySem.W.subIn K Yds Yf4 = some false)
  (yx : ya ≠ yb)
  (yy : PySem.W.subIn K Yds (.ref yt) = some true)
  (yz : ya ≠ yt)
  (xsup : PySem.W.nsIn K mainGlobals "super" = some none)
  (xany : PySem.W.nsIn K PySem.cStatics "thirdparty.any" = some none)
  (xtop : (l.prog.main.scope.names.lookup ("super" : Str)).isSome = false)
  {v_MOST_LETTERS : Tok} (w_MOST_LETTERS : PySem.W.nsIn K mainGlobals "MOST_LETTERS" = some (some (.int (4) v_MOST_LETTERS)))
  {v_MOST_DIGITS : Tok} (w_MOST_DIGITS : PySem.W.nsIn K mainGlobals "MOST_DIGITS" = some (some (.int (9) v_MOST_DIGITS)))
  {v_NAMED : Tok} (w_NAMED : PySem.W.nsIn K mainGlobals "NAMED" = some (some (.str ": " v_NAMED)))
  {v_LETTERS : Tok} (w_LETTERS : PySem.W.nsIn K mainGlobals "LETTERS" = some (some (.str "abcdefghijklmnopqrstuvwxyz" v_LETTERS)))
  {v_DIGITS : Tok} (w_DIGITS : PySem.W.nsIn K mainGlobals "DIGITS" = some (some (.str "0123456789" v_DIGITS)))
  {v_BESIDE : Tok} (w_BESIDE : PySem.W.nsIn K mainGlobals "BESIDE" = some (some (.str ", " v_BESIDE)))
  {v_IF : Tok} (w_IF : PySem.W.nsIn K mainGlobals "IF" = some (some (.str " if " v_IF)))
  {v_READER : Tok} (w_READER : PySem.W.nsIn K mainGlobals "READER" = some (some (.str "reader " v_READER)))
  {ye9 : Addr} {o_BARRED : Obj} {us_BARRED : List Value} {yj7 : Nat} (w_BARRED : PySem.W.nsIn K mainGlobals "BARRED" = some (some (.ref ye9)))
  (lk_BARRED : K.lookup ye9 = some o_BARRED)
  (yea : o_BARRED.cls = .type "tuple")
  (yeb : o_BARRED.dict = none)
  (oa_BARRED : o_BARRED.data = .seq us_BARRED.toArray yj7)
  (or_BARRED : Vals Ygt us_BARRED)
  (oz_BARRED : us_BARRED.length ≤ 1000)
  {yak : Addr} {o_READER_WORDS : Obj} {us_READER_WORDS : List Value} {ydo : Nat} (w_READER_WORDS : PySem.W.nsIn K mainGlobals "READER_WORDS" = some (some (.ref yak)))
  (lk_READER_WORDS : K.lookup yak = some o_READER_WORDS)
  (y9 : o_READER_WORDS.cls = .type "tuple")
  (yaa : o_READER_WORDS.dict = none)
  (oa_READER_WORDS : o_READER_WORDS.data = .seq us_READER_WORDS.toArray ydo)
  (or_READER_WORDS : Vals ((["read", "look"] : List Str).map V.str) us_READER_WORDS)
  (oz_READER_WORDS : us_READER_WORDS.length ≤ 1000)
  (yon : PySem.W.nsIn K mainGlobals "int" = some none)
  (yoo : PySem.W.nsIn K mainGlobals "abs" = some none)
  (yop : PySem.W.nsIn K mainGlobals "len" = some none)
  (ymu : PySem.W.nsIn K mainGlobals "list" = some none)
  (ylz : PySem.W.nsIn K mainGlobals "range" = some none)
  (yoq : PySem.W.nsIn K mainGlobals "str" = some none)
  (yf2 : PySem.W.nsIn K mainGlobals "enumerate" = some none)
  (yor : PySem.W.nsIn K mainGlobals "all" = some none)
  (yer : PySem.W.nsIn K mainGlobals "isinstance" = some none)
  (yl0 : PySem.W.nsIn K mainGlobals "tuple" = some none)
  (yos : PySem.W.nsIn K mainGlobals "set" = some none)
  (yot : PySem.W.nsIn K mainGlobals "max" = some none)
  (you : PySem.W.nsIn K mainGlobals "min" = some none)
  (ymv : PySem.W.nsIn K mainGlobals "repr" = some none)
  {ad_w_deal : Addr} {ynw : FuncData} (yfa : MDf K "_law_deal" s_w_deal ad_w_deal ynw)
  {ad_w_draw : Addr} {ynx : FuncData} (yfb : MDf K "_law_draw" ymi ad_w_draw ynx)
  {ad_w_put : Addr} {yow : FuncData} (ygr : MDf K "_law_put" ynr ad_w_put yow)
  {ad_w_mixed : Addr} {ymw : FuncData} (yec : MDf K "_law_mixed" yk3 ad_w_mixed ymw)
  {ad_w_pick : Addr} {yny : FuncData} (yfc : MDf K "_law_pick" ymj ad_w_pick yny)
  {ad_w_glances : Addr} {yk7 : FuncData} (ycg : MDf K "_law_glances" ycf ad_w_glances yk7)
  {ad_w_test_texts : Addr} {yh6 : FuncData} (yal : MDf K "_law_test_texts" ybb ad_w_test_texts yh6)
  {ad_w_deed_texts : Addr} {yh7 : FuncData} (yam : MDf K "_law_deed_texts" yc4 ad_w_deed_texts yh7)
  {ad_w_reader_text : Addr} {yhj : FuncData} (yab : MDf K "_law_reader_text" yeo ad_w_reader_text yhj)
  {ad_w_titles : Addr} {yl3 : FuncData} (ydp : MDf K "_law_titles" yj5 ad_w_titles yl3)
  {ad_w_tests : Addr} {ymx : FuncData} (yed : MDf K "_law_tests" yhw ad_w_tests ymx)
  {ad_Reader_str : Addr} {ykq : FuncData} (ycz : HDf K yf "__str__" "Reader.__str__" ygu ad_Reader_str ykq)
  {ad_named_in : Addr} {yl4 : FuncData} (ydq : MDf K "named_in" yj6 ad_named_in yl4)
  {ad_is_name : Addr} {ymy : FuncData} (yee : MDf K "is_name" yhx ad_is_name ymy)
  {ad_is_sequence : Addr} {yjo : FuncData} (yay : MDf K "is_sequence" yf7 ad_is_sequence yjo)
  {ad_deed_in : Addr} {ymz : FuncData} (yef : MDf K "deed_in" yk4 ad_deed_in ymz)
  {ad_deeds_in : Addr} {yl5 : FuncData} (ydr : MDf K "deeds_in" ybs ad_deeds_in yl5)
  {ad_number_in : Addr} {yk8 : FuncData} (ych : MDf K "number_in" yf0 ad_number_in yk8)
  {ad_spot_in : Addr} {ym0 : FuncData} (yeg : MDf K "spot_in" yk5 ad_spot_in ym0)
  {ad_test_in : Addr} {ym1 : FuncData} (yeh : MDf K "test_in" yf4 ad_test_in ym1)
  {ad_tests_in : Addr} {yl6 : FuncData} (yds : MDf K "tests_in" yep ad_tests_in yl6)
  {ad_Reader_init : Addr} {yfd ybh ybi ybj yan ybk : Value} {yfe ybl : Option Addr} {sl_Reader_init : Array Yc3}
  {yac : Addr} {to_Reader_init : Obj} {tn_Reader_init : Nat}
  (at_Reader_init : PySem.W.findIn K Yi1 "__init__" = some (some (.ref ad_Reader_init)))
  (fn_Reader_init : PySem.W.isFn K (.ref ad_Reader_init) = true)
  (yd0 : K.lookup ad_Reader_init = some ⟨yfd, yfe, .func Yaw, sl_Reader_init⟩)
  (yd1 : PySem.W.codeIn K yan "Reader.__init__" = true)
  (yd2 : PySem.W.keepIn K (.ref ad_Reader_init) = true)
  {e_Reader_init : Addr} {eo_Reader_init : Obj} {en_Reader_init : Nat}
  (t_Reader_init : K.lookup yac = some to_Reader_init)
  (u_Reader_init : to_Reader_init.data = .seq ([.ref e_Reader_init] : List Value).toArray tn_Reader_init)
  (el_Reader_init : K.lookup e_Reader_init = some eo_Reader_init)
  (ec_Reader_init : eo_Reader_init.cls = .type "tuple")
  (ed_Reader_init : eo_Reader_init.dict = none)
  (ea_Reader_init : eo_Reader_init.data = .seq #[] en_Reader_init)
  {ydt ad_Reader_read : Addr} (cm_Reader_read : ClX.CMet K yf Yd7 "read" ydt ad_Reader_read)
  {yjp : FuncData} (ycd : DFn K "read" "Reader.read" yf8 ad_Reader_read yjp)
  {ad_w_heard : Addr} {ym2 : FuncData} (yei : MDf K "_law_heard" yk6 ad_w_heard ym2)
  {ad_w_is_name : Addr} {yk9 : FuncData} (yci : MDf K "_law_is_name" yf1 ad_w_is_name yk9)
  {ad_w_deeds_in : Addr} {ykr : FuncData} (ybm : MDf K "_law_deeds_in" yeq ad_w_deeds_in ykr)
  {ad_w_spots : Addr} {ym3 : FuncData} (yej : MDf K "_law_spots" yf5 ad_w_spots ym3)
  {ad_w_are_checks : Addr} {yh8 : FuncData} (yao : MDf K "_law_are_checks" ye5 ad_w_are_checks yh8)
  {ad_w_is_reader : Addr} {yjq : FuncData} (yaz : MDf K "_law_is_reader" yf9 ad_w_is_reader yjq)
  {ad_law : Addr} {ypo : FuncData} (ym4 : MDf K "law" ypg ad_law ypo), ∃ fd : FuncData, (∀ (s : Shared) (v : Value), BindsTo s fd ⟨[v], []⟩ [("_law_script", v)]) ∧ ∀ base : Heap, K.In base → base.Ns mainGlobals mg → FnG l.prog w K mg base (L2.CX l.prog w) 10 fa fd ["_law_script"] (spM K w F 1)
end D
section
namespace D
open PySem PySem.W PySem.Calls PyProof.Rows
abbrev rowH : OpenRow := OpenLaw.row PySem.Challenge.rw_untorn_k07_texts_of_readers
abbrev viewH : Program := view rowH.prog [44]
def looseH : List PySem.Str := (["RecordError", "InvalidReader", "InvalidText", "BARRED", "LETTERS", "DIGITS", "MOST_LETTERS", "is_sequence", "is_name", "number_in", "READER_WORDS", "MOST_DIGITS", "READER", "NAMED", "IF", "BESIDE", "deed_in", "deeds_in", "spot_in", "test_in", "tests_in", "named_in", "Reader", "_law_deal", "_law_draw", "_law_pick", "_law_mixed", "_law_put", "_law_glances", "_law_tests"] : List PySem.Str) ++ (["_law_deed_texts", "_law_test_texts", "_law_reader_text", "_law_titles", "_law_is_name", "_law_deeds_in", "_law_spots", "_law_are_checks", "_law_is_reader", "_law_heard"] : List PySem.Str)
theorem obsH_eq {as : List Addr} (s : SharedT) : as.map (HandSHeadRun.getT s) = as.map s.abs.heap.get? := congrArg (fun g => as.map g) (funext (HandSHeadRun.getT_eq s))
end D
local macro_rules | `(tactic| o_headL (kHook $K $a $e)) => `(tactic| refine HandSHeadRun.head_any (r := D.rowH) (q := D.viewH) (H := PySem.W.kHook $K $a $e) (ob := fun s => List.map (HandSHeadRun.getT s) $a) (M := 12000) (loose := D.looseH) (d := HandSHeadRun.topDef D.rowH.prog 44) (kwd := []) (fun s => D.obsH_eq s) (by kernel_rfl) (fun s => by kernel_rfl) (fun w os => by kernel_rfl) (by kernel_rfl) (by kernel_rfl) (by kernel_rfl) (by rfl) (by first | assumption | decide +kernel) (by decide +kernel) ⟨rfl, rfl, rfl, rfl, rfl, by decide +kernel⟩ ?hw ?hc)
local macro_rules | `(tactic| simp_arith!) => `(tactic| first | (as_aux_lemma => k_is) | k_is)
open PySem PySem.W PyProof.Rows
set_option maxHeartbeats 0 in
theorem D.early {F : Mir.OpN} (hM : D.AllMk F) (hL : ∀ {ns : List Int}, ns.length ≤ 63 → ∃ hp', F [.t (.scr (ns.map Mir.T.int))] [] = .ok Ydd hp') : PySem.Challenge.rw_untorn_k07_texts_of_readers.Holds := by
 w_on; o_law; k_headL; (case hw => w_witness2)
 k_fill
 refine Mir.walkG (l := PySem.Challenge.rw_untorn_k07_texts_of_readers) (n := 63) (k := 10) (x := "_law_script") (CX := fun w => L2.CX PySem.Challenge.rw_untorn_k07_texts_of_readers.prog w) (sp := fun w => Mir.spM _ w F 1) rfl Ybz rfl ⟨rfl, by decide, by decide⟩ (fun w h Y => PySem.W.kIn_of Y) ?F (fun _ _ _ _ hl hS => D.law_sp (hL hl) hS) (fun _ _ _ _ _ h => D.no_cx h)
 case F =>
  intro w mg fa h KX G hmg
  refine' hM KX G hmg ?y2 ?yhy ?yhz ?yh0 ?yh1 ?yh2 ?yh3 ?yh4 ?yh5 ?yc5 ?ybt ?ycm ?ycn ?yco ?ih ?it ?ia_Reader ?im_Reader ?yo ?ybu ?ybv ?ya6 ?yat ?y5 ?ybw ?yau ?yav ?yb2 ?yb3 ?yb4 ?yb5 ?yb6 ?yb7 ?yb8 ?yb9 ?yca ?ya7 ?ya8 ?ya9 ?ybc ?yc6 ?yc7 ?ycp ?yai ?ybd ?yc8 ?ybe ?ybf ?yde ?ydf ?ydg ?ydh ?ydi ?ydj ?ydk ?ydl ?ydm ?ya2 ?ycq ?ycr ?ycs ?yct ?ycu ?ycv ?ycw ?yba ?y1 ?ycx ?ydn ?yu ?yx ?yy ?yz ?xsup ?xany ?xtop ?w_MOST_LETTERS ?w_MOST_DIGITS ?w_NAMED ?w_LETTERS ?w_DIGITS ?w_BESIDE ?w_IF ?w_READER ?w_BARRED ?lk_BARRED ?yea ?yeb ?oa_BARRED ?or_BARRED ?oz_BARRED ?w_READER_WORDS ?lk_READER_WORDS ?y9 ?yaa ?oa_READER_WORDS ?or_READER_WORDS ?oz_READER_WORDS ?yon ?yoo ?yop ?ymu ?ylz ?yoq ?yf2 ?yor ?yer ?yl0 ?yos ?yot ?you ?ymv ?yfa ?yfb ?ygr ?yec ?yfc ?ycg ?yal ?yam ?yab ?ydp ?yed ?ycz ?ydq ?yee ?yay ?yef ?ydr ?ych ?yeg ?yeh ?yds ?at_Reader_init ?fn_Reader_init ?yd0 ?yd1 ?yd2 ?t_Reader_init ?u_Reader_init ?el_Reader_init ?ec_Reader_init ?ed_Reader_init ?ea_Reader_init ?cm_Reader_read ?ycd ?yei ?yci ?ybm ?yej ?yao ?yaz ?ym4
  (case y2 | yhy | yhz | yh0 | yh1 | yh2 | yh3 | yh4 | yh5 | yc5 | ybt | ycm | ycn | yco | ih | it | ia_Reader | im_Reader | yo | ybu => simp_arith!)
  (case ybv => first | rfl | decide)
  (case ya6 | yat | y5 | ybw | yau | yav | yb2 | yb3 | yb4 => simp_arith!)
  (case yb5 => exact rfl)
  (case yb6 => first | rfl | decide +kernel)
  (case yb7 => simp_arith!)
  (case yb8 => ks_is)
  (case yb9 | yca | ya7 | ya8 => simp_arith!)
  (case ya9 => first | rfl | k_is)
  (case ybc | yc6 => simp_arith!)
  (case yc7 => first | rfl | decide)
  (case ycp | yai | ybd | yc8 | ybe | ybf | yde | ydf | ydg => simp_arith!)
  (case ydh => exact rfl)
  (case ydi => first | rfl | decide +kernel)
  (case ydj => simp_arith!)
  (case ydk => ks_is)
  (case ydl | ydm | ya2 | ycq => simp_arith!)
  (case ycr => first | rfl | k_is)
  (case ycs | yct | ycu | ycv | ycw | yba | y1 | ycx | ydn => simp_arith!)
  (case yu => first | rfl | k_is)
  (case yx => decide)
  (case yy => first | rfl | k_is)
  (case yz => decide)
  (case xsup | xany => simp_arith!)
  (case xtop => first | rfl | decide +kernel)
  (case w_MOST_LETTERS | w_MOST_DIGITS | w_NAMED | w_LETTERS | w_DIGITS | w_BESIDE | w_IF | w_READER | w_BARRED | lk_BARRED => simp_arith!)
  (case yea => exact rfl)
  (case yeb => exact rfl)
  (case oa_BARRED => exact rfl)
  (case or_BARRED => repeat (first | exact .nil | refine .cons ⟨_, rfl⟩ ?_))
  (case oz_BARRED => decide)
  (case w_READER_WORDS | lk_READER_WORDS => simp_arith!)
  (case y9 => exact rfl)
  (case yaa => exact rfl)
  (case oa_READER_WORDS => exact rfl)
  (case or_READER_WORDS => repeat (first | exact .nil | refine .cons ⟨_, rfl⟩ ?_))
  (case oz_READER_WORDS => decide)
  (case yon | yoo | yop | ymu | ylz | yoq | yf2 | yor | yer | yl0 | yos | yot | you | ymv | at_Reader_init | fn_Reader_init | yd0 | yd1 | yd2 | t_Reader_init => simp_arith!)
  (case u_Reader_init => exact rfl)
  (case el_Reader_init => simp_arith!)
  (case ec_Reader_init => exact rfl)
  (case ed_Reader_init => exact rfl)
  (case ea_Reader_init => exact rfl)
  (case yfa | yfb | ygr | yec | yfc | ycg | yal | yam | yab | ydp | yed | ydq | yee | yay | yef | ydr | ych | yeg | yeh | yds | yei | yci | ybm | yej | yao | yaz | ym4 => (refine' D.MDf.of ?a ?b ?c ?d; (case a => simp_arith!); (case b => simp_arith!); (case c => simp_arith!); (case d => simp_arith!)))
  (case ycz => (refine' D.HDf.of ?a ?b ?c ?d ?e; (case a => simp_arith!); (case b => simp_arith!); (case c => simp_arith!); (case d => simp_arith!); (case e => simp_arith!)))
  (case cm_Reader_read => (refine' D.cm_of ?a ?b ?c; (case a => simp_arith!); (case b => simp_arith!); (case c => simp_arith!)))
  (case ycd => (refine' D.DFn.of ?a ?b ?c; (case a => simp_arith!); (case b => simp_arith!); (case c => simp_arith!)))
end
namespace D
open PySem PySem.Spec L2 Mir
open PyProof.Rows hiding St
local macro_rules | `(tactic| simp_arith [$as,*]) => `(tactic| simp -implicitDefEqProofs only [Nat.reduceAdd, Nat.reduceMul, Nat.reduceSub, Nat.reduceLeDiff, Nat.reduceLT, Nat.reduceEqDiff, Nat.reduceBEq, Int.reduceAdd, Int.reduceSub, Int.reduceMul, Int.reduceNeg, Int.reduceLT, Int.reduceLE, Int.reduceEq, Int.reduceToNat, Int.reduceBEq, Int.reduceNegSucc, reduceIte, reduceCtorEq, if_true, if_false, Bool.false_eq_true, eq_self, and_self, and_true, true_and, and_false, false_and, decide_true, decide_false, decide_eq_true_eq, List.map_nil, List.map_cons, List.append_nil, List.nil_append, List.cons_append, List.getElem?_cons_zero, List.getElem?_cons_succ, List.set_cons_zero, List.set_cons_succ, List.length_cons, List.length_nil, List.replicate_succ, List.replicate_zero, Option.map_some, Option.bind_some, Bool.not_true, Bool.not_false, Bool.and_true, Bool.true_and, Bool.and_false, Bool.false_and, beq_self_eq_true, List.zip_cons_cons, List.zip_nil_right, List.foldl_cons, List.foldl_nil, Option.isSome_some, Option.isSome_none, ite_true, ite_false, List.length_map, zaf, bind_bad, bind_er, zc3, noEr_bad, then_nx, then_rt, then_bk, then_ct, p_var, p_c, p_bin, p_un, p_nil, p_cons, p_star, p_app, p_frz, zdd, p_and, p_or, p_not, p_if, p_andV, p_orV, p_notV, p_chain, p_skip, p_seq, p_ret, p_retN, p_drop, p_brk, p_cnt, p_asg, p_set, p_par, p_parG, p_aug, p_for, p_while, p_comp, p_sq, p_src, p_yes, p_call, p_meth0, p_meth, p_sl, p_noPart, p_part, p_disp, p_dput, p_fz, p_gN, p_gsN, p_gsC, p_gTp, p_gTt, p_gAp, p_gAt, p_gAl, zda, seqT_t, seqT_l, seqT_s, items_t, items_l, items_s, items_r, litems_l, litems_s, litems_r, hitems_l, hitems_r, asT_t, asT_r, getL_new, zc8, allI_map, allS_map, allB_map, asB_bl, truW_bl, iNeg_i, opI_ii, opC_ii, cYes_t, wLt_ii, wLt_ss, wAdd_ii, isN_n, isN_i, isN_b, isN_t, isB_bb, oInt_i, oAbs_i, oMax2_i, oMin2_i, zej, oLen_t, oLen_r, oTup_t, oTup_l, oListF_l, oListF_t, oListL_l, oListL_t, sqI_l, sqI_t, sqI_s, enum1_1, zip2_2, isL_r, isL_l, isTp_t, freeze_t, freeze_r, fit_n, fit_b, fit_i, fit_s, fit_t, fit_l, fitL_n, fitL_c, eqT_nn, eqT_ii, eqT_bb, eqT_ss, eqT_tt, eqT_ll, eqTL_nn, eqTL_cn, eqTL_nc, eqTL_cc, allT_n, allT_c, lstOf_e, tupOf_e, newL_e, oAppend_r, oPop_r, asK_i, asK_s, dGet_s, ev_for0, ev_for1, ev_atl0, ev_atl1, ev_atl2, ev_atl3, zes, ev_ixt0, ev_ixl1, ev_ixt1, ev_ixl2, ev_ixt2, ev_ixl3, ev_ixt3, ev_atl4, ev_ixl4, ev_ixt4, ev_gt, ev_ge, ev_le, ev_sub, ev_eqi, ev_eqs, ev_eqb, ev_wipe0, ev_wipe1, ev_comp1, $as,*])
local macro_rules | `(tactic| simp_all_arith) => `(tactic| repeat (first | (with_reducible refine zam ?_) | (with_reducible refine zax ?_) | (with_reducible refine zbi ?_) | (with_reducible refine vc_if ?_) | (with_reducible refine vc_test ?_) | (with_reducible refine vc_bin ?_) | (with_reducible refine vc_un ?_) | (with_reducible refine zak ?_) | (with_reducible refine zbb ?_) | (with_reducible refine zct ?_) | (with_reducible refine zfk ?_) | (with_reducible refine vc_callD ?_) | (with_reducible refine vc_and ?_) | (with_reducible refine vc_or ?_) | (with_reducible refine vc_not ?_) | (with_reducible refine za3 ?_) | (with_reducible refine zay ?_) | (with_reducible refine vc_drop ?_) | (with_reducible refine vc_sl ?_) | (with_reducible refine vc_slL ?_) | (with_reducible refine zci ?_) | (with_reducible refine zeg ?_) | (with_reducible refine vc_for ?_) | (with_reducible refine vc_sq ?_) | (with_reducible refine vc_src ?_) | (with_reducible refine vc_asg ?_) | (with_reducible refine vc_fld ?_) | (with_reducible refine vc_c ?_) | ((with_reducible apply za1); · rfl) | (with_reducible refine vc_asB ?_) | ((with_reducible apply vc_fz); · rfl) | (with_reducible refine vc_meth ?_) | (with_reducible refine zeu ?_) | (with_reducible refine zd7 ?_) | (with_reducible refine vc_yes ?_) | ((with_reducible apply vc_lstE); (· rfl); (· exact Nat.le_of_ble_eq_true rfl)) | ((with_reducible apply zew); (· rfl); (· exact Nat.le_of_ble_eq_true rfl)) | (with_reducible refine vc_sqL ?_) | (with_reducible refine vc_sqT ?_) | (with_reducible refine vc_slWl ?_) | (with_reducible refine vc_slWt ?_) | (with_reducible refine vc_slLl ?_) | (with_reducible refine vc_sm ?_) | (with_reducible refine vc_frz ?_) | (with_reducible refine vc_frzD ?_) | (with_reducible refine vc_chain ?_) | (with_reducible refine vc_par2 ?_) | (with_reducible refine vc_parG ?_) | (with_reducible refine Wp.rw wAdd_ii ?_) | (with_reducible refine Wp.rw ev_eqi ?_) | (with_reducible refine Wp.rw ev_eqs ?_) | (with_reducible refine Wp.rw zej ?_) | (with_reducible refine Wp.rw oLen_t ?_) | (with_reducible refine Wp.rw iGt_ii ?_) | (with_reducible refine Wp.rw wLt_ii ?_) | (with_reducible refine Wp.rw ev_sub ?_) | (with_reducible refine Wp.rw ev_le ?_) | (with_reducible refine Wp.rw ev_ge ?_) | (with_reducible refine Wp.rw freeze_t ?_) | (with_reducible refine Wp.ok ?_)))
/-- what isinstance answers -/
def zez : CT → CT → Option Bool := fun t c => match t, c with
 | .inl a, .inl b => kitB a b
 | .inr a, .inr b => if a = b ∧ (a = "Reader") then some true else none
 | _, _ => none
def zd5 : M Bool := zae asB (mBin iGe (mVar 4) (mBin iPow (mC (.int 10)) (mC (.int 18))))
def zfb : M W := mVar 4
def zd6 : M Fl := mSet 3 (mBin iMod (mApp oInt (zab (mBin wAdd (mBin wAdd (mBin wMul (mVar 3) (mC (.int 48271))) (mBin iMod (mApp oInt Ybb) (mC (.int 2147483629)))) (mC (.int 41))) (mNil))) (mC (.int 2147483647)))
def zff : M W := mApp oAbs (zab (mApp oInt Ybb) (mNil))
def B_w_deal : M Fl := mSeq (mSet 2 Yga) (mSeq (mSet 3 (mBin wAdd (mC (.int 49979687)) (mBin wMul (mC (.int 59)) (mVar 1)))) (mSeq (mFor Yco (gN 4) zd6) (mRet (mApp newL (zab (mUn oRevL (zbq zas Yco (gN 4) zd5 zfb [4])) (zab (mVar 3) (mNil)))))))
def F_w_deal : OpN := fnM 2 5 B_w_deal
def zdi : M Fl := mDrop (mMeth0 isL oPop Yb4)
def B_w_draw : M Fl := mSeq (mWhile 4096 (mAnd (zae asB (mBin Yv Yb4 Ya9)) (zae asB (mBin Ys (mBin ixW Yb4 (mUn iNeg Yg)) Yd))) zdi) (mSeq (mIf (zae asB (mBin Yv Yb4 Ya9)) (mSeq (mSet 2 (mMeth0 isL oPop Yb4)) (mSeq (mDrop Yji) (mRet (mBin iMod (mApp oInt Yat) (mVar 1))))) (zbh)) (mSeq (mIput (mVar 0) Yg (mBin iMod Yev (mC (.int 2147483647)))) (mRet (mBin iMod (mApp oInt (zab (mBin iDiv (mBin ixW (mVar 0) Yg) (mC (.int 16))) (mNil))) (mVar 1)))))
def za0 : OpN := fnM 2 3 B_w_draw
def f_w_put_l1 : M Fl := mSeq (mSet 5 (zaq za0 [] (zab (mVar 0) (zab (mBin wAdd Y3 Yg) (mNil))))) (mSet 3 (mBin wAdd Yjj (mSl (mVar 3) (zbt (mVar 5)) zat)))
def B_w_put : M Fl := mSeq (mSet 3 (mApp oListF Yq)) (mSeq (mFor Yco (gN 4) f_w_put_l1) (mRet (mVar 3)))
def F_w_put : OpN := fnM 3 6 B_w_put
def zdr : M Fl := mDrop (zfd isL zb0 (mVar 3) (zab (zfd isL oPopAt (mVar 2) (zab (zaq za0 [] (zab (mVar 0) (zab (mApp oLen Yat) (mNil)))) (mNil))) (mNil)))
def B_w_mixed : M Fl := mSeq (mPar [2, 3] (zab (mApp oListL Yq) (zab (mApp newL (mNil)) (mNil)))) (mSeq (mWhile 4096 (zae asB (mBin Yv (mVar 2) Ya9)) zdr) (mFz 3 (mRet (mVar 3))))
def zcv : OpN := fnM 2 4 B_w_mixed
def B_w_pick : M Fl := mRet (mBin ixW (mVar 1) Yen)
def zcq : OpN := fnM 2 2 B_w_pick
def zdm : M W := mApp za2 (zab Yc0 (zab (zaq zcq [] (zab (mVar 0) Yat)) (mNil)))
def zdn : M W := mApp za2 (zab Yi2 (zab (mVar 7) (mNil)))
def B_w_glances : M Fl := mSeq (mSet 4 (mSl (zaq zcv [] (zab (mVar 0) Yq)) zat (zbt (mBin wAdd Yg Yen)))) (mSeq (mSet 5 (mSl (zbq zas (mSq (mVar 4)) (gN 7) mYes zdn [7]) zat (zbt (mVar 3)))) (mSeq (mSet 6 (zbq zas (mSrc rng1 (zab (zaq za0 [] (zab (mVar 0) Yhq)) (mNil))) (gN 8) mYes zdm [8])) (mRet (zaq F_w_put [] (zab (mVar 0) (zab (mVar 5) (zab (mSl (mVar 6) zat (zbt (mBin iSub (mVar 3) (mApp oLen Yb7)))) (mNil))))))))
def zdh : OpN := fnM 4 9 B_w_glances
def zcm : M W := mApp oStr Yq
def zco : M W := mSM zeq Yay (zbq zas Yco (gN 1) mYes zcm [1])
def B_w_test_texts : M Fl := mRet (zbq zas Ygp (gN 2) mYes zco [2])
def zbx : OpN := fnP 1 3 B_w_test_texts
def zcj : M W := mBin wAdd (mBin wAdd (mVar 1) Yay) (mVar 2)
def B_w_deed_texts : M Fl := mRet (zbq zas Ygp (gT 2 (gsC (gN 1) (gsC (gN 2) gsN))) mYes zcj [1, 2])
def zcb : OpN := fnP 1 3 B_w_deed_texts
def B_w_reader_text : M Fl := mSeq (mSet 1 (mIf (zae asB Yer) Yaz Ycg)) (mRet (mBin wAdd Yej (mVar 1)))
def zcf : OpN := fnP 1 2 B_w_reader_text
def B_w_titles : M Fl := mRet (mSl (zaq zcv [] (zab (mVar 0) (zab (mApp zas (zab (mC (.str "move")) (zab (mC (.str "add")) (zab (mC (.str "w")) (zab (mC (.str "both")) (zab (mC (.str "r")) (zab (mC (.str "iff")) (zab (mC (.str "zzzz")) (mNil))))))))) (mNil)))) zat (zbt (mVar 1)))
def ze6 : OpN := fnM 2 2 B_w_titles
def zc1 : M Fl := mIf (mAnd (zae asB (mBin iGt (mVar 5) (mVar 4))) (mAnd (zae asB Yij) (zae asB (mBin iGt Ycq Yd)))) (mDrop (zfd isL zb0 (mVar 3) (zab (mApp za2 (zab Yfp (zab (mVar 4) Yb7))) (mNil)))) (zbh)
def zem : M Fl := mSeq (mIf (zae asB (mBin Ys Ycq Yd)) (mDrop (zfd isL zb0 (mVar 3) (zab (mApp za2 (zab Ygy Ybb)) (mNil)))) (zbh)) (mFor Yco (gN 5) zc1)
def zds : M Bool := zae asB (mBin Ys (mBin ixW (mVar 6) Yd) Yc0)
def zdq : M W := mVar 4
def B_w_tests : M Fl := mSeq (mPar [2, 3] (zab (zbq zas (mSrc enum1 Yq) (gT 2 (gsC (gN 4) (gsC (gN 6) gsN))) zds zdq [4, 6]) (zab (mApp newL (mNil)) (mNil)))) (mSeq (mFor Yco (gN 4) zem) (mFz 3 (mRet (mSl (zaq zcv [] (zab (mVar 0) (zab (mVar 3) (mNil)))) zat (zbt (mC (.int 4)))))))
def ze2 : OpN := fnM 2 7 B_w_tests
def B_Reader_str : M Fl := mSeq (mPar [1, 2] (zab (mSM zeq Ycb (mFld ["Reader"] "steps" (mVar 0))) (zab (mSM zeq Ycb Yfb) (mNil)))) (mSeq (mIf (zae asB (mBin Ys (mApp oLen (zab Yfb (mNil))) Yd)) (mRet (mJoined (ze3 (mC Ycw) (ze3 (mUn oFmt Yi3) (ze3 Yic (ze3 (mUn oFmt (mVar 1)) (mJNil))))))) (zbh)) (mRet (mJoined (ze3 (mC Ycw) (ze3 (mUn oFmt Yi3) (ze3 Yic (ze3 (mUn oFmt (mVar 1)) (ze3 Ygz (ze3 (mUn oFmt (mVar 2)) (mJNil))))))))))
def zbp : OpN := fnP 1 3 B_Reader_str
def B_named_in : M Fl := mSeq (mAsg (mSM zau (mVar 0) Yic) (gA 3 (gsC (gN 2) (gsC (gN 3) (gsC (gN 4) gsN))))) (mRet (mIf (zae truW (mSM zdg (mVar 2) (mVar 1))) (mApp za2 (zab (mSl (mVar 2) (zbt (mApp oLen Yq)) zat) Ybb)) (mApp za2 (zab Ycg (zab Ycg (mNil))))))
def zd3 : OpN := fnP 2 5 B_named_in
def zek : M W := mBin (inS false) (mVar 1) (mC Yik)
def B_is_name : M Fl := mSeq (mIf (mOr (mNot Y1) (mOr (zae asB Ydo) (mNot (zae asB (mChain iLe iLe Yg Yh4 (mC (.int (4)))))))) (mRet (mC Ycd)) (zbh)) (mRet (mApp oAll (zab (zbq zas (mStrI (mVar 0)) (gN 1) mYes zek [1]) (mNil))))
def zbw : OpN := fnP 1 2 B_is_name
def B_is_sequence : M Fl := mRet (mApp (oIsi zez) (zab (mVar 0) (zab (mApp za2 (zab (mC (.ty "list")) (zab (mC (.ty "tuple")) (mNil)))) (mNil))))
def za6 : OpN := fnP 1 1 B_is_sequence
def B_deed_in : M Fl := mSeq (mIf (mNot Y1) (mRet Yag) (zbh)) (mSeq (mSet 2 (mSM zbl (mVar 0) Yay)) (mSeq Yby (mRet (mApp za2 (zab Yb9 (zab (mBin ixW (mVar 2) Yg) (mNil)))))))
def zex : OpN := fnP 2 3 B_deed_in
def zbo : M Bool := mAnd (zae asB (mBin Yis (mVar 5) Yag)) (zae asB Yeo)
def zbv : M W := mBin ixW (mVar 5) Yg
def zb6 : M W := zaq zex [] (zab (mVar 4) Yq)
def B_deeds_in : M Fl := mSeq (mIf (mNot Ydq) (mRet Yag) (zbh)) (mSeq (mSet 2 (zbq zas Ygp (gN 4) mYes zb6 [4])) (mSeq (mSet 3 (zbq zas Yco (gN 5) zbo zbv [5])) (mRet (mIf (mOr (zae asB Yf5) (zae asB (mBin Yv (zfm (mVar 3)) Y3))) Yag (mApp oTup Yat)))))
def zca : OpN := fnP 2 6 B_deeds_in
def zb9 : M W := mBin (inS false) (mVar 2) (mC (.str "0123456789"))
def B_number_in : M Fl := mSeq (mIf (mOr (mNot (zae asB (mChain iLe iLe Yg Yh4 (mVar 1)))) (mNot Ygg)) (mRet Yag) (zbh)) (mRet (mIf (mAnd (zae asB (mBin Ys Yb4 (mC (.str "0")))) (zae asB (mBin Yv (mVar 0) (mC (.str "0"))))) Yag (mApp oIntS Y7)))
def zeb : OpN := fnP 2 3 B_number_in
def B_spot_in : M Fl := mSeq (mSet 2 (zaq zeb [] (zab (mVar 0) (zab (mC (.int (9))) (mNil))))) (mRet (mIf (mAnd (zae asB (mBin Yis (mVar 2) Yag)) (mAnd (zae asB (mBin wLt (mVar 2) (mApp oLen Yq))) (zae asB (mBin Ys (mBin ixW (mBin ixW (mVar 1) (mVar 2)) Yd) Yc0)))) (mVar 2) Yag))
def F_spot_in : OpN := fnP 2 3 B_spot_in
def zdp : M W := zaq F_spot_in [] (zab (mVar 4) Yq)
def B_test_in : M Fl := mSeq (mIf (mNot Y1) (mRet Yag) (zbh)) (mSeq (mSet 2 (mSM zbl (mVar 0) Yay)) (mSeq (mSet 3 (zbq zas (mSq (mSl (mVar 2) (zbt Yg) zat)) (gN 4) mYes zdp [4])) (mSeq (mIf (zae asB (mBin (inW false) Yag (mVar 3))) (mRet Yag) (zbh)) (mSeq (mIf (mAnd (zae asB (mBin Ys Yb9 Ygy)) (zae asB (mBin Ys Y3 Yg))) (mRet (mApp za2 (zab Ygy (zab Yjk (mNil))))) (zbh)) (mSeq (mIf (mOr (zae asB (mBin Yv Yb9 Yfp)) (mOr (zae asB (mBin Yv Y3 Yb8)) (zae asB Yeb))) (mRet Yag) (zbh)) (mRet (mIf (zae asB Ydg) (mApp za2 (zab Yfp Yb0)) Yag)))))))
def F_test_in : OpN := fnP 2 5 B_test_in
def zc4 : M W := zaq F_test_in [] (zab (mVar 3) Yq)
def B_tests_in : M Fl := mSeq (mIf (mNot Ydq) (mRet Yag) (zbh)) (mSeq (mSet 2 (zbq zas Ygp (gN 3) mYes zc4 [3])) (mRet (mIf (mOr (zae asB Yf5) (zae asB (mBin Yv (mLenSetGr (mVar 2)) (mApp oLen Yat)))) Yag (mApp oTup Yat))))
def zcp : OpN := fnP 2 4 B_tests_in
def zba : M W := mVar 6
def ze9 : M Fl := mSeq (mIf (mNot (zae truW (zaq zbw [] Yq))) (mRaise (mExc "InvalidReader" "word" (zab (mC (.str "name")) (mNil)))) (zbh)) (mSeq (mSet 4 (zaq zca [] Ygk)) (mSeq (mIf (mOr (zae asB (mBin (isN false) (mVar 4) Yag)) (zae asB Ya1)) (mRaise (mExc "InvalidReader" "word" (zab (mC (.str "steps")) (mNil)))) (zbh)) (mSeq (mSet 5 (zaq zcp [] (zab (mVar 3) Ybb))) (mSeq (mIf (zae asB (mBin (isN false) (mVar 5) Yag)) (mRaise (mExc "InvalidReader" "word" (zab (mC (.str "checks")) (mNil)))) (zbh)) (mSeq (mFldSet ["Reader"] "name" (mVar 0) (mVar 1)) (mSeq (mFldSet ["Reader"] "steps" (mVar 0) (mApp oTup Yat)) (mSeq (mFldSet ["Reader"] "checks" (mVar 0) (mApp oTup (zab (mVar 3) (mNil)))) (mSeq (mFldSet ["Reader"] "deeds" (mVar 0) (mVar 4)) (mFldSet ["Reader"] "tests" (mVar 0) (mVar 5))))))))))
def za4 : OpN := fnX 4 8 ze9
def zdv : M Fl := mRet Ye4
def zcx : M Ex := mExc "InvalidText" "at" (zab Yd (mNil))
def B_Reader_read : M Fl := mSeq (mAsg (zaq zd3 [] (zab (mVar 1) (zab (mC Ycw) (mNil)))) (gA 2 (gsC (gN 2) (gsC (gN 3) gsN)))) (mSeq (mAsg (mSM zau (mVar 3) Ygz) Yfg) (mSeq (mIf (mAnd (zae asB (mBin Yv (mVar 5) Ycg)) (zae asB (mBin Ys (mVar 6) Ycg))) (mRaise (mExc "InvalidText" "at" (zab Yd (mNil)))) (zbh)) (zfl (hitC "InvalidReader") 7 zdv zcx)))
def zd2 : OpN := fnX 2 8 B_Reader_read
def f_w_heard_l1 : M Fl := mSet 1 (mApp (oStrO [("Reader", zbp)]) (zab (mCMeth "Reader" zd2 [] (mC (.cls "Reader")) Y7) (mNil)))
def f_w_heard_l2 : Ex → M Fl := fun ex => mSeq (mSet 1 (mIf (mAnd (zae asB (mC (.bl true))) (mNot (zae asB (mC Ycd)))) (mXF "at" ex) (mC (.str "other")))) (zbh)
def B_w_heard : M Fl := mSeq (mSet 1 Yag) (mSeq (mTryAs 2 f_w_heard_l1 [("InvalidText", hitC "InvalidText", f_w_heard_l2)]) (mRet (mVar 1)))
def zb7 : OpN := fnP 1 3 B_w_heard
def zcw : M Bool := zae asB (mBin (inS true) (mVar 1) (mC Yik))
def zdl : M W := mVar 1
def B_w_is_name : M Fl := mSeq (mIf (mOr (zae asB Ya8) (mNot (zae asB (mChain wLt wLt Yd Yh4 (mC (.int 5)))))) (mRet (mC Ycd)) (zbh)) (mRet (mBin Ys (zbq zas (mStrI (mVar 0)) (gN 1) zcw zdl [1]) Ya9))
def zb4 : OpN := fnP 1 2 B_w_is_name
def zb1 : M Bool := zae asB (mBin Ys (mVar 4) Yi2)
def zce : M W := mC (.int 1)
def zc5 : M Fl := mSeq (mSet 3 (mSM zbl (mVar 2) Yay)) (mSeq Yb2 (mSeq (mIf (mAnd (zae asB (mBin Ys Yjk Yi2)) (zae asB (mBin (inW false) (mApp za2 Yb0) (mVar 1)))) (mRet Yag) (zbh)) (mDrop (zfd isL zb0 (mVar 1) (zab (mApp za2 Yb0) (mNil))))))
def B_w_deeds_in : M Fl := mSeq (mSet 1 (mApp newL (mNil))) (mSeq (mFor (mSq (mSM zbl (mVar 0) Ycb)) (gN 2) zc5) (mFz 1 (mRet (mIf (zae asB Yfs) (mVar 1) Yag))))
def zdu : OpN := fnP 1 6 B_w_deeds_in
def zcz : M Bool := mAnd (zae asB (mBin Ys (mApp oStr Yb7) (mVar 3))) (zae asB (mBin Ys (mBin ixW (mBin ixW (mVar 1) (mVar 5)) Yd) Yc0))
def zdo : M W := mVar 5
def zep : M Fl := mSeq (mSet 4 (zbq zas (mSrc rng1 (zab (mApp oLen Yq) (mNil))) (gN 5) zcz zdo [5])) (mDrop Ye5)
def B_w_spots : M Fl := mSeq (mSet 2 (mApp newL (mNil))) (mSeq (mFor Ygp (gN 3) zep) (mFz 2 (mRet (mVar 2))))
def F_w_spots : OpN := fnP 2 6 B_w_spots
def zcl : M Fl := mSeq (mSet 4 (mSM zbl (mVar 3) Yay)) (mSeq (mSet 5 (zaq F_w_spots [] (zab (mSl (mVar 4) (zbt Yg) zat) Yq))) (mSeq Yc Ya))
def B_w_are_checks : M Fl := mSeq (mSet 2 (mSM zbl (mVar 0) Ycb)) (mSeq (mFor Yco (gN 3) zcl) (mRet (mBin Ys (zfm (mVar 2)) (mApp oLen Yat))))
def zdk : OpN := fnP 2 6 B_w_are_checks
def B_w_is_reader : M Fl := mSeq (mAsg (mSM zau (mVar 0) Yic) (gA 3 (gsC (gN 1) (gsC (gN 2) (gsC (gN 3) gsN))))) (mSeq (mIf (mOr (zae asB (mBin Ys (mVar 2) Ycg)) (mOr (zae asB (mBin Yv (mSl (mVar 1) zat (zbt (mC (.int 7)))) (mC Ycw))) (mNot Yg9))) (mRet (mC Ycd)) (zbh)) (mSeq (mAsg (mSM zau (mVar 3) Ygz) Yfg) (mSeq (mSet 7 (zaq zdu [] Ybb)) (mRet (mAndV (mBin Yis (mVar 7) Yag) (mOrV (mBin Ys (mVar 5) Ycg) (zaq zdk [] (zab (mVar 6) (zab (mVar 7) (mNil))))))))))
def zck : OpN := fnP 1 8 B_w_is_reader
def f_law_l1 : M Fl := mSeq (mPar [9, 10] (zab (zaq za0 [] Yg4) (zab (zaq za0 [] (zab (mVar 3) Yhq)) (mNil)))) (mSeq (mSet 11 (mSM zeq Yay (mBin wAdd (mBin wAdd (mSl (mVar 7) zat (zbt (mVar 9))) (mApp zas (zab (zaq zcq [] (zab (mVar 3) Yq)) (mNil)))) (mSl (mVar 7) (zbt (mBin wAdd (mVar 9) (zaq za0 [] (zab (mVar 3) (zab Yb8 (mNil)))))) zat)))) (mSeq (mIf (zae asB (mBin Ys (mVar 10) Yd)) Ydr (zbh)) (mSeq (mIf (zae asB (mBin Ys (mVar 10) Yg)) Yb6 (zbh)) (mIf (zae asB (mBin Yv (mApp oRepr (zab (zaq zb7 [] Ygu) (mNil))) (mApp oRepr (zab (mIf (zae truW (zaq zck [] Ygu)) (mVar 11) Yd) (mNil))))) (mRet (mC Ycd)) (zbh)))))
def f_law_l2 : M Fl := mSeq (mSet 5 (zaq F_w_put [] (zab (mVar 3) (zab (zaq zdh [] Ybe) (zab (mBin wMul Yhl Yb8) (mNil)))))) (mSeq (mSet 6 (zaq zcf [] (zab (mApp za2 (zab (mBin ixW (zaq ze6 [] (zab (mVar 3) (zab Yg (mNil)))) Yd) (zab (mVar 5) (zab (zaq ze2 [] (zab (mVar 3) Yb7)) (mNil))))) (mNil)))) (mSeq (mIf (zae asB (mBin Yv (zaq zb7 [] (zab (mVar 6) (mNil))) (mVar 6))) (mRet (mC Ycd)) (zbh)) (mSeq (mSet 7 (mSM zbl (mVar 6) Yay)) (mFor (mSrc rng1 Yhq) (gN 8) f_law_l1))))
def f_law_l3 : M Fl := mSeq (mSet 3 (zaq F_w_deal [] (zab (mVar 0) Yat))) (mFor (mSrc rng1 (zab (mC (.int 6)) (mNil))) (gN 4) f_law_l2)
def B_law : M Fl := mSeq (mSet 1 Yu) (mSeq (mDrop (zfd isL zb0 (mVar 1) (zab (mC (.str "abcde")) (mNil)))) (mFz 1 (mSeq (mFor (mSrc rng1 (zab (mApp oMax2 (zab Yg (zab (mApp oMin2 (zab (mC (.int 3)) (zab Yh4 (mNil)))) (mNil)))) (mNil))) (gN 2) f_law_l3) (mRet (mAndV (mBin Ys (zaq zb7 [] (zab Ycg (mNil))) Yd) (mBin Ys Yjl Yd))))))
def F_law : OpN := fnM 1 13 B_law
/-- where the draws lie: the list i, the great cells j -/
structure DealAt (i j : Nat) (gs : List Int) (st : Int) (hp : IH) : Prop where
 d : getL hp i = some [.r j, .t (.int st)]
 g : getL hp j = some (gs.map wI)
 len : gs.length ≤ 63
 lo : 0 ≤ st
 hi : st < 2147483647
theorem DealAt.ne {i j : Nat} {gs : List Int} {st : Int} {hp : IH} (h : DealAt i j gs st hp) : i ≠ j := by
 intro e
 subst e
 have a := h.d
 rw [h.g] at a
 cases gs with
 | nil => cases a
 | cons x xs => simp [wI] at a
theorem ne_nil {gs : List Int} {hp : IH} {j : Nat} (h : getL hp j = some (gs.map wI)) : eqW true (.r j) (.t (.lst [])) hp = .ok (.t (.bl (!gs.isEmpty))) hp := by
 unfold eqW
 simp only [asT_r, h, Option.bind_some, allT_ints, Option.map_some, asT_t, fit_l, fitL_ints, fitL_n]
 cases gs <;> simp
abbrev popT : M Bool := mAnd (zae asB (mBin Yv Yb4 Ya9)) (zae asB (mBin Ys (mBin ixW Yb4 (mUn iNeg Yg)) Yd))
theorem at0 {a b : W} : atI [a, b] 0 = some a := rfl
theorem at1 {a b : W} : atI [a, b] 1 = some b := rfl
theorem pop_loop {i j : Nat} {wd : W} {c : Option W} {st : Int} (hij : i ≠ j) : ∀ (n : Nat) (gs : List Int) (hp : IH), gs.length < n → getL hp i = some [.r j, .t (.int st)] → getL hp j = some (gs.map wI) →
  ∃ gs' : List Int, gs'.length ≤ gs.length ∧ ze1 popT zdi n [some (.r i), some wd, c] hp = .ok (.nx [some (.r i), some wd, c]) (hp.set j (some (.lst (gs'.map wI)))) := by
 intro n
 induction n with
 | zero => intro gs hp h; omega
 | succ n ih =>
  intro gs hp h hd hg
  have hj := zfj hg
  have g0 : mBin ixW (mVar 0) Yd [some (.r i), some wd, c] hp = .ok (.r j) hp := binP rfl rfl (by rw [ixW_r, hd, Option.bind_some, at0])
  rcases List.eq_nil_or_concat gs with e | ⟨ys, y, e⟩
  ·subst e
   refine ⟨[], Nat.le_refl _, ?_⟩
   unfold ze1 popT
   rw [p_and, za8 (binP g0 rfl (ne_nil hg)), zaf]
   simp
   exact (set_same (zcy hg)).symm
  ·rw [List.concat_eq_append] at e
   subst e
   have hg' : getL hp j = some (ys.map wI ++ [wI y]) := by rw [hg]; simp
   have t1 : popT [some (.r i), some wd, c] hp = .ok (decide (y = 0)) hp := by
    unfold popT
    rw [p_and, za8 (binP g0 rfl (ne_nil hg)), zaf, if_pos Y4]
    refine za8 (binP (binP g0 rfl (b := .t (.int (-1))) (r := .ok (.t (.int y)) hp) ?_) rfl ?_)
    ·rw [ixW_r, hg', Option.bind_some, atI_end]
    ·by_cases hy : y = 0 <;> simp [hy]
   unfold ze1
   rw [t1, zaf]
   by_cases hy : y = 0
   ·obtain ⟨gs', l, q⟩ := ih ys Yai (by simp at h; omega) (by rw [getL_ne hij.symm]; exact hd) (zc8 hj)
    refine ⟨gs', by simp; omega, ?_⟩
    have body : zdi [some (.r i), some wd, c] hp = .ok (.nx [some (.r i), some wd, c]) Yai := by
     unfold zdi
     rw [p_drop, p_meth0, g0, zaf]
     simp [hg', wI]
    rw [decide_eq_true hy, if_pos rfl, body, zaf]
    simp only [q, List.set_set]
   ·refine ⟨ys ++ [y], Nat.le_refl _, ?_⟩
    rw [decide_eq_false hy, if_neg Ybz]
    rw [set_same (zcy hg)]
theorem draw_ok {i j : Nat} {gs : List Int} {st : Int} {hp : IH} {wide : Int} (d : DealAt i j gs st hp) (hw : 0 < wide) (hw2 : wide < 2 ^ 64) :
  ∃ (n : Int) (hp' : IH) (gs' : List Int) (st' : Int), za0 [.r i, .t (.int wide)] hp = .ok (.t (.int n)) hp' ∧ 0 ≤ n ∧ n < wide ∧ DealAt i j gs' st' hp' ∧ hp'.length = hp.length ∧ ∀ k, k ≠ i → k ≠ j → hp'[k]? = hp[k]? := by
 obtain ⟨hd, hg, hl, lo, hi⟩ := d
 have hne : i ≠ j := DealAt.ne ⟨hd, hg, hl, lo, hi⟩
 have hj := zfj hg
 have hi' := zfj hd
 obtain ⟨g2, l2, q2⟩ := pop_loop (i := i) (j := j) (wd := .t (.int wide)) (c := none) hne 4096 gs hp Yb hd hg
 have hd2 : getL Ybc i = some [.r j, .t (.int st)] := by rw [getL_ne hne.symm]; exact hd
 have hg2 : getL Ybc j = some (g2.map wI) := zc8 hj
 have hmod : ∀ x : Int, 0 ≤ x % wide ∧ x % wide < wide := fun x => ⟨Int.emod_nonneg _ Yb, Int.emod_lt_of_pos _ hw⟩
 have g0 : ∀ (a : Option W), mBin ixW (mVar 0) Yd [some (.r i), some Ybf, a] Ybc = .ok (.r j) Ybc := fun a => binP rfl rfl (by rw [ixW_r, hd2, Option.bind_some, at0])
 have g1 : ∀ (a : Option W), mBin ixW (mVar 0) Yg [some (.r i), some Ybf, a] Ybc = .ok (.t (.int st)) Ybc := fun a => binP rfl rfl (by rw [ixW_r, hd2, Option.bind_some, at1])
 have ww : mWhile 4096 popT zdi [some (.r i), some Ybf, none] hp = .ok (.nx [some (.r i), some Ybf, none]) Ybc := q2
 have cn := ne_nil hg2
 rcases List.eq_nil_or_concat g2 with e | ⟨ys, y, e⟩
 ·subst e
  refine ⟨((st * 48271 + 43) % 2147483647 / 16) % wide, (hp.set j Yac).set i Yao, [], (st * 48271 + 43) % 2147483647, ?_, (hmod _).1, (hmod _).2, ⟨?_, ?_, ?_, ?_, ?_⟩, ?_, ?_⟩
  ·have c1 : cMul st 48271 = true := cMul_ok Yb Yb
   have hi2 : i < (hp.set j Yac).length := by simpa using hi'
   refine fnM_ok (eta := [some (.r i), some Ybf, none]) rfl rfl ?_
   unfold B_w_draw
   refine zcg ww ?_
   refine zcg (h1 := hp.set j Yac) (e1 := [some (.r i), some Ybf, none]) ?_ ?_
   ·rw [if_no (za8 (binP (g0 none) rfl cn))]
    rfl
   ·have ev : mBin iMod Yev (mC (.int 2147483647)) [some (.r i), some Ybf, none] (hp.set j Yac) = .ok (.t (.int ((st * 48271 + 43) % 2147483647))) (hp.set j Yac) := by
     refine binP (zcn (binP (binP (g1 none) rfl (wMul_ok c1)) rfl wAdd_ii) oInt_i) rfl ?_
     exact iMod_ok (cMod_ok Yb)
    refine zcg (e1 := [some (.r i), some Ybf, none]) (h1 := (hp.set j Yac).set i Yao) ?_ ?_
    ·exact iput_ok (k := 1) ev rfl rfl hd2 Y4
    ·rw [p_ret]
     have h3 : mBin ixW (mVar 0) Yg [some (.r i), some Ybf, none] ((hp.set j Yac).set i Yao) = .ok (.t (.int ((st * 48271 + 43) % 2147483647))) ((hp.set j Yac).set i Yao) := binP rfl rfl (by rw [ixW_r, zc8 hi2, Option.bind_some, at1])
     have c3 : ∀ x, cDiv x 16 = true := fun x => cDiv_ok Yb Yb
     rw [binP (r := .ok (.t (.int (((st * 48271 + 43) % 2147483647 / 16) % wide))) ((hp.set j Yac).set i Yao)) (zcn (binP h3 rfl (iDiv_ok (c3 _))) oInt_i) rfl (iMod_ok (cMod_ok hw)), zaf]
  ·rw [zc8 (by simpa using hi')]
  ·rw [getL_ne hne, zc8 (by simpa using hj)]
  ·simp
  ·exact Int.emod_nonneg _ Yb
  ·exact Int.emod_lt_of_pos _ Yb
  ·simp
  ·intro k h1 h2
   rw [List.getElem?_set_ne (Ne.symm h1), List.getElem?_set_ne (Ne.symm h2)]
 ·rw [List.concat_eq_append] at e
  subst e
  have hg3 : getL (hp.set j (some (.lst ((ys ++ [y]).map wI)))) j = some (ys.map wI ++ [wI y]) := by rw [hg2]; simp
  refine ⟨y % wide, hp.set j Ydt, ys ++ [y / wide], st, ?_, (hmod _).1, (hmod _).2, ⟨?_, ?_, ?_, lo, hi⟩, ?_, ?_⟩
  ·have hl2 : ys.length < 16777216 := by simp at l2; omega
   refine fnM_ok (eta := [some (.r i), some Ybf, none]) rfl rfl ?_
   unfold B_w_draw
   refine zcg ww ?_
   rw [p_seq, if_yes (za8 (binP (g0 none) rfl (cn.trans Y4)))]
   have e1 : mSet 2 (mMeth0 isL oPop Yb4) [some (.r i), some Ybf, none] (hp.set j (some (.lst ((ys ++ [y]).map wI)))) = .ok (.nx [some (.r i), some Ybf, some (.t (.int y))]) Yai := by
    refine (set_ok (w := .t (.int y)) (h1 := hp.set j (some (.lst (ys.map wI)))) ?_).trans rfl
    rw [p_meth0, g0, zaf]
    simp [hj, zc8, wI]
   have hd3 : getL Yai i = some [.r j, .t (.int st)] := by rw [getL_ne hne.symm]; exact hd
   have g3 : mBin ixW (mVar 0) Yd [some (.r i), some Ybf, some (.t (.int y))] Yai = .ok (.r j) Yai := binP rfl rfl (by rw [ixW_r, hd3, Option.bind_some, at0])
   have dv : mBin iDiv (mVar 2) (mVar 1) [some (.r i), some Ybf, some (.t (.int y))] Yai = .ok (.t (.int (y / wide))) Yai := binP rfl rfl (iDiv_ok (cDiv_ok hw hw2))
   have e2 : mDrop Yji [some (.r i), some Ybf, some (.t (.int y))] Yai = .ok (.nx [some (.r i), some Ybf, some (.t (.int y))]) (hp.set j Ydt) := by
    rw [p_drop, p_meth, g3, zaf]
    simp only [isL_r, zc8 hj, Option.isSome_some, if_true, p_cons, dv, zaf, p_nil, oAppend_r, List.length_map, hl2, List.set_set]
    simp [wI]
   rw [zcg e1 (zcg e2 (r := .ok (.rt (.t (.int (y % wide)))) (hp.set j Ydt)) ?_)]
   ·rfl
   ·rw [p_ret, binP (r := .ok (.t (.int (y % wide))) (hp.set j Ydt)) (zcn rfl oInt_i) rfl (iMod_ok (cMod_ok hw)), zaf]
  ·rw [getL_ne hne.symm]; exact hd
  ·rw [zc8 hj]
  ·simp at l2 ⊢; omega
  ·simp
  ·intro k h1 h2
   rw [List.getElem?_set_ne (Ne.symm h2)]
theorem DealAt.ltA {i j : Nat} {gs : List Int} {st : Int} {hp : IH} (h : DealAt i j gs st hp) : i < hp.length ∧ j < hp.length := ⟨zfj h.d, zfj h.g⟩
theorem DealAt.keepA {i j : Nat} {gs : List Int} {st : Int} {hp hp' : IH} (h : DealAt i j gs st hp) (h1 : hp'[i]? = hp[i]?) (h2 : hp'[j]? = hp[j]?) : DealAt i j gs st hp' := by
 obtain ⟨a, b, c, e, f⟩ := h
 exact ⟨by unfold getL at a ⊢; rw [h1]; exact a, by unfold getL at b ⊢; rw [h2]; exact b, c, e, f⟩
/-- the draws lie at i and j -/
def Deal (i j : Nat) (hp : IH) : Prop := ∃ gs st, DealAt i j gs st hp
theorem Deal.ne {i j : Nat} {hp : IH} (d : Deal i j hp) : i ≠ j := let ⟨_, _, h⟩ := d; h.ne
theorem Deal.lt {i j : Nat} {hp : IH} (d : Deal i j hp) : i < hp.length ∧ j < hp.length := let ⟨_, _, h⟩ := d; h.ltA
/-- cells besides the draws' stay -/
def Ext (i j : Nat) (hp hp' : IH) : Prop := hp.length ≤ hp'.length ∧ ∀ k, k < hp.length → k ≠ i → k ≠ j → hp'[k]? = hp[k]?
theorem Ext.refl {i j : Nat} {hp : IH} : Ext i j hp hp := ⟨Nat.le_refl _, fun _ _ _ _ => rfl⟩
theorem Ext.trans {i j : Nat} {a b c : IH} (h : Ext i j a b) (g : Ext i j b c) : Ext i j a c :=
 ⟨Nat.le_trans h.1 g.1, fun k hk h1 h2 => (g.2 k (Nat.lt_of_lt_of_le hk h.1) h1 h2).trans (h.2 k hk h1 h2)⟩
theorem Deal.keep {i j : Nat} {hp hp' : IH} (d : Deal i j hp) (h1 : hp'[i]? = hp[i]?) (h2 : hp'[j]? = hp[j]?) : Deal i j hp' := by
 obtain ⟨gs, st, h⟩ := d
 exact ⟨gs, st, h.keepA h1 h2⟩
theorem zee {i j : Nat} {hp : IH} {wide : Int} (d : Deal i j hp) (hw : 0 < wide) (hw2 : wide < 2 ^ 64) :
  ∃ (n : Int) (hp' : IH), za0 [.r i, .t (.int wide)] hp = .ok (.t (.int n)) hp' ∧ 0 ≤ n ∧ n < wide ∧ Deal i j hp' ∧ hp'.length = hp.length ∧ ∀ k, k ≠ i → k ≠ j → hp'[k]? = hp[k]? := by
 obtain ⟨gs, st, h⟩ := d
 obtain ⟨n, hp', gs', st', h1, h2, h3, h4, h5, h6⟩ := draw_ok h hw hw2
 exact ⟨n, hp', h1, h2, h3, ⟨gs', st', h4⟩, h5, h6⟩
theorem pick_is {i j : Nat} {hp : IH} {ts : List T} (d : Deal i j hp) (h0 : 0 < ts.length) (h1 : ts.length < 2 ^ 60) :
  ∃ (t : T) (hp' : IH), t ∈ ts ∧ zcq [.r i, .t (.lst ts)] hp = .ok (.t t) hp' ∧ Deal i j hp' ∧ Ext i j hp hp' := by
 obtain ⟨n, hp', e, n0, n1, d', l, k⟩ := zee (wide := ts.length) d Yb Yb
 have hn : n.toNat < ts.length := by omega
 refine ⟨ts[n.toNat], hp', List.getElem_mem _, ?_, d', ⟨by omega, fun q _ h2 h3 => k q h2 h3⟩⟩
 have ha : atI Yr n = some (.t ts[n.toNat]) := by
  rw [atI_nn n0 (by simpa using n1)]
  simp [hn]
 simp [zcq, fnM, B_w_pick, e, ha]
theorem neT_nil {ts : List T} {hp : IH} {j : Nat} (h : getL hp j = some Yr) (f : fitL ts 59 = true) : eqW true (.r j) (.t (.lst [])) hp = .ok (.t (.bl (!ts.isEmpty))) hp := by
 unfold eqW
 simp only [asT_r, h, Option.bind_some, zda, Option.map_some, asT_t, fit_l, fitL_n, f]
 cases ts <;> simp
theorem seqIx {n : Int} {m : Nat} (h0 : 0 ≤ n) (h1 : n < m) : seqIndex? n m = some n.toNat := by
 unfold seqIndex?
 simp only [show ¬ n < 0 by omega, if_false]
 simp [h0, h1]
theorem mix_loop {i j a b : Nat} {w1 : W} (hab : a ≠ b) (hia : i ≠ a) (hib : i ≠ b) (hja : j ≠ a) (hjb : j ≠ b) : ∀ (n : Nat) (xs ys : List T) (hp : IH), xs.length < n → ys.length + xs.length < 1000000 → fitL xs 59 = true →
  getL hp a = some Yip → getL hp b = some (ys.map W.t) → Deal i j hp →
  ∃ (zs : List T) (hp' : IH), zs.Perm xs ∧ ze1 (zae asB (mBin Yv (mVar 2) Ya9)) zdr n [some (.r i), some w1, some (.r a), some (.r b)] hp = .ok (.nx [some (.r i), some w1, some (.r a), some (.r b)]) hp' ∧
   getL hp' b = some ((ys ++ zs).map W.t) ∧ Deal i j hp' ∧ hp'.length = hp.length ∧ ∀ k, k ≠ i → k ≠ j → k ≠ a → k ≠ b → hp'[k]? = hp[k]? := by
 intro n
 induction n with
 | zero => intro xs ys hp h; omega
 | succ n ih =>
  intro xs ys hp h hz hf ha hb d
  cases xs with
  | nil =>
   refine ⟨[], hp, .refl _, ?_, by simpa using hb, d, rfl, fun _ _ _ _ _ => rfl⟩
   unfold ze1
   simp [neT_nil ha hf]
  | cons x0 xr =>
   obtain ⟨m, h1, e, m0, m1, d1, l1, k1⟩ := zee (wide := (x0 :: xr).length) d Yd2 (by simp only [List.length_cons] at hz ⊢; omega)
   have hm : m.toNat < (x0 :: xr).length := by omega
   have ha1 : getL h1 a = some ((x0 :: xr).map W.t) := by rw [getL_keep (k1 a hia.symm hja.symm)]; exact ha
   have hb1 : getL h1 b = some (ys.map W.t) := by rw [getL_keep (k1 b hib.symm hjb.symm)]; exact hb
   have la1 := zfj ha1
   have lb1 := zfj hb1
   let h2 := h1.set a (some (.lst (((x0 :: xr).eraseIdx m.toNat).map W.t)))
   have hb2 : getL h2 b = some (ys.map W.t) := by rw [getL_ne hab]; exact hb1
   have lb2 : b < h2.length := by simpa [h2] using lb1
   let h3 := h2.set b (some (.lst ((ys ++ [(x0 :: xr)[m.toNat]]).map W.t)))
   have ha3 : getL h3 a = some (((x0 :: xr).eraseIdx m.toNat).map W.t) := by rw [getL_ne hab.symm, zc8 la1]
   have hb3 : getL h3 b = some ((ys ++ [(x0 :: xr)[m.toNat]]).map W.t) := zc8 lb2
   have d3 : Deal i j h3 := d1.keep (by simp only [h3, h2]; rw [List.getElem?_set_ne hib.symm, List.getElem?_set_ne hia.symm]) (by simp only [h3, h2]; rw [List.getElem?_set_ne hjb.symm, List.getElem?_set_ne hja.symm])
   have el : ((x0 :: xr).eraseIdx m.toNat).length = xr.length := by rw [List.length_eraseIdx, if_pos hm]; rfl
   obtain ⟨zs, hp', p, q, r, d', l', k'⟩ := ih ((x0 :: xr).eraseIdx m.toNat) (ys ++ [(x0 :: xr)[m.toNat]]) h3 (by rw [el]; simp at h; omega) (by rw [el]; simp at hz ⊢; omega) (fitL_erase _ hf) ha3 hb3 d3
   refine ⟨(x0 :: xr)[m.toNat] :: zs, hp', (p.cons _).trans (erase_perm _ _ hm), ?_, by simpa using r, d', by rw [l']; simp [h3, h2, l1], fun k c1 c2 c3 c4 => by rw [k' k c1 c2 c3 c4]; simp only [h3, h2]; rw [List.getElem?_set_ne c4.symm, List.getElem?_set_ne c3.symm, k1 k c1 c2]⟩
   have body : zdr [some (.r i), some w1, some (.r a), some (.r b)] hp = .ok (.nx [some (.r i), some w1, some (.r a), some (.r b)]) h3 := by
    have pop : oPopAt (.r a) [.t (.int m)] h1 = .ok (.t (x0 :: xr)[m.toNat]) h2 := by
     have m1' : m < ((x0 :: xr).map W.t).length := by simpa using m1
     have hz' : m < 2 ^ 63 := by simp at m1 hz; omega
     simp only [oPopAt, ha1, seqIx m0 m1', List.getElem?_map, List.getElem?_eq_getElem hm, Option.map_some, erase_map]
     rw [if_pos ⟨by omega, hz'⟩]
    have app : zb0 (.r b) [.t (x0 :: xr)[m.toNat]] h2 = .ok Ybh h3 := by
     have : (ys.map W.t).length < 16777216 := by simp at hz ⊢; omega
     rw [oAppend_r, hb2]
     simp only [this, if_true]
     simp [h3]
    simp only [List.length_cons] at e
    simp only [zdr, p_drop, p_meth, p_var, p_cons, p_nil, p_call, p_app, List.getElem?_cons_succ, List.getElem?_cons_zero, zaf, isL_r, hb, ha, oLen_r, Option.isSome_some, if_true, List.map_nil, List.append_nil, List.length_map, List.length_cons, e, zc3, pop, app]
   unfold ze1
   simp only [zdd, p_bin, p_var, p_app, p_nil, List.getElem?_cons_succ, List.getElem?_cons_zero, zaf, lstOf_e, allT_n, List.length_nil, Nat.zero_le, if_true, neT_nil ha hf, asB_bl, body]
   simpa using q
theorem mixed_is {i j : Nat} {hp : IH} {ts : List T} (d : Deal i j hp) (hl : ts.length < 4000) (hf : fitL ts 59 = true) :
  ∃ (zs : List T) (hp' : IH), zs.Perm ts ∧ zcv [.r i, .t (.lst ts)] hp = .ok (.t (.lst zs)) hp' ∧ Deal i j hp' ∧ Ext i j hp hp' := by
 obtain ⟨li, lj⟩ := d.lt
 let h1 : IH := hp ++ [some (.lst Yr)]
 let h2 : IH := h1 ++ [some (.lst [])]
 have l1 : h1.length = hp.length + 1 := by simp [h1]
 have ga : getL h2 hp.length = some Yr := by rw [getL_app Yb]; simp [h1]
 have gb : getL h2 h1.length = some (([] : List T).map W.t) := by simp [h2]
 have d2 : Deal i j h2 := d.keep (by simp only [h2, h1]; rw [List.append_assoc, List.getElem?_append_left li]) (by simp only [h2, h1]; rw [List.append_assoc, List.getElem?_append_left lj])
 obtain ⟨zs, h3, p, q, r, d3, l3, k3⟩ := mix_loop (i := i) (j := j) (a := hp.length) (b := h1.length) (w1 := .t (.lst ts)) Yb Yb Yb Yb Yb 4096 ts [] h2 Yb Yan hf ga gb d2
 refine ⟨zs, h3.set h1.length none, p, ?_, d3.keep (by rw [List.getElem?_set_ne Yb]) (by rw [List.getElem?_set_ne Yb]), ⟨by rw [List.length_set, l3]; simp only [h2, List.length_append]; omega, fun k hk c1 c2 => ?_⟩⟩
 ·have e1 : hp ++ [some (Cell.lst Yr)] = h1 := rfl
  have e2 : h1 ++ [some (Cell.lst [])] = h2 := rfl
  simp only [List.nil_append] at r
  have e3 : (hp ++ [some (Cell.lst Yr)]).length = h1.length := rfl
  simp only [zcv, fnM, B_w_mixed]
  simp [q, r, e1, e2]
 ·rw [List.getElem?_set_ne Yb, k3 k c1 c2 Yb Yb]
  simp only [h2, h1]
  rw [List.append_assoc, List.getElem?_append_left hk]
theorem stir_loop {w0 w1 w2 : W} : ∀ (cs : List Int) (st : Int) (o4 : Option W) (hp : IH), 0 ≤ st → st < 2 ^ 40 →
  ∃ (st' : Int) (o4' : Option W), 0 ≤ st' ∧ st' < 2 ^ 40 ∧ (cs ≠ [] → st' < 2147483647) ∧ forL (gN 4) zd6 ((cs.map T.int).map W.t) [some w0, some w1, some w2, some (.t (.int st)), o4] hp = .ok (.nx [some w0, some w1, some w2, some (.t (.int st')), o4']) hp
 | [], st, o4, hp, h0, h1 => ⟨st, o4, h0, h1, fun h => (h rfl).elim, rfl⟩
 | c :: cs, st, o4, hp, h0, h1 => by
  have c1 : cMul st 48271 = true := cMul_ok Yb Yb
  have b0 : 0 ≤ (st * 48271 + c % 2147483629 + 41) % 2147483647 := Int.emod_nonneg _ Yb
  have b1 : (st * 48271 + c % 2147483629 + 41) % 2147483647 < 2147483647 := Int.emod_lt_of_pos _ Yb
  obtain ⟨st', o4', a, b, d, q⟩ := stir_loop (w0 := w0) (w1 := w1) (w2 := w2) cs ((st * 48271 + c % 2147483629 + 41) % 2147483647) (some (.t (.int c))) hp b0 Yb
  refine ⟨st', o4', a, b, fun _ => ?_, ?_⟩
  ·by_cases e : cs = []
   ·subst e
    simp only [List.map_nil, forL, Res.ok.injEq, Fl.nx.injEq, List.cons.injEq, Option.some.injEq, W.t.injEq, T.int.injEq] at q
    omega
   ·exact d e
  ·rw [← q]
   have body : zd6 [some w0, some w1, some w2, some (.t (.int st)), some (.t (.int c))] hp = .ok (.nx [some w0, some w1, some w2, some (.t (.int ((st * 48271 + c % 2147483629 + 41) % 2147483647))), some (.t (.int c))]) hp := by
    unfold zd6
    refine (set_ok (h1 := hp) (binP (zcn (binP (binP (binP rfl rfl (wMul_ok c1)) (binP (zcn rfl oInt_i) rfl (iMod_ok (cMod_ok Yb))) wAdd_ii) rfl wAdd_ii) oInt_i) rfl (iMod_ok (cMod_ok Yb)))).trans rfl
   simp only [List.map_cons, forL, p_gN, List.set_cons_succ, List.set_cons_zero, body, zaf]
theorem deal_is {ns : List Int} {b : Int} {hp : IH} (hn : ns.length ≤ 63) (hb : 0 ≤ b ∧ b < 1000) : ∃ (k : Nat) (hp' : IH), F_w_deal [.t Yas, .t (.int b)] hp = .ok (.r k) hp' ∧ Deal k (k - 1) hp' ∧ hp.length < k ∧ ∀ x, x < hp.length → hp'[x]? = hp[x]? := by
 let cs : List Int := (cutL ns (some b) (some 62)).map fun c => if c < 0 then -c else c
 have lc : cs.length ≤ 63 := by
  have := cutL_len ns (some b) (some 62)
  simp only [cs, List.length_map]
  omega
 have mb : cMul 59 b = true := cMul_ok Yb Yb
 obtain ⟨st, o4, a, bb, z, q⟩ := stir_loop (w0 := .t Yas) (w1 := .t (.int b)) (w2 := .t Yha) cs (49979687 + 59 * b) none hp Yb Yb
 have st31 : st < 2147483647 := by
  by_cases e : cs = []
  ·rw [e] at q
   simp only [List.map_nil, forL, Res.ok.injEq, Fl.nx.injEq, List.cons.injEq, Option.some.injEq, W.t.injEq, T.int.injEq] at q
   omega
  ·exact z e
 let g : Int → Bool := fun c => decide ((10 : Int) ^ 18 ≤ c)
 let eta0 : IS := [some (.t Yas), some (.t (.int b)), none, none, none]
 have k1 : (cutL (ns.map T.int) (some b) (some 62)).length ≤ 16777216 := by
  have := cutL_len (ns.map T.int) (some b) (some 62)
  rw [List.length_map] at this
  omega
 have s1 : mSet 2 Yga eta0 hp = .ok (.nx [some (.t Yas), some (.t (.int b)), some (.t Yha), none, none]) hp := by
  refine (set_ok (w := .t Yha) (h1 := hp) (zdx (ws := ((cutL ns (some b) (some 62)).map T.int).map W.t) (ys := (cs.map T.int).map W.t) (h1 := hp) (h2 := hp) ?_ ?_ ?_ ?_)).trans rfl
  ·rw [← cutL_map]
   simp [eta0, slW]
  ·rw [← cutL_map]; simpa using k1
  ·simp only [cs]
   rw [List.map_map (f := fun c : Int => if c < 0 then -c else c)]
   exact comp_all fun c _ => zcn (zcn rfl oInt_i) oAbs_i
  ·have : cs.length ≤ 16777216 := by omega
   simp [-List.map_map, this]
 have c2 : zbq zas Yco (gN 4) zd5 zfb [4] [some (.t Yas), some (.t (.int b)), some (.t Yha), some (.t (.int st)), o4] hp = .ok (.t (.lst ((cs.filter g).map T.int))) hp := by
  have lf := List.length_filter_le g cs
  refine zdx (ws := (cs.map T.int).map W.t) (ys := ((cs.filter g).map T.int).map W.t) (h1 := hp) (h2 := hp) rfl Yan ?_ ?_
  ·refine comp_list (p := g) (fun c _ => ?_) fun c _ _ => rfl
   simp [zd5, wipeI, g, cPow]
  ·have : (cs.filter g).length ≤ 16777216 := by omega
   simp [-List.map_map, this]
 let h1 : IH := hp ++ [some (.lst (((cs.filter g).reverse).map wI))]
 let h2 : IH := h1 ++ [some (.lst [.r hp.length, .t (.int st)])]
 have lz : (cs.filter g).length ≤ 63 := Nat.le_trans (List.length_filter_le _ _) lc
 refine ⟨hp.length + 1, h2, ?_, ⟨(cs.filter g).reverse, st, ⟨?_, ?_, by simpa using lz, a, st31⟩⟩, by omega, fun x hx => ?_⟩
 ·refine fnM_ok (eta := eta0) rfl rfl ?_
  unfold B_w_deal
  refine zcg s1 ?_
  refine zcg (h1 := hp) ((set_ok (h1 := hp) (binP rfl (binP rfl rfl (wMul_ok mb)) wAdd_ii)).trans rfl) ?_
  refine zcg ((for_ok (ws := (cs.map T.int).map W.t) (h1 := hp) rfl).trans q) ?_
  have rv : mUn oRevL (zbq zas Yco (gN 4) zd5 zfb [4]) [some (.t Yas), some (.t (.int b)), some (.t Yha), some (.t (.int st)), o4] hp = .ok Ydc h1 := by
   rw [p_un, c2, zaf]
   unfold oRevL
   simp only [litems_l, h1]
   rw [← List.map_reverse, ← List.map_reverse, List.map_map]
   rfl
  have l1 : h1.length = hp.length + 1 := by simp [h1]
  rw [p_ret, p_app, zbn rv (zbn rfl rfl), zaf, newL_e, if_pos Y4, zaf, l1]
 ·rw [show hp.length + 1 - 1 = hp.length by omega]
  have e : hp.length + 1 = h1.length := by simp [h1]
  rw [e]
  exact getL_new
 ·rw [show hp.length + 1 - 1 = hp.length by omega, getL_app (by simp [h1])]
  simp [h1]
 ·simp only [h2, h1]
  rw [List.append_assoc, List.getElem?_append_left hx]
theorem fnP_lift {n nn : Nat} {B : M Fl} {ws : List W} {y : T} {h0 hp : IH} (h : fnP n nn B ws [] = .ok (.t y) h0) : fnP n nn B ws hp = .ok (.t y) hp := by
 unfold fnP at h ⊢
 split at h
 ·rename_i c
  rw [if_pos c]
  split at h
  ·cases h
   rfl
  ·cases h
   rfl
  ·cases h
 ·cases h
mutual
def sameT : T → T → Bool
 | .non, y => (match y with | .non => true | _ => false)
 | .int i, y => (match y with | .int j => decide (i = j) | _ => false)
 | .str x, y => (match y with | .str z => decide (x = z) | _ => false)
 | .tup xs, y => (match y with | .tup ys => sameL xs ys | _ => false)
 | .lst xs, y => (match y with | .lst ys => sameL xs ys | _ => false)
 | .ins c fs vs, y => (match y with | .ins c' fs' vs' => decide (c = c') && (decide (fs = fs') && sameL vs vs') | _ => false)
 | .bl i, y => (match y with | .bl j => decide (i = j) | _ => false)
 | .scr _, _ => false | .pr _, _ => false | .ty _, _ => false | .dic _ _, _ => false | .cls _, _ => false | .dit _ _, _ => false | .exc _ _ _, _ => false
def sameL : List T → List T → Bool
 | [], ys => (match ys with | [] => true | _ :: _ => false)
 | x :: xs, ys => (match ys with | [] => false | y :: ys => sameT x y && sameL xs ys)
end
mutual
theorem same_eq : ∀ (x y : T), sameT x y = true → x = y
 | .non, y, h => by cases y <;> simp [sameT] at h ⊢
 | .int i, y, h => by cases y <;> simp [sameT] at h ⊢; exact h
 | .str x, y, h => by cases y <;> simp [sameT] at h ⊢; exact h
 | .tup xs, y, h => by cases y <;> simp [sameT] at h ⊢; exact sameL_eq _ _ h
 | .lst xs, y, h => by cases y <;> simp [sameT] at h ⊢; exact sameL_eq _ _ h
 | .ins c fs vs, y, h => by cases y <;> simp [sameT] at h ⊢; exact ⟨h.1, h.2.1, sameL_eq _ _ h.2.2⟩
 | .bl i, y, h => by cases y <;> simp [sameT] at h ⊢; exact h
 | .scr _, y, h => by simp [sameT] at h
 | .pr _, y, h => by simp [sameT] at h
 | .ty _, y, h => by simp [sameT] at h
 | .dic _ _, y, h => by simp [sameT] at h
 | .cls _, y, h => by simp [sameT] at h
 | .dit _ _, y, h => by simp [sameT] at h
 | .exc _ _ _, y, h => by simp [sameT] at h
theorem sameL_eq : ∀ (xs ys : List T), sameL xs ys = true → xs = ys
 | [], ys, h => by cases ys <;> simp [sameL] at h ⊢
 | x :: xs, ys, h => by
  cases ys with
  | nil => simp [sameL] at h
  | cons y ys =>
   simp only [sameL, Bool.and_eq_true] at h
   rw [same_eq _ _ h.1, sameL_eq _ _ h.2]
end
def isT (r : Res W) (t : T) : Bool := match r with
 | .ok (.t y) _ => sameT y t
 | _ => false
theorem isT_ok {r : Res W} {t : T} (h : isT r t = true) : ∃ h', r = .ok (.t t) h' := by
 unfold isT at h
 split at h
 ·rename_i y h'
  exact ⟨h', by rw [same_eq _ _ h]⟩
 ·cases h
theorem fld_ok {cs : List Str} {f : Str} {F : M W} {eta : IS} {hp h1 : IH} {w v : W} (h : F eta hp = .ok w h1) (g : fldW cs f w h1 = .ok v h1) : mFld cs f F eta hp = .ok v h1 := by
 unfold mFld
 rw [h]
 exact g
theorem dmeth_ok {f : OpM} {Fo : M W} {Fs : M (List W)} {eta : IS} {hp h1 h2 h3 : IH} {o v : W} {ws : List W} (h : Fo eta hp = .ok o h1) (i : isL o h1 = true) (a : Fs eta h1 = .ok ws h2) (q : f o ws h2 = .ok v h3) : mDrop (zfd isL f Fo Fs) eta hp = .ok Yeq h3 := by
 rw [p_drop, p_meth, h, zaf]
 simp only [i, if_true]
 rw [a, zaf, q, zaf]
/-- a comprehension whose turns leave the heap -/
theorem comp_g {A : Type} {G : W → IS → Option IS} {U : M Bool} {E : M W} {eta : IS} {hp : IH} {src : A → W} {loc : A → IS} {p : A → Bool} {g : A → T} : ∀ (as : List A), (∀ a ∈ as, G (src a) eta = some (loc a)) → (∀ a ∈ as, U (loc a) hp = .ok (p a) hp) → (∀ a ∈ as, p a = true → E (loc a) hp = .ok (.t (g a)) hp) →
  zdt G U E eta (as.map src) hp = .ok (((as.filter p).map g).map W.t) hp
 | [], _, _, _ => rfl
 | a :: as, h1, h2, h3 => by
  have ih := comp_g (G := G) (U := U) (E := E) (eta := eta) (hp := hp) (src := src) (loc := loc) (p := p) (g := g) as (fun b hb => h1 b Yg8) (fun b hb => h2 b Yg8) fun b hb => h3 b Yg8
  have e1 := h1 a Yj
  have e2 := h2 a Yj
  have e3 := h3 a Yj
  simp only [List.map_cons, zdt, turnL, e1, e2, zaf]
  by_cases c : p a = true
  ·rw [c, List.filter_cons_of_pos c]
   simp only [if_true, e3 c, zaf, zc3, ih, List.map_cons]
  ·have c' : p a = false := by simpa using c
   rw [c', List.filter_cons_of_neg c]
   simp only [Bool.false_eq_true, if_false, zaf, zc3, ih]
theorem zd4 {A : Type} (l : List A) : l.filter (fun _ => true) = l := List.filter_eq_self.mpr fun _ _ => rfl
theorem lst_ok {ts : List T} {hp : IH} (h : ts.length ≤ 16777216) : zas Yr hp = .ok Yad hp := by
 unfold zas
 rw [zda]
 simp only [h, if_true]
theorem lst_at {ts : List T} {n : Nat} {Ft Fa : M W} {eta : IS} {hp : IH} (h : n < ts.length) (ht : Ft eta hp = .ok Yad hp) (ha : Fa eta hp = .ok Yau hp) : mBin ixW Ft Fa eta hp = .ok (.t (ts.getD n .non)) hp := by
 have := ixW_sq (b := false) (ts := ts) (n := n) (hp := hp) h
 refine binP ht ha (this.trans ?_)
 simp [List.getD, h]
section
open TL
theorem str_eq {x y : Str} (h : tl x = tl y) : x = y := by rw [← mk_tl x, ← mk_tl y, h]
theorem zaj (x y : Str) : (x ++ y).length = x.length + y.length := by rw [len_tl, len_tl, len_tl, tl_append, List.length_append]
theorem za7 (s x y : Str) (r : List Str) : Txt.join s (x :: y :: r) = x ++ s ++ Txt.join s (y :: r) := by rw [join_eq, join_eq]; rfl
theorem zbz (s x : Str) : Txt.join s [x] = x := by rw [join_eq]; rfl
theorem join_nil (s : Str) : Txt.join s [] = "" := by rw [join_eq]; rfl
theorem ze5 {f : OpM} {Fo Fe : M W} {eta : IS} {hp h1 h2 : IH} {a : Str} {u : W} {r : Res W} (h : Fo eta hp = .ok Yex h1) (g : Fe eta h1 = .ok u h2) (q : f Yex [u] h2 = r) : mSM f Fo Fe eta hp = r := by
 unfold mSM
 rw [h, zaf]
 show (Fe eta h1).bind _ = _
 rw [g, zaf]
 exact q
theorem zdj {a b : Str} {ls : List Str} {hp : IH} (e : Txt.split a b = ls) (hb : (b.length == 0) = false) (ha : a.length + 2 ≤ 16777216) : zbl Yex [.t (.str b)] hp = .ok (.t (.lst (ls.map T.str))) hp := by
 unfold zbl
 simp only
 rw [if_pos ⟨hb, ha⟩, e]
/-- a name: small letters, at most four -/
structure Nam (x : Str) : Prop where
 is : ∀ hp, zbw [.t (.str x)] hp = .ok Ydd hp
 fr : ∀ c ∈ tl x, 97 ≤ c ∧ c ≤ 122
 ln : x.length ≤ 4
 ne : x ≠ "if"
def namB (x : Str) : Bool := isT (zbw [.t (.str x)] []) (.bl true) && ((tl x).all (fun c => decide (97 ≤ c) && decide (c ≤ 122)) && (decide (x.length ≤ 4) && !decide (x = "if")))
theorem nam_ok {x : Str} (h : namB x = true) : Nam x := by
 unfold namB at h
 simp only [Bool.and_eq_true, List.all_eq_true, decide_eq_true_eq, Bool.not_eq_true', decide_eq_false_iff_not] at h
 obtain ⟨h1, h2, h3, h4⟩ := h
 obtain ⟨_, e⟩ := isT_ok h1
 exact ⟨fun hp => fnP_lift e, h2, h3, h4⟩
theorem Nam.no {x : Str} (n : Nam x) {c : Nat} (h : c < 97) : c ∉ tl x := fun m => by have := n.fr c m; omega
/-- a step: a word, a name -/
abbrev Deed := Str × Str
def dTx (d : Deed) : Str := d.1 ++ " " ++ d.2
def dTr (d : Deed) : T := .tup [.str d.1, .str d.2]
/-- words without signs that part texts -/
structure Wrd (w : Str) : Prop where
 fr : ∀ c ∈ tl w, 97 ≤ c ∧ c ≤ 122
 ln : w.length ≤ 10
def wrdB (w : Str) : Bool := (tl w).all (fun c => decide (97 ≤ c) && decide (c ≤ 122)) && decide (w.length ≤ 10)
theorem wrd_ok {w : Str} (h : wrdB w = true) : Wrd w := by
 unfold wrdB at h
 simp only [Bool.and_eq_true, List.all_eq_true, decide_eq_true_eq] at h
 exact ⟨h.1, h.2⟩
theorem Wrd.no {w : Str} (n : Wrd w) {c : Nat} (h : c < 97) : c ∉ tl w := fun m => by have := n.fr c m; omega
theorem tl_sp : tl (" " : Str) = [32] := by decide +kernel
theorem split_sp {w x : Str} (hw : 32 ∉ tl w) (hx : 32 ∉ tl x) : Txt.split (w ++ " " ++ x) " " = [w, x] := by
 have h : w ++ " " ++ x = Txt.join " " [w, x] := by rw [join_eq]; rfl
 rw [h]
 exact split_join (s := 32) (S := []) tl_sp Yt Y4 fun p hp => by
  simp only [List.mem_cons, List.not_mem_nil, or_false] at hp
  rcases hp with rfl | rfl
  ·exact hw
  ·exact hx
theorem zea : (" " : Str).length = 1 := by decide +kernel
theorem dTx_len {d : Deed} (w : Wrd d.1) (n : Nam d.2) : (dTx d).length ≤ 15 := by
 unfold dTx
 rw [zaj, zaj, zea]
 have := w.ln
 have := n.ln
 omega
theorem in_strs {neg : Bool} {x : Str} {l : List Str} {hp : IH} : inW neg Yd6 (.t (.tup Yew)) hp = .ok Yiw hp := by
 have f : fitL Yew 60 = true := fitL_strs
 simp only [inW, asT_t, items_t, Option.bind_some, zda, fit_s, f, and_self, if_true, any_str]
theorem deed_is {d : Deed} {ws : List Str} {hp : IH} (hw : d.1 ∈ ws) (w : Wrd d.1) (n : Nam d.2) :
  zex [.t Ygq, .t (.tup Ybd)] hp = .ok (.t (dTr d)) hp := by
 refine fnP_ok (ts := [.str (dTx d), .tup Ybd]) (eta := [some (.t Ygq), some Yhb, none]) rfl rfl (h1 := []) ?_
 have sp : mSM zbl (mVar 0) Yay [some (.t Ygq), some Yhb, none] [] = .ok (.t (.lst [.str d.1, .str d.2])) [] :=
  ze5 rfl rfl (zdj (split_sp (w.no Yb) (n.no Yb)) Yt (by have := dTx_len w n; unfold dTx at this; omega))
 have nw : ∀ h : IH, inW true (.t (.str d.1)) Yhb h = .ok (.t Ycd) h := fun h => by
  rw [in_strs]
  simp [hw]
 have nn := n.is
 unfold B_deed_in
 refine zcg (e1 := [some (.t Ygq), some Yhb, none]) (h1 := []) rfl ?_
 refine zcg (set_ok sp) ?_
 simp only [List.set_cons_succ, List.set_cons_zero]
 unfold dTr
 simp_arith [nw, nn, Int.cast_ofNat_Int]
theorem onceK_nd : ∀ (ks acc : List Key), (acc ++ ks).Nodup → ks.foldl addK acc = acc ++ ks
 | [], acc, _ => by simp
 | k :: ks, acc, h => by
  have hm : memK k acc = false := by
   simp only [memK, List.any_eq_false, decide_eq_true_eq]
   intro j hj e
   subst e
   exact (List.nodup_append.mp h).2.2 _ hj _ Yj rfl
  have e : addK acc k = acc ++ [k] := by simp [addK, hm]
  rw [List.foldl_cons, e, onceK_nd ks (acc ++ [k]) (by simpa using h), List.append_assoc]
  rfl
theorem keysOf_strs : ∀ l : List Str, keysOf ((l.map T.str).map W.t) = some (l.map Sum.inr)
 | [] => rfl
 | x :: l => by
  simp only [List.map_cons, keysOf, keysOf_strs l, Option.map_some]
theorem lenset_nd {F : M W} {eta : IS} {hp h1 : IH} {l : List Str} (h : F eta hp = .ok (.t (.lst Yew)) h1) (nd : l.Nodup) (hl : l.length ≤ 4000) : zfm F eta hp = .ok (.t (.int (l.length : Nat))) h1 := by
 unfold zfm
 rw [h, zaf, litems_l, Option.bind_some, keysOf_strs]
 have nd2 : (l.map Yez).Nodup := List.Pairwise.map _ (fun a b h e => h (Sum.inr.inj e)) nd
 have e : zdw (l.map Yez) = l.map Sum.inr := by
  unfold zdw
  rw [onceK_nd _ [] (by simpa using nd2), List.nil_append]
 simp only [e, List.length_map, hl, if_true]
end
section
open TL
structure DOk (ws : List Str) (d : Deed) : Prop where
 m : d.1 ∈ ws
 w : Wrd d.1
 n : Nam d.2
theorem seq_isq {b : Bool} {ts : List T} {hp : IH} : za6 [.t Yhi] hp = .ok Ydd hp := by
 cases b
 ·exact fnP_ok (ts := [.lst ts]) (eta := [some Yad]) rfl rfl (h1 := []) rfl
 ·exact fnP_ok (ts := [.tup ts]) (eta := [some Yaq]) rfl rfl (h1 := []) rfl
theorem non_in {l : List T} {hp : IH} (f2 : fitL l 60 = true) (h : ∀ t ∈ l, Mir.eqT t .non = false) : inW false Ybh (.t (.lst l)) hp = .ok (.t Ycd) hp := by
 have a : l.any (fun y => Mir.eqT y .non) = false := List.any_eq_false.mpr fun t ht => by simp [h t ht]
 simp only [inW, asT_t, items_l, Option.bind_some, zda, fit_n, f2, and_self, if_true, a]
 simp
theorem dTr_fit {ds : List Deed} {n : Nat} : fitL Yh (n + 2) = true := by
 induction ds with
 | nil => simp
 | cons d ds ih => simp [dTr, ih]
theorem deeds_is {b : Bool} {w0 : Str} {ws : List Str} {ds : List Deed} {hp : IH} (ok : ∀ d ∈ ds, DOk Ydj d) (nd : ((ds.filter fun d => decide (d.1 = w0)).map (·.2)).Nodup) (hl : ds.length ≤ 1000) :
  zca [.t (sqT b Yaa), .t Yak] hp = .ok (.t Ycc) hp := by
 let v0 : Option W := some (.t (sqT b Yaa))
 let v1 : Option W := some (.t Yak)
 refine fnP_ok (ts := [sqT b Yaa, .tup ((w0 :: ws).map T.str)]) (eta := [v0, v1, none, none, none, none]) rfl rfl (h1 := []) ?_
 unfold B_deeds_in
 refine zcg (e1 := [v0, v1, none, none, none, none]) (h1 := []) ?_ ?_
 ·rw [if_no (h1 := []) (by rw [p_not, zdd, zar (ws := [.t (sqT b Yaa)]) rfl seq_isq]; rfl)]
  rfl
 have c1 : zbq zas Ygp (gN 4) mYes zb6 [4] [v0, v1, none, none, none, none] [] = .ok Yb1 [] := by
  have q := comp_g (G := gN 4) (U := mYes) (E := zb6) (eta := [v0, v1, none, none, none, none]) (hp := []) (src := fun d : Deed => W.t Ygq)
   (loc := fun d => [v0, v1, none, none, some (.t Ygq), none]) (p := fun _ => true) (g := dTr) ds Ya3 Ya3
   (fun d hd _ => zar (ws := [.t Ygq, .t Yak]) rfl (deed_is (ok d hd).m (ok d hd).w (ok d hd).n))
  rw [zd4] at q
  refine zdx (ws := (ds.map fun d => T.str (dTx d)).map W.t) (ys := (ds.map dTr).map W.t) (h1 := []) (h2 := []) ?_ Yan ?_ (lst_ok Yan)
  ·rw [p_sq, varP rfl, zaf, sqI_sq]
  ·rw [List.map_map]
   exact q
 refine zcg (set_ok c1) ?_
 let eta1 : IS := [v0, v1, some Yb1, none, none, none]
 have c2 : zbq zas Yco (gN 5) zbo zbv [5] eta1 [] = .ok (.t (.lst (((ds.filter fun d => decide (d.1 = w0)).map (·.2)).map T.str))) [] := by
  have q := comp_g (G := gN 5) (U := zbo) (E := zbv) (eta := eta1) (hp := []) (src := fun d : Deed => W.t (dTr d))
   (loc := fun d => [v0, v1, some Yb1, none, none, some (.t (dTr d))]) (p := fun d => decide (d.1 = w0)) (g := fun d => .str d.2) ds Ya3
   (fun d _ => by
    unfold zbo dTr
    simp_arith [v1]) (fun _ _ _ => by
    unfold zbv dTr
    simp_arith [])
  have le := List.length_filter_le (fun d : Deed => decide (d.1 = w0)) ds
  refine zdx (ws := (ds.map dTr).map W.t) (ys := ((ds.filter fun d => decide (d.1 = w0)).map fun d => T.str d.2).map W.t) (h1 := []) (h2 := []) rfl Yan ?_ ?_
  ·rw [List.map_map]
   exact q
  ·rw [lst_ok Yan, List.map_map]
   rfl
 refine zcg (set_ok c2) ?_
 have le := List.length_filter_le (fun d : Deed => decide (d.1 = w0)) ds
 have ni : ∀ h : IH, inW false Ybh Yb1 h = .ok (.t Ycd) h := fun h => non_in dTr_fit fun t ht => by
  obtain ⟨d, _, rfl⟩ := List.mem_map.mp ht
  simp [dTr, Mir.eqT]
 generalize hps : (ds.filter fun d => decide (d.1 = w0)).map (·.2) = parts at nd ⊢
 have lp : parts.length ≤ 1000 := by rw [← hps, List.length_map]; omega
 have ls : zfm (mVar 3) [v0, v1, some Yb1, some (.t (.lst (parts.map T.str))), none, none] [] = .ok (.t (.int (parts.length : Nat))) [] := lenset_nd rfl nd Yb
 show mRet _ [v0, v1, some Yb1, some (.t (.lst (parts.map T.str))), none, none] [] = _
 simp_arith [ni, ls]
abbrev wR : List Str := ["read", "look"]
theorem fnX_nx {n nn : Nat} {B : M Fl} {ws : List W} {hp h1 : IH} {e eta : IS} (hl : ws.length = n) (he : ws.map some ++ List.replicate (nn - n) none = eta) (h : B eta hp = .ok (.nx e) h1) : fnX n nn B ws hp = .ok Ybh h1 := by
 unfold fnX
 rw [if_pos hl, he, h]
theorem fset_ok' {cs : List Str} {f c : Str} {Fo Fv : M W} {eta : IS} {hp h1 : IH} {v : W} {i : Nat} {fs : List Yfw} (h : Fv eta hp = .ok v h1) (g : Fo eta h1 = .ok (.r i) h1) (q : h1[i]? = some (some (.ins c fs))) (m : c ∈ cs) (l : fs.length < 1000) : mFldSet cs f Fo Fv eta hp = .ok Yeq (h1.set i (some Yjh)) := by
 unfold mFldSet
 rw [h, zaf, g, zaf]
 unfold fldSet
 simp only [q, m, l, and_self, if_true]
theorem set_set {hp : IH} {i : Nat} {a b : Option Cell} : (hp.set i a).set i b = hp.set i b := List.set_set ..
theorem set_at {hp : IH} {i : Nat} {a : Option Cell} (h : i < hp.length) : (hp.set i a)[i]? = some a := by rw [List.getElem?_set_self h]
end
section
open TL
theorem app_at {hp : IH} {x : Option Cell} : (hp ++ [x])[hp.length]? = some x := by simp
theorem app_set {hp : IH} {x y : Option Cell} : (hp ++ [x]).set hp.length y = hp ++ [y] := by simp
theorem frz_made {F : M W} {eta : IS} {hp h1 : IH} {c : Str} {fs : List Yfw} {ts : List T} (h : F eta hp = .ok (.r h1.length) Yfh) (g : ∀ h, frzAll fs h = .ok ts h) : mFrzI F eta hp = .ok (.t (.ins c (fs.map (·.1)) ts)) (h1 ++ [none]) := by
 unfold mFrzI
 rw [h, zaf]
 unfold freezeI
 simp only [app_at, g, zaf, app_set]
theorem tl_cm : tl (", " : Str) = [44, 32] := by decide +kernel
theorem cs_len : (": " : Str).length = 2 := by decide +kernel
theorem ze0 : (", " : Str).length = 2 := by decide +kernel
theorem join_len {s : Str} {k : Nat} : ∀ {ps : List Str}, (∀ p ∈ ps, p.length ≤ k) → (Txt.join s ps).length ≤ ps.length * (k + s.length)
 | [], _ => by rw [join_nil]; exact Nat.zero_le _
 | [p], h => by
  have := h p Yj
  rw [zbz, List.length_singleton]
  omega
 | p :: q :: r, h => by
  have h1 := h p Yj
  have h2 := join_len (s := s) (k := k) (ps := q :: r) fun x hx => h x Ybu
  rw [za7, zaj, zaj, List.length_cons, Nat.succ_mul]
  omega
def zaz (ds : List Deed) : Str := Txt.join ", " (ds.map dTx)
theorem steps_len {ds : List Deed} {ws : List Str} (ok : ∀ d ∈ ds, DOk ws d) : (zaz ds).length ≤ ds.length * 17 := by
 have := join_len (s := ", ") (k := 15) (ps := ds.map dTx) fun p hp => by
  obtain ⟨d, hd, rfl⟩ := List.mem_map.mp hp
  exact dTx_len (ok d hd).w (ok d hd).n
 rw [List.length_map, ze0] at this
 exact this
theorem zfe {x y : Str} {hp : IH} (h : x.length + y.length ≤ 16777216) : wAdd Yd6 Yhh hp = .ok (.t (.str (x ++ y))) hp := by
 unfold wAdd
 simp [h]
theorem strsOf_map (ys : List Str) : zcs (ys.map fun y => W.t (.str y)) = some ys := by
 induction ys with
 | nil => rfl
 | cons y ys ih =>
  rw [List.map_cons]
  simp [zcs, ih]
theorem sum_le {ys : List Str} {k : Nat} (h : ∀ y ∈ ys, y.length ≤ k) : (ys.map (·.length)).sum ≤ ys.length * k := by
 induction ys with
 | nil => simp
 | cons y ys ih =>
  have a := h y Yj
  have b := ih fun z hz => h z (List.mem_cons_of_mem _ hz)
  simp only [List.map_cons, List.sum_cons, List.length_cons, Nat.add_mul]
  omega
theorem joinS {a : Str} {ys : List Str} {k : Nat} {hp : IH} (b : Bool) (h : ∀ y ∈ ys, y.length ≤ k) (hl : ys.length * (k + a.length) ≤ 16777216) : zeq Yex [.t (sqT b (ys.map T.str))] hp = .ok (.t (.str (Txt.join a ys))) hp := by
 unfold zeq
 have e : (items hp (.t (sqT b (ys.map T.str)))).bind zcs = some ys := by
  have e2 : items hp (.t (sqT b (ys.map T.str))) = some ((ys.map T.str).map W.t) := by cases b <;> rfl
  rw [e2, Option.bind_some, List.map_map]
  exact strsOf_map ys
 have := sum_le h
 simp only [e]
 rw [if_pos]
 rw [Nat.mul_add] at hl
 omega
end
section
open TL
variable {hp : IH} {eta : IS}
theorem jc_ok {Fa : M W} {J : Str → M Str} {acc y : Str} {r : Res Str} (h : Fa eta hp = .ok Yhh hp) (l : (acc ++ y).length ≤ 16777216) (q : J (acc ++ y) eta hp = r) : ze3 Fa J acc eta hp = r := by
 unfold ze3
 rw [h, zaf]
 show (if (acc ++ y).length ≤ 16777216 then J (acc ++ y) eta hp else Res.bad) = r
 rw [if_pos l]
 exact q
theorem jn_ok {J : Str → M Str} {z : Str} (h : J Str.empty eta hp = .ok z hp) : mJoined J eta hp = .ok (.t (.str z)) hp := by
 unfold mJoined
 rw [h, zaf]
theorem fmt_s {y : Str} (l : y.length ≤ 16777216) : oFmt Yhh hp = .ok Yhh hp := by
 simp only [oFmt]
 rw [if_pos l]
theorem fmt_v {i : Nat} {y : Str} (e : eta[i]? = some Yam) (l : y.length ≤ 16777216) : (mUn oFmt (mVar i) : M W) eta hp = .ok Yhh hp := by
 show ((mVar i : M W) eta hp).bind _ = _
 rw [varP e, zaf]
 exact fmt_s l
theorem em_app (x : Str) : Str.empty ++ x = x := str_eq (by rw [tl_append]; rfl)
theorem em_len : Str.empty.length = 0 := rfl
end
section
theorem makeX_ok {c : Str} {f : OpN} {ds : List T} {Fs : M (List W)} {eta : IS} {hp h1 : IH} {ws : List W} {fs : List Yfw} (h : Fs eta hp = .ok ws h1) (q : f Yh2 Yho = .ok Ybh Yfh) :
  mMakeX c f ds Fs eta hp = .ok (.r h1.length) Yfh := by
 unfold mMakeX
 rw [h, zaf, q]
 rfl
theorem makeL_ok {i : Nat} {c : Str} {f : OpN} {Fs : M (List W)} {eta : IS} {hp h1 : IH} {ws : List W} {fs : List Yfw} (hc : eta[i]? = some (some (.t (.cls c)))) (h : Fs eta hp = .ok ws h1) (q : f (.r h1.length :: ws) Yho = .ok Ybh Yfh) :
  mMakeL i c f [] Fs eta hp = .ok (.r h1.length) Yfh := by
 unfold mMakeL
 rw [hc]
 simp only [if_true]
 refine makeX_ok h ?_
 rw [List.map_nil, List.append_nil]
 exact q
end
section
open TL
/-- a reader: cs the texts of its checks, ts the checks -/
def rdrG (n : Str) (ds : List Deed) (cs : List Str) (ts : List T) : T := .ins "Reader" ["name", "steps", "checks", "deeds", "tests"] [.str n, .tup Yaa, .tup Ybl, .tup Yh, .tup ts]
structure ROk (n : Str) (ds : List Deed) : Prop where
 n : Nam n
 ok : ∀ d ∈ ds, DOk wR d
 nd : ((ds.filter fun d => decide (d.1 = ("read" : Str))).map (·.2)).Nodup
 hl : ds.length ≤ 1000
 h0 : ∃ d ∈ ds, d.1 = ("read" : Str)
theorem ROk.ne {n : Str} {ds : List Deed} (h : ROk n ds) : 0 < ds.length := by
 obtain ⟨d, hd, _⟩ := h.h0
 exact List.length_pos_of_mem hd
theorem in_lstrs {neg : Bool} {x : Str} {l : List Str} {hp : IH} : inW neg Yd6 (.t (.lst Yew)) hp = .ok Yiw hp := by
 have f : fitL Yew 60 = true := fitL_strs
 simp only [inW, asT_t, items_l, Option.bind_some, zda, fit_s, f, and_self, if_true, any_str]
theorem reader_init {b bc : Bool} {n : Str} {ds : List Deed} {cs : List Str} {ts : List T} {hp : IH} {i : Nat} (hi : hp[i]? = some (some (.ins "Reader" []))) (h : ROk n ds) (ht : ∀ hp, zcp [.t (sqT bc Ybl), .t Ycc] hp = .ok Yaq hp) :
  za4 [.r i, .t (.str n), .t (sqT b Yaa), .t (sqT bc Ybl)] hp = .ok Ybh (hp.set i (some (.ins "Reader" [("name", .t (.str n)), ("steps", .t (.tup Yaa)), ("checks", .t (.tup Ybl)), ("deeds", .t Ycc), ("tests", .t (.tup ts))]))) := by
 have il : i < hp.length := (List.getElem?_eq_some_iff.mp hi).1
 have hl := h.hl
 let v2 : W := .t (sqT b Yaa)
 let v3 : W := .t (sqT bc Ybl)
 let E : IS := [some (.r i), some Yhm, some v2, some v3, some (.t Ycc), some Yaq, none, none]
 refine fnX_nx (e := E) (eta := [some (.r i), some Yhm, some v2, some v3, none, none, none, none]) rfl rfl ?_
 unfold ze9
 refine zcg (e1 := [some (.r i), some Yhm, some v2, some v3, none, none, none, none]) (h1 := hp) ?_ ?_
 ·rw [if_no (h1 := hp) (by rw [p_not, zdd, zar (ws := [.t (.str n)]) rfl (h.n.is _)]; rfl)]
  rfl
 refine zcg (set_ok (zar (ws := [v2, .t (.tup (wR.map T.str))]) rfl (deeds_is h.ok h.nd hl))) ?_
 simp only [List.set_cons_succ, List.set_cons_zero]
 let E1 : IS := [some (.r i), some Yhm, some v2, some v3, some (.t Ycc), none, none, none]
 refine zcg (e1 := E1) (h1 := hp) ?_ ?_
 ·have c2 : zbq zas (mSq (mVar 4)) (gT 2 Ygl) mYes zba [6, 7] E1 hp = .ok (.t (.lst ((ds.map (·.1)).map T.str))) hp := by
   have q := comp_g (G := gT 2 Ygl) (U := mYes) (E := zba) (eta := E1) (hp := hp) (src := fun d : Deed => W.t (dTr d))
    (loc := fun d => [some (.r i), some Yhm, some v2, some v3, some (.t Ycc), none, some (.t (.str d.1)), some (.t (.str d.2))]) (p := fun _ => true) (g := fun d => .str d.1) ds Ya3 Ya3 (fun _ _ _ => rfl)
   rw [zd4] at q
   refine zdx (ws := (ds.map dTr).map W.t) (ys := (ds.map fun d => T.str d.1).map W.t) (h1 := hp) (h2 := hp) rfl Yan ?_ ?_
   ·rw [List.map_map]
    exact q
   ·rw [lst_ok Yan, List.map_map]
    rfl
  have m : ("read" : Str) ∈ ds.map (·.1) := by
   obtain ⟨d, hd, e⟩ := h.h0
   exact List.mem_map.mpr ⟨d, hd, e⟩
  have t2 : zae asB Ya1 E1 hp = .ok false hp := za8 (binP rfl c2 (by rw [in_lstrs]; simp only [if_true, decide_eq_true m, Bool.not_true]))
  have t1 : zae asB (mBin (isN false) (mVar 4) Yag) E1 hp = .ok false hp := rfl
  rw [if_no (h1 := hp) (by rw [p_or, t1, zaf]; exact t2)]
  rfl
 refine zcg (set_ok (zar (ws := [v3, .t Ycc]) rfl (ht _))) ?_
 show mSeq _ _ E hp = _
 refine zcg (e1 := E) (h1 := hp) rfl ?_
 refine zcg (fset_ok' (c := "Reader") (h1 := hp) (v := .t (.str n)) rfl rfl hi Ybz Ybz) ?_
 refine zcg (fset_ok' (c := "Reader") (v := .t (.tup Yaa)) (zcn rfl oTup_sq) rfl (set_at il) Ybz Yhc) ?_
 rw [set_set]
 refine zcg (fset_ok' (c := "Reader") (v := .t (.tup Ybl)) (zcn rfl oTup_sq) rfl (set_at il) Ybz Yhc) ?_
 rw [set_set]
 refine zcg (fset_ok' (c := "Reader") (v := .t Ycc) rfl rfl (set_at il) Ybz Yhc) ?_
 rw [set_set]
 refine (fset_ok' (c := "Reader") (v := .t (.tup ts)) rfl rfl (set_at il) Ybz Yhc).trans ?_
 rw [set_set]
 rfl
theorem reader_made {b bc : Bool} {i : Nat} {n : Str} {ds : List Deed} {cs : List Str} {ts : List T} {Fs : M (List W)} {eta : IS} {hp h1 : IH} (hc : eta[i]? = some (some (.t (.cls "Reader")))) (h : Fs eta hp = .ok [.t (.str n), .t (sqT b Yaa), .t (sqT bc Ybl)] h1) (r : ROk n ds) (ht : ∀ hp, zcp [.t (sqT bc Ybl), .t Ycc] hp = .ok Yaq hp) :
  mFrzI (mMakeL i "Reader" za4 [] Fs) eta hp = .ok (.t (rdrG n ds cs ts)) (h1 ++ [none]) := by
 have q := reader_init (b := b) (bc := bc) (hp := h1 ++ [some (.ins "Reader" [])]) (i := h1.length) app_at r ht
 rw [app_set] at q
 exact frz_made (makeL_ok hc h q) fun _ => rfl
abbrev sIf : List Nat := [32, 105, 102, 32]
theorem tl_if : tl (" if " : Str) = sIf := by decide +kernel
theorem free_cons {sep : List Nat} {c : Nat} {r : List Nat} (h : pre sep (c :: (r ++ sep)) = false) (hr : SX.free sep r = true) : SX.free sep (c :: r) = true := by
 show (!(pre sep (c :: (r ++ sep))) && SX.free sep r) = true
 rw [h, hr]
 rfl
theorem free_let {r : List Nat} (hr : SX.free sIf r = true) : ∀ {l : List Nat}, (∀ c ∈ l, 97 ≤ c) → SX.free sIf (l ++ r) = true
 | [], _ => hr
 | c :: l, h => by
  have hc := h c Yj
  exact free_cons (pre_of_head _ _ Yb) (free_let hr fun x hx => h x Ybu)
theorem free_name {x : Str} (n : Nam x) {r : List Nat} (hr : SX.free sIf r = true) (hh : r = [] ∨ ∃ r', r = 44 :: r') : SX.free sIf (32 :: (tl x ++ r)) = true := by
 refine free_cons ?_ (free_let hr fun c hc => (n.fr c hc).1)
 refine Bool.eq_false_iff.mpr fun e => ?_
 have e : (32 :: ((tl x ++ r) ++ sIf)).take 4 = sIf := eq_of_beq e
 have fr := n.fr
 have ne : tl x ≠ [105, 102] := fun z => n.ne (str_eq (z.trans Yt))
 generalize tl x = l at e fr ne
 match l with
 | [] => rcases hh with rfl | ⟨r', rfl⟩ <;> simp [sIf] at e
 | [a] => rcases hh with rfl | ⟨r', rfl⟩ <;> simp [sIf] at e
 | [a, b] =>
  simp only [List.cons_append, List.nil_append, List.take_succ_cons, sIf, List.cons.injEq, true_and] at e
  exact ne (by rw [e.1, e.2.1])
 | a :: b :: c :: l =>
  simp only [List.cons_append, List.nil_append, List.take_succ_cons, sIf, List.cons.injEq, true_and] at e
  have := (fr c Y4).1
  omega
theorem wR_head {d : Deed} (h : d.1 ∈ wR) : ∃ c l, tl d.1 = c :: l ∧ c ≠ 105 := by
 have h' : d.1 = ("read" : Str) ∨ d.1 = ("look" : Str) := by simpa [wR] using h
 rcases h' with e | e
 ·rw [e]
  exact ⟨114, [101, 97, 100], by decide +kernel, by decide⟩
 ·rw [e]
  exact ⟨108, [111, 111, 107], by decide +kernel, by decide⟩
theorem tl_dTx (d : Deed) : tl (dTx d) = tl d.1 ++ 32 :: tl d.2 := by
 unfold dTx
 rw [tl_append, tl_append, tl_sp, List.append_assoc]
 rfl
theorem stepsTx_cons (d e : Deed) (r : List Deed) : tl (zaz (d :: e :: r)) = tl d.1 ++ 32 :: (tl d.2 ++ 44 :: 32 :: tl (zaz (e :: r))) := by
 unfold zaz
 rw [List.map_cons, List.map_cons, za7, tl_append, tl_append, tl_cm, tl_dTx, List.append_assoc, List.append_assoc]
 simp
theorem steps_head {d : Deed} {r : List Deed} (h : d.1 ∈ wR) : ∃ c l, tl (zaz (d :: r)) = c :: l ∧ c ≠ 105 := by
 obtain ⟨c, l, e, hc⟩ := wR_head h
 cases r with
 | nil =>
  unfold zaz
  rw [List.map_cons, List.map_nil, zbz, tl_dTx, e]
  exact ⟨_, _, rfl, hc⟩
 | cons q r =>
  rw [stepsTx_cons, e]
  exact ⟨_, _, rfl, hc⟩
theorem free_steps : ∀ (ds : List Deed), ds ≠ [] → (∀ d ∈ ds, DOk wR d) → SX.free sIf (tl (zaz ds)) = true
 | [], h, _ => absurd rfl h
 | [d], _, h => by
  have k := h d Yj
  unfold zaz
  rw [List.map_cons, List.map_nil, zbz, tl_dTx]
  have := free_name k.n (r := []) rfl Ygm
  rw [List.append_nil] at this
  exact free_let this fun c hc => (k.w.fr c hc).1
 | d :: e :: r, _, h => by
  have k := h d Yj
  have ih := free_steps (e :: r) Y4 fun x hx => h x Ybu
  rw [stepsTx_cons]
  refine free_let (free_name k.n (free_cons (pre_of_head _ _ Ybz) (free_cons ?_ ih)) (.inr ⟨_, rfl⟩)) fun c hc => (k.w.fr c hc).1
  obtain ⟨c, l, q, hc⟩ := steps_head (r := r) (h e Y4).m
  rw [q]
  refine Bool.eq_false_iff.mpr fun z => ?_
  have z : (32 :: ((c :: l) ++ sIf)).take 4 = sIf := eq_of_beq z
  simp only [List.cons_append, List.take_succ_cons, sIf, List.cons.injEq, true_and] at z
  exact hc z.1
theorem par_freeN {sep p : List Nat} (h : SX.free sep p = true) : par sep [] p = none := by
 refine par_none fun i hi => ?_
 refine Bool.eq_false_iff.mpr fun z => ?_
 have f := SX.free_at h [] i hi
 have hl : sep.length ≤ (p.drop i).length := by
  have e : (p.drop i).take sep.length = sep := eq_of_beq z
  have := congrArg List.length e
  rw [List.length_take] at this
  omega
 rw [List.drop_append_of_le_length Yb, SX.pre_mono hl, z] at f
 cases f
theorem part_no {a y : Str} {hp : IH} (ey : tl y ≠ []) (h : SX.free (tl y) (tl a) = true) (hl : a.length ≤ 16777216) : zau Yex [.t (.str y)] hp = .ok (.t (.pr [.str a, .str "", .str ""])) hp := by
 have e : Txt.partition a y = (a, (("" : Str), ("" : Str))) := by
  have := SX.partition_none ey (par_freeN h)
  rw [show SX.S (tl a) = a from mk_tl a, show SX.S (tl y) = y from mk_tl y] at this
  exact this
 have ly : (y.length == 0) = false := by
  rw [len_tl]
  cases hq : tl y with
  | nil => exact absurd hq ey
  | cons c l => rfl
 unfold zau
 simp only
 rw [if_pos ⟨ly, hl⟩, e]
theorem part_yes {a b y : Str} {hp : IH} (ey : tl y ≠ []) (h : SX.free (tl y) (tl a) = true) (hl : (a ++ y ++ b).length ≤ 16777216) : zau (.t (.str (a ++ y ++ b))) [.t (.str y)] hp = .ok (.t (.pr [.str a, .str y, .str b])) hp := by
 have e : Txt.partition (a ++ y ++ b) y = (a, y, b) := by
  have := SX.partition_some ey (SX.par_free (tl b) ey h)
  rw [← List.append_assoc, ← tl_append, ← tl_append] at this
  rw [show SX.S (tl (a ++ y ++ b)) = a ++ y ++ b from mk_tl _, show SX.S (tl a) = a from mk_tl a, show SX.S (tl y) = y from mk_tl y, show SX.S (tl b) = b from mk_tl b] at this
  exact this
 have ly : (y.length == 0) = false := by
  rw [len_tl]
  cases hq : tl y with
  | nil => exact absurd hq ey
  | cons c l => rfl
 unfold zau
 simp only
 rw [if_pos ⟨ly, hl⟩, e]
end
section
open TL
inductive Chk where
 | same (i j : Nat)
 | even (i : Nat)
 deriving DecidableEq
def numS (i : Nat) : Str := Str.ofString (toString ((i : Nat) : Int))
def chkP : Chk → List Str
 | .same i j => ["same", numS i, numS j]
 | .even i => ["even", numS i]
def zbe (c : Chk) : Str := Txt.join " " (chkP c)
def chkT : Chk → T
 | .same i j => .tup [.str "same", .int (i : Nat), .int (j : Nat)]
 | .even i => .tup [.str "even", .int (i : Nat)]
def chkOk (ds : List Deed) : Chk → Prop
 | .same i j => i < j ∧ j < ds.length ∧ (ds.getD i ("", "")).1 = "look" ∧ ds.getD i ("", "") = ds.getD j ("", "")
 | .even i => i < ds.length ∧ (ds.getD i ("", "")).1 = "look"
theorem num_no {i c : Nat} (h : c < 48 ∨ 57 < c) : c ∉ tl (numS i) := by
 unfold numS
 rw [tl_num]
 exact numL_free h
theorem num_len {i : Nat} (h : i < 10) : (numS i).length = 1 := by
 unfold numS
 rw [len_tl, tl_num, numL_lt h]
 rfl
theorem deed_at {ds : List Deed} {i : Nat} (h : i < ds.length) : (ds.map dTr)[i]'(by simpa using h) = .tup [.str (ds.getD i ("", "")).1, .str (ds.getD i ("", "")).2] := by
 simp [dTr, List.getD, h]
theorem split_chk {c : Chk} : Txt.split (zbe c) " " = chkP c := by
 refine split_join (s := 32) (S := []) tl_sp Yt (by cases c <;> simp [chkP]) fun p hp => ?_
 have s1 : 32 ∉ tl ("same" : Str) := by decide +kernel
 have s2 : 32 ∉ tl ("even" : Str) := by decide +kernel
 cases c <;> simp only [chkP, List.mem_cons, List.not_mem_nil, or_false] at hp
 ·rcases hp with rfl | rfl | rfl
  ·exact s1
  ·exact num_no Yb
  ·exact num_no Yb
 ·rcases hp with rfl | rfl
  ·exact s2
  ·exact num_no Yb
theorem chkTx_no {c : Chk} {s : Nat} (h : s < 48) (h2 : s ≠ 32) : s ∉ tl (zbe c) := by
 have a1 : ∀ x ∈ tl ("same" : Str), 97 ≤ x := by decide +kernel
 have a2 : ∀ x ∈ tl ("even" : Str), 97 ≤ x := by decide +kernel
 have b1 : s ∉ tl ("same" : Str) := fun m => by have := a1 s m; omega
 have b2 : s ∉ tl ("even" : Str) := fun m => by have := a2 s m; omega
 have n : ∀ i, s ∉ tl (numS i) := fun i => num_no Yb
 cases c <;> simp [zbe, chkP, za7, zbz, tl_append, tl_sp, b1, b2, n, h2]
theorem chkTx_len {c : Chk} {ds : List Deed} (h : chkOk ds c) (h9 : ds.length ≤ 10) : (zbe c).length ≤ 10 := by
 have l1 : ("same" : Str).length = 4 := by decide +kernel
 have l2 : ("even" : Str).length = 4 := by decide +kernel
 cases c with
 | same i j =>
  obtain ⟨h1, h2, _⟩ := h
  simp only [zbe, chkP, za7, zbz, zaj, l1, zea, num_len (show i < 10 by omega), num_len (show j < 10 by omega)]
  omega
 | even i =>
  obtain ⟨h1, _⟩ := h
  simp only [zbe, chkP, za7, zbz, zaj, l2, zea, num_len (show i < 10 by omega)]
  omega
def chkK : Chk → List Key
 | .same i j => [.inr "same", .inl (i : Nat), .inl (j : Nat)]
 | .even i => [.inr "even", .inl (i : Nat)]
theorem chkK_inj {c d : Chk} (h : chkK c = chkK d) : c = d := by
 cases c <;> cases d <;> simp [chkK] at h ⊢ <;> omega
theorem tups_chk : ∀ cs : List Chk, tupsT Ycx = some (cs.map chkK)
 | [] => rfl
 | .same i j :: cs => by
  have ih := tups_chk cs
  simp only [List.map_cons, chkT, chkK, tupsT, ih]
  rfl
 | .even i :: cs => by
  have ih := tups_chk cs
  simp only [List.map_cons, chkT, chkK, tupsT, ih]
  rfl
theorem onceT_nd : ∀ (ks acc : List (List Key)), (acc ++ ks).Nodup → ks.foldl Ybt acc = acc ++ ks
 | [], acc, _ => by simp
 | k :: ks, acc, h => by
  have hm : memT k acc = false := by
   simp only [memT, List.any_eq_false, decide_eq_true_eq]
   intro j hj e
   subst e
   exact (List.nodup_append.mp h).2.2 _ hj _ Yj rfl
  rw [List.foldl_cons]
  simp only [hm, Bool.false_eq_true, if_false]
  rw [onceT_nd ks (acc ++ [k]) (by simpa using h), List.append_assoc]
  rfl
end
section
variable {eta : IS} {hp : IH}
theorem zaw {A : Type} {QA : A → IH → Prop} {U : M Bool} {F G : M A} {b : Bool} (e : U eta hp = .ok b hp) (t : b = true → Wp Yfj QA) (f : b = false → Wp (G eta hp) QA) : Wp (mIf U F G eta hp) QA := by
 refine vc_if (Wp.of e ?_)
 cases b with
 | true => exact Wp.itt rfl (t rfl)
 | false => exact Wp.itf Ybz (f rfl)
theorem andE {U V : M Bool} {a b : Bool} (h : U eta hp = .ok a hp) (h' : a = true → V eta hp = .ok b hp) : mAnd U V eta hp = .ok (a && b) hp := by
 show (U eta hp).bind _ = _
 rw [h, zaf]
 cases a with
 | true => simpa using h' rfl
 | false => rfl
theorem orE {U V : M Bool} {a b : Bool} (h : U eta hp = .ok a hp) (h' : a = false → V eta hp = .ok b hp) : mOr U V eta hp = .ok (a || b) hp := by
 show (U eta hp).bind _ = _
 rw [h, zaf]
 cases a with
 | false => simpa using h' rfl
 | true => rfl
end
section
variable {eta : IS} {hp : IH} {Q : W → IH → Prop} {QL : List W → IH → Prop} {QB : Bool → IH → Prop} {QF : Fl → IH → Prop}
theorem vc_andV {Fa Fb : M W} (q : Wp Yii fun a h1 => ∃ b, a = .t (.bl b) ∧ if b then Wp (Fb eta h1) Q else Q (.t Ycd) h1) : Wp (mAndV Fa Fb eta hp) Q :=
 Wp.bind Yft
theorem vc_orV {Fa Fb : M W} (q : Wp Yii fun a h1 => ∃ b, a = .t (.bl b) ∧ if b then Q Ydd h1 else Wp (Fb eta h1) Q) : Wp (mOrV Fa Fb eta hp) Q :=
 Wp.bind Yft
end
section
open TL
variable {hp : IH}
abbrev RP := Str × List Deed × List Chk
theorem zde : ("reader " : Str).length = 7 := by decide +kernel
def rdrTx (n : Str) (ds : List Deed) : Str := "reader " ++ n ++ ": " ++ zaz ds
def rdrTxC (n : Str) (ds : List Deed) (cs : List Str) : Str := "reader " ++ n ++ ": " ++ (zaz ds ++ " if " ++ Txt.join ", " cs)
def lnR (r : RP) : Str := if r.2.2 = [] then rdrTx r.1 r.2.1 else rdrTxC r.1 r.2.1 (r.2.2.map zbe)
def rdT (r : RP) : T := rdrG r.1 r.2.1 (r.2.2.map zbe) (r.2.2.map chkT)
structure RK2 (r : RP) : Prop where
 k : ROk r.1 r.2.1
 l : r.2.1.length ≤ 10
 n : r.2.2.length ≤ 4
 c : ∀ c ∈ r.2.2, chkOk r.2.1 c
 nd : r.2.2.Nodup
end
section
structure ScrP (w u : Str) (cs ctr : List Str) (m : Nat) (ds : List Deed) : Prop where
 ok : ∀ d ∈ ds, (d.1 = w ∧ d.2 ∈ cs) ∨ (d.1 = u ∧ d.2 ∈ ctr)
 nd : ((ds.filter fun d => decide (d.1 = w)).map (·.2)).Nodup
 len : ds.length ≤ m
 one : ∃ d ∈ ds, d.1 = w
theorem scrp_perm {w u : Str} {cs ctr ps : List Str} {m : Nat} {xs ys : List Deed} (p : xs.Perm ((ps.map fun x => ((w, x) : Deed)).take m ++ ys)) (nd : ps.Nodup) (hp : ∀ x ∈ ps, x ∈ cs) (h0 : 0 < ps.length) (m0 : 0 < m) (hy : ∀ y ∈ ys, y.1 = u ∧ y.2 ∈ ctr) (yl : ys.length ≤ m - ((ps.map fun x => ((w, x) : Deed)).take m).length) (hu : u ≠ w) : ScrP w u cs ctr m xs := by
 have e1 : (ps.map fun x => ((w, x) : Deed)).take m = (ps.take m).map fun x => (w, x) := (List.map_take ..).symm
 rw [e1] at p yl
 refine ⟨fun d hd => ?_, ?_, ?_, ?_⟩
 ·rcases List.mem_append.mp (p.mem_iff.mp hd) with h | h
  ·obtain ⟨x, hx, rfl⟩ := List.mem_map.mp h
   exact .inl ⟨rfl, hp x (List.mem_of_mem_take hx)⟩
  ·exact .inr (hy d h)
 ·refine (((p.filter fun d => decide (d.1 = w)).map (·.2)).nodup_iff).mpr ?_
  have f1 : ys.filter (fun d => decide (d.1 = w)) = [] := List.filter_eq_nil_iff.mpr fun d hd => by
   rw [(hy d hd).1]
   simpa using hu
  have f2 : ((ps.take m).map fun x => ((w, x) : Deed)).filter (fun d => decide (d.1 = w)) = (ps.take m).map fun x => (w, x) := List.filter_eq_self.mpr fun d hd => by
   obtain ⟨x, _, rfl⟩ := List.mem_map.mp hd
   simp
  rw [List.filter_append, f1, f2, List.append_nil, List.map_map]
  have : (fun x : Deed => x.2) ∘ (fun x : Str => ((w, x) : Deed)) = id := rfl
  rw [this, List.map_id]
  exact nd.sublist (List.take_sublist _ _)
 ·have := p.length_eq
  have l2 : ((ps.take m).map fun x => ((w, x) : Deed)).length ≤ m := by rw [List.length_map]; exact List.length_take_le ..
  rw [List.length_append] at this
  omega
 ·cases ps with
  | nil => simp at h0
  | cons x ps =>
   obtain ⟨k, rfl⟩ : ∃ k, m = k + 1 := ⟨m - 1, by omega⟩
   exact ⟨(w, x), p.mem_iff.mpr (List.mem_append.mpr (.inl Y4)), rfl⟩
end
section
variable {i j : Nat} {hp : IH}
theorem cutL_from2 {A : Type} (xs : List A) (k : Nat) : cutL xs (some (k : Int)) none = xs.drop k := by
 unfold cutL
 rw [HT.sIx_none, HT.sIx_nat]
 rcases Nat.le_total k xs.length with h | h
 ·rw [Nat.min_eq_left h, List.take_of_length_le (by rw [List.length_drop]; omega)]
 ·rw [Nat.min_eq_right h, List.drop_eq_nil_of_le Yd8, List.drop_eq_nil_of_le h, List.take_nil]
theorem oListF_l {ts : List T} : oListF [.t (.lst ts)] hp = .ok Yad hp := by
 unfold oListF
 simp
theorem put_is {ds ms : List Deed} (d : Deal i j hp) (hl : ds.length + ms.length ≤ 1000) : ∃ (xs : List Deed) (hp' : IH), xs.Perm (ds ++ ms) ∧ F_w_put [.r i, .t Yfq, .t Yil] hp = .ok (.t Yfc) hp' ∧ Deal i j hp' := by
 suffices h : Wp (F_w_put [.r i, .t Yfq, .t Yil] hp) fun w h => ∃ xs : List Deed, xs.Perm (ds ++ ms) ∧ w = .t Yfc ∧ Deal i j h by
  obtain ⟨w, h1, e, xs, p, rfl, d1⟩ := h.ex
  exact ⟨xs, h1, p, e, d1⟩
 refine vc_fnM (eta := [some (.r i), some Yb1, some (.t Yil), none, none, none]) rfl rfl ?_
 unfold B_w_put
 refine zam (zbi (zct (zak (za1 rfl (zbb (Wp.rw oListF_l (Wp.ok (zax ?_))))))))
 refine zam (vc_for (vc_sq (za1 rfl (vc_sqL ?_))))
 refine vc_loop (G := gN 4) (S := f_w_put_l1) (fun ws eta h => ∃ (xs rest : List Deed) (v4 v5 : Option W), ws = (rest.map dTr).map W.t ∧ (xs ++ rest).Perm (ds ++ ms) ∧ eta = [some (.r i), some Yb1, some (.t Yil), some (.t Yfc), v4, v5] ∧ Deal i j h) ?_ _ _ _ ⟨ds, ms, none, none, rfl, .refl _, rfl, d⟩ ?_
 ·rintro w ws eta h ⟨xs, rest, v4, v5, ew, p, rfl, d⟩
  cases rest with
  | nil => simp at ew
  | cons y rest =>
   simp only [List.map_cons, List.cons.injEq] at ew
   obtain ⟨rfl, rfl⟩ := ew
   refine ⟨_, rfl, ?_⟩
   have pl := p.length_eq
   simp only [List.length_append, List.length_cons] at pl
   obtain ⟨n, h1, e1, n0, n1, d1, _⟩ := zee (wide := (xs.length : Nat) + 1) d Yb Yb
   obtain ⟨k, rfl⟩ : ∃ k : Nat, n = (k : Int) := ⟨n.toNat, by omega⟩
   unfold f_w_put_l1
   let E : Option W → IS := fun v5 => [some (.r i), some Yb1, some (.t Yil), some (.t Yfc), some (.t (dTr y)), v5]
   have ln : (mBin wAdd Y3 Yg : M W) (E v5) h = .ok (.t (.int ((xs.length : Nat) + 1))) h := binP (zcn (a := .t Yfc) rfl Yap) rfl rfl
   refine zam (zbi (zfk (zak (za1 rfl (zak (Wp.of ln (zbb (Wp.of e1 (zax ?_)))))))))
   show Wp ((mSet 3 _ : M Fl) (E Ye0) h1) _
   have s1 : (mSl (mVar 3) zat (zbt (mVar 5)) : M W) (E Ye0) h1 = .ok (.t (.lst ((xs.take k).map dTr))) h1 := by
    show slW (.t Yfc) none (some (k : Int)) h1 = _
    simp only [slW, cutL_to, List.map_take]
   have s2 : (mSl (mVar 3) (zbt (mVar 5)) zat : M W) (E Ye0) h1 = .ok (.t (.lst ((xs.drop k).map dTr))) h1 := by
    show slW (.t Yfc) (some (k : Int)) none h1 = _
    simp only [slW, cutL_from2, List.map_drop]
   have lt : (xs.take k).length ≤ xs.length := List.length_take_le' ..
   have ld : (xs.drop k).length ≤ xs.length := by rw [List.length_drop]; omega
   have s3 : (mBin wAdd Yjj (mSl (mVar 3) (zbt (mVar 5)) zat) : M W) (E Ye0) h1 = .ok (.t (.lst ((xs.take k ++ [y] ++ xs.drop k).map dTr))) h1 := by
    have a1 := binP (f := wAdd) s1 (b := .t (.lst [dTr y])) (Fb := mApp zas Ybb) rfl (r := .ok (.t (.lst ((xs.take k).map dTr ++ [dTr y]))) h1) (by rw [wAdd_ll, if_pos (by simp only [List.length_map, List.length_cons, List.length_nil]; omega)])
    refine binP a1 s2 ?_
    rw [wAdd_ll, if_pos (by simp only [List.length_append, List.length_map, List.length_cons, List.length_nil]; omega)]
    simp only [List.map_append, List.map_cons, List.map_nil]
   refine zbi (Wp.of s3 ⟨_, rfl, xs.take k ++ [y] ++ xs.drop k, rest, _, _, rfl, ?_, rfl, d1⟩)
   have q1 : (xs.take k ++ [y] ++ xs.drop k).Perm (xs ++ [y]) := by
    have : (xs.take k ++ ([y] ++ xs.drop k)).Perm (xs.take k ++ (xs.drop k ++ [y])) := List.Perm.append_left _ List.perm_append_comm
    rw [← List.append_assoc, ← List.append_assoc, List.take_append_drop] at this
    exact this
   have q2 := q1.append_right rest
   rw [List.append_assoc xs] at q2
   exact q2.trans p
 ·rintro e h ⟨xs, rest, v4, v5, ew, p, rfl, d⟩
  cases rest with
  | cons y rest => simp at ew
  | nil =>
   rw [List.append_nil] at p
   exact zax (zay (za1 rfl ⟨_, rfl, xs, p, rfl, d⟩))
end
section
variable {i j : Nat} {hp : IH}
theorem glances_is {cs ctr : List Str} {m : Nat} (d : Deal i j hp) (nd : cs.Nodup) (c0 : 0 < cs.length) (cl : cs.length ≤ 100) (t0 : 0 < ctr.length) (tl : ctr.length ≤ 100) (m0 : 0 < m) (ml : m ≤ 100) : ∃ (ds : List Deed) (hp' : IH), ScrP "read" "look" cs ctr m ds ∧ zdh [.r i, .t (.lst Ybl), .t (.lst (ctr.map T.str)), .t Yid] hp = .ok Yb1 hp' ∧ Deal i j hp' := by
 suffices h : Wp (zdh [.r i, .t (.lst Ybl), .t (.lst (ctr.map T.str)), .t Yid] hp) fun w h => ∃ ds : List Deed, ScrP "read" "look" cs ctr m ds ∧ w = .t Yfq ∧ Deal i j h by
  obtain ⟨w, h1, e, ds, s, rfl, d1⟩ := h.ex
  exact ⟨ds, h1, s, e, d1⟩
 let V1 : Option W := some (.t (.lst Ybl))
 let V2 : Option W := some (.t (.lst (ctr.map T.str)))
 let V3 : Option W := some (.t Yid)
 refine vc_fnM (eta := [some (.r i), V1, V2, V3, none, none, none, none, none]) rfl rfl ?_
 obtain ⟨zs, h1, p1, e1, d1, _⟩ := mixed_is (ts := cs.map T.str) d Yan fitL_strs
 obtain ⟨l, pl, el⟩ := perm_strs p1
 subst el
 obtain ⟨n, h2, e2, n0, n1, d2, _⟩ := zee (wide := (cs.length : Nat)) d1 Yb Yb
 have ll := pl.length_eq
 let ps : List Str := l.take (n.toNat + 1)
 have psl : ps.length = n.toNat + 1 := by simp only [ps, List.length_take]; omega
 have psn : ps.Nodup := (pl.nodup_iff.mpr nd).sublist (List.take_sublist _ _)
 have psm : ∀ x ∈ ps, x ∈ cs := fun x hx => pl.mem_iff.mp (List.mem_of_mem_take hx)
 unfold B_w_glances
 have ol : ∀ {v4 : Option W}, (mApp oLen Yq : M W) [some (.r i), V1, V2, V3, v4, none, none, none, none] h1 = .ok (.t (.int (cs.length : Nat))) h1 := zcn (a := .t (.lst Ybl)) rfl Yap
 have sl : (mSl (zaq zcv [] (zab (mVar 0) Yq)) zat (zbt (mBin wAdd Yg Yen)) : M W) [some (.r i), V1, V2, V3, none, none, none, none, none] hp = .ok (.t Y8) h2 := by
  rw [p_sl, zar (ws := [.r i, .t (.lst Ybl)]) rfl e1, zaf, p_noPart, zaf, p_part, bin_ok (h1 := h1) (h2 := h2) (a := .t (.int 1)) (b := .t (.int n)) (r := .ok (.t (.int (1 + n))) h2) rfl (zar (ws := [.r i, .t (.int (cs.length : Nat))]) (zbn rfl (zbn ol rfl)) e2) rfl, zaf]
  show slW (.t (.lst Yew)) none (some (1 + n)) h2 = _
  have : 1 + n = ((n.toNat + 1 : Nat) : Int) := by omega
  simp only [slW, this, cutL_to, ps, List.map_take]
 refine zam (zbi (Wp.of sl (zax ?_)))
 let St : List Deed := ps.map fun x => ("read", x)
 let E1 : IS := [some (.r i), V1, V2, V3, some (.t Y8), none, none, none, none]
 have cp : (zbq zas (mSq (mVar 4)) (gN 7) mYes zdn [7] : M W) E1 h2 = .ok (.t (.lst (St.map dTr))) h2 := by
  refine zdx (ws := (ps.map T.str).map W.t) (ys := (St.map dTr).map W.t) (h1 := h2) (h2 := h2) rfl Yan ?_ (lst_ok (by simp [St]; omega))
  have e : St.map dTr = ps.map fun x => T.tup [.str "read", .str x] := by simp [St, dTr, Function.comp_def]
  rw [e]
  exact comp_all fun x _ => rfl
 let D1 : List Deed := St.take m
 have sl2 : (mSl (zbq zas (mSq (mVar 4)) (gN 7) mYes zdn [7]) zat (zbt (mVar 3)) : M W) E1 h2 = .ok (.t (.lst (D1.map dTr))) h2 := by
  rw [p_sl, cp, zaf, p_noPart, zaf]
  show slW (.t (.lst (St.map dTr))) none (some (m : Int)) h2 = _
  simp only [slW, cutL_to, D1, List.map_take]
 refine zam (zbi (Wp.of sl2 (zax ?_)))
 obtain ⟨f, h3, e3, f0, f1, d3, _⟩ := zee (wide := 4) d2 Yb Yb
 let E2 : IS := [some (.r i), V1, V2, V3, some (.t Y8), some (.t (.lst (D1.map dTr))), none, none, none]
 have rg : rng1 [.t (.int f)] h3 = .ok ((List.range f.toNat).map natW) h3 := by
  obtain ⟨k, rfl⟩ : ∃ k : Nat, f = (k : Int) := ⟨f.toNat, by omega⟩
  exact rng_is Yb
 have fl : f.toNat ≤ 4 := by omega
 refine zam (zbi (zeu (vc_src (zak (zfk (zak (za1 rfl (zak (vc_c (zbb (Wp.of e3 (zbb (Wp.rw rg (Wp.ok ⟨by simp; omega, ?_⟩))))))))))))))
 refine vc_compL (fun ws acc h => ∃ ys : List Deed, acc = (ys.map dTr).map W.t ∧ ys.length + ws.length = f.toNat ∧ (∀ y ∈ ys, y.1 = "look" ∧ y.2 ∈ ctr) ∧ Deal i j h) ?_ _ [] _ _ ⟨[], rfl, by simp, by simp, d3⟩ ?_
 ·rintro w ws acc h ⟨ys, rfl, ly, hy, d⟩
  obtain ⟨t, h4, mt, e4, d4, _⟩ := pick_is (ts := ctr.map T.str) d Yan Yan
  obtain ⟨x, hx, rfl⟩ := List.mem_map.mp mt
  refine ⟨_, rfl, vc_yes ?_⟩
  simp only [if_true]
  unfold zdm
  refine zct (zak (vc_c (zak (zfk (zak (za1 rfl (zak (za1 rfl (zbb (Wp.of e4 (zbb (zew (ts := [.str "look", .str x]) rfl Y4 ⟨ys ++ ([("look", x)] : List Deed), by simp [dTr], ?_, ?_, d4⟩))))))))))))
  ·simp only [List.length_append, List.length_cons, List.length_nil] at ly ⊢
   omega
  ·intro y hy'
   rcases List.mem_append.mp hy' with h' | h'
   ·exact hy y h'
   ·rw [List.mem_singleton.mp h']
    exact ⟨rfl, hx⟩
 rintro r h4 ⟨ys, er, ly, hy, d4⟩
 rw [List.nil_append] at er
 subst er
 simp only [List.length_nil, Nat.add_zero] at ly
 refine zd8 Yan (zax ?_)
 let E3 : IS := [some (.r i), V1, V2, V3, some (.t Y8), some (.t (.lst (D1.map dTr))), some (.t (.lst (ys.map dTr))), none, none]
 have dl : D1.length ≤ m := List.length_take_le ..
 have sl3 : (mSl (mVar 6) zat (zbt (mBin iSub (mVar 3) (mApp oLen Yb7))) : M W) E3 h4 = .ok (.t (.lst ((ys.take (m - D1.length)).map dTr))) h4 := by
  have o5 : (mApp oLen Yb7 : M W) E3 h4 = .ok (.t (.int (D1.length : Nat))) h4 := zcn (a := .t (.lst (D1.map dTr))) rfl Yap
  rw [p_sl, varP (w := .t (.lst (ys.map dTr))) rfl, zaf, p_noPart, zaf, p_part, bin_ok (h1 := h4) (h2 := h4) (a := .t Yid) (b := .t (.int (D1.length : Nat))) (r := .ok (.t (.int ((m : Nat) - (D1.length : Nat) : Int))) h4) rfl o5 rfl, zaf]
  show slW (.t (.lst (ys.map dTr))) none (some ((m : Nat) - (D1.length : Nat) : Int)) h4 = _
  rw [show ((m : Nat) - (D1.length : Nat) : Int) = ((m - D1.length : Nat) : Int) by omega]
  simp only [slW, cutL_to, List.map_take]
 have sl1 : St.length = n.toNat + 1 := by simp only [St, List.length_map, psl]
 have dl1 : D1.length ≤ 100 := by omega
 have yl : (ys.take (m - D1.length)).length ≤ m - D1.length := List.length_take_le ..
 obtain ⟨xs, h5, px, e5, d5⟩ := put_is (ds := D1) (ms := ys.take (m - D1.length)) d4 Yb
 refine zay (zfk (zak (za1 rfl (zak (za1 rfl (zak (Wp.of sl3 (zbb (Wp.of e5 ⟨_, rfl, xs, ?_, rfl, d5⟩)))))))))
 exact scrp_perm px psn psm Yb m0 (fun y hy' => hy y (List.mem_of_mem_take hy')) yl Yt
end
section
open TL
variable {i j : Nat} {hp : IH}
abbrev ttl : List Str := ["move", "add", "w", "both", "r", "iff", "zzzz"]
theorem ttl_nam : ∀ x ∈ ttl, namB x = true := by decide +kernel
theorem wrd_read : Wrd "read" := wrd_ok Yt
theorem wrd_look : Wrd "look" := wrd_ok Yt
theorem titles_is (d : Deal i j hp) : ∃ (x : Str) (hp' : IH), x ∈ ttl ∧ ze6 [.r i, .t (.int 1)] hp = .ok (.t (.lst [.str x])) hp' ∧ Deal i j hp' := by
 obtain ⟨zs, h1, p1, e1, d1, _⟩ := mixed_is (ts := ttl.map T.str) d Y4 fitL_strs
 obtain ⟨l, pl, el⟩ := perm_strs p1
 subst el
 match l, pl with
 | [], p => exact absurd p.length_eq Y4
 | x :: l, p =>
  refine ⟨x, h1, p.mem_iff.mp Yj, fnM_ok (eta := [some (.r i), some (.t (.int 1))]) rfl rfl ?_, d1⟩
  unfold B_w_titles
  rw [p_ret, p_sl, zar (ws := [.r i, .t (.lst (ttl.map T.str))]) rfl e1, zaf]
  rfl
theorem deed_texts_is {ds : List Deed} (hl : ds.length ≤ 1000) (h : ∀ d ∈ ds, (dTx d).length ≤ 15) : zcb [.t Yfq] hp = .ok (.t (.lst Yaa)) hp := by
 refine fnP_ok (ts := [.lst Yh]) (eta := [some Yb1, none, none]) rfl rfl (h1 := []) ?_
 unfold B_w_deed_texts
 have q := comp_g (G := gT 2 (gsC (gN 1) (gsC (gN 2) gsN))) (U := mYes) (E := zcj) (eta := [some Yb1, none, none]) (hp := []) (src := fun d : Deed => W.t (dTr d))
  (loc := fun d => [some Yb1, some (.t (.str d.1)), some (.t (.str d.2))]) (p := fun _ => true) (g := fun d => .str (dTx d)) ds Ya3 Ya3 (fun d hd _ => by
   have l1 := h d hd
   unfold dTx at l1
   rw [zaj, zaj] at l1
   unfold zcj
   exact binP (binP (a := .t (.str d.1)) (b := .t (.str " ")) rfl rfl (zfe Yb)) (b := .t (.str d.2)) rfl (zfe (by rw [zaj]; omega)))
 rw [zd4] at q
 rw [p_ret, zdx (ws := (ds.map dTr).map W.t) (ys := (ds.map fun d => T.str (dTx d)).map W.t) (h1 := []) (h2 := []) rfl Yan (by rw [List.map_map]; exact q) (lst_ok Yan)]
 rfl
end
section
open TL
variable {hp : IH}
theorem perm_of_map {A : Type} (f : A → T) : ∀ {zs ys : List T}, zs.Perm ys → ∀ {l : List A}, ys = l.map f → ∃ l' : List A, l'.Perm l ∧ zs = l'.map f := by
 intro zs ys p
 induction p with
 | nil =>
  intro l e
  have : l = [] := by simpa using e.symm
  exact ⟨[], by rw [this], rfl⟩
 | cons x _ ih =>
  intro l e
  cases l with
  | nil => simp at e
  | cons a l =>
   simp only [List.map_cons, List.cons.injEq] at e
   obtain ⟨rfl, e⟩ := e
   obtain ⟨l', p, rfl⟩ := ih e
   exact ⟨a :: l', p.cons a, rfl⟩
 | swap x y r =>
  intro l e
  match l, e with
  | [], e => simp at e
  | [a], e => simp at e
  | a :: b :: l, e =>
   simp only [List.map_cons, List.cons.injEq] at e
   obtain ⟨rfl, rfl, rfl⟩ := e
   exact ⟨b :: a :: l, .swap a b l, rfl⟩
 | trans _ _ ih1 ih2 =>
  intro l e
  obtain ⟨l2, p2, rfl⟩ := ih2 e
  obtain ⟨l1, p1, rfl⟩ := ih1 rfl
  exact ⟨l1, p1.trans p2, rfl⟩
theorem enum_range : ∀ (k : Nat) (ts : List T), enumT k ts = (List.range ts.length).map fun i => W.t (.pr [.int ((k + i : Nat)), ts.getD i .non])
 | k, [] => rfl
 | k, t :: ts => by
  rw [enumT, enum_range (k + 1) ts, List.length_cons, List.range_succ_eq_map, List.map_cons, List.map_map]
  congr 1
  refine List.map_congr_left fun i _ => ?_
  simp [Function.comp_def, Nat.add_assoc, Nat.add_comm 1]
def lookL (ds : List Deed) : List Nat := (List.range ds.length).filter fun i => decide ((ds.getD i ("", "")).1 = "look")
theorem dget {ds : List Deed} {i : Nat} (h : i < ds.length) : (ds.map dTr).getD i .non = dTr (ds.getD i ("", "")) := by
 simp [List.getD, h]
theorem deq_fit {d : Deed} : fit (dTr d) 60 = true := by simp [dTr]
theorem dTr_inj {d e : Deed} : Mir.eqT (dTr d) (dTr e) = decide (d = e) := by
 obtain ⟨a, b⟩ := d
 obtain ⟨c, f⟩ := e
 simp only [dTr, eqT_tt, eqTL_cc, eqT_ss, eqTL_nn, Bool.and_true]
 by_cases h1 : a = c <;> by_cases h2 : b = f <;> simp [h1, h2]
theorem lookL_mem {ds : List Deed} {n : Nat} : n ∈ lookL ds ↔ n < ds.length ∧ (ds.getD n ("", "")).1 = "look" := by
 unfold lookL
 rw [List.mem_filter, List.mem_range, decide_eq_true_eq]
theorem lookL_nd {ds : List Deed} : (lookL ds).Nodup := List.nodup_range.sublist (List.filter_sublist)
def chkI : Chk → Nat | .same i _ => i | .even i => i
def chksW (cs : List Chk) : List W := (cs.map chkT).map W.t
theorem app_chk {k : Nat} {E : IS} {acc : List Chk} {c : Chk} {F : M W} {h : IH} (g : getL h k = some Yim) (hl : acc.length ≤ 1000) (e3 : E[3]? = some (some (.r k))) (hF : F E h = .ok (.t (chkT c)) h) :
  (mDrop (zfd isL zb0 (mVar 3) (zab F mNil)) : M Fl) E h = .ok (.nx E) (h.set k (some (.lst (chksW (acc ++ [c]))))) :=
 dmeth_ok (o := .r k) (h1 := h) (h2 := h) (ws := [.t (chkT c)]) (varP e3) (by simp only [isL, zey, g]; rfl) (zbn hF rfl) (by
  simp only [zb0, g]
  rw [if_pos (by unfold chksW; rw [List.length_map, List.length_map]; omega)]
  simp only [chksW, List.map_append, List.map_cons, List.map_nil]
  rfl)
abbrev tE (i : Nat) (ds : List Deed) (ls : List Nat) (k : Nat) (v4 v5 v6 : Option W) : IS := [some (.r i), some Yb1, some (.t (.lst (ls.map fun n => T.int (n : Nat)))), some (.r k), v4, v5, v6]
/-- what has been gathered -/
structure Tst (ds : List Deed) (D : List Nat) (b : Nat) (acc : List Chk) : Prop where
 nd : acc.Nodup
 ok : ∀ c ∈ acc, chkOk ds c
 len : acc.length ≤ b
def inD (D : List Nat) (at_ : Nat) (done : List Nat) (c : Chk) : Prop := chkI c ∈ D ∨ c = .even at_ ∨ ∃ o ∈ done, c = .same at_ o
theorem inner05 {i j k : Nat} (hik : i ≠ k) (hjk : j ≠ k) {ds : List Deed} {ls : List Nat} (hls : ∀ o ∈ ls, o ∈ lookL ds) (nd : ls.Nodup) {at_ : Nat} (ha : at_ ∈ lookL ds) {D : List Nat} (hD : at_ ∉ D) {b : Nat} (hb : b + ls.length ≤ 900) {acc : List Chk} {h : IH} (d : Deal i j h) (g : getL h k = some Yim) (t : Tst ds D b acc) (hi : ∀ c ∈ acc, inD D at_ [] c) {v5 v6 : Option W} :
  Wp ((mFor Yco (gN 5) zc1 : M Fl) (tE i ds ls k Yea v5 v6) h) fun fl h' => ∃ (v5 : Option W) (acc' : List Chk), fl = .nx (tE i ds ls k Yea v5 v6) ∧ Deal i j h' ∧ getL h' k = some (chksW acc') ∧ Tst ds D (b + ls.length) acc' ∧ ∀ c ∈ acc', inD D at_ ls c := by
 obtain ⟨la, lk⟩ := lookL_mem.mp ha
 refine vc_for (vc_sq (za1 rfl (vc_sqL ?_)))
 refine vc_loop (G := gN 5) (S := zc1) (fun ws eta h => ∃ (done rest : List Nat) (acc : List Chk) (v5 : Option W), ws = (rest.map fun n => T.int (n : Nat)).map W.t ∧ done ++ rest = ls ∧ eta = tE i ds ls k Yea v5 v6 ∧ Deal i j h ∧ getL h k = some Yim ∧ Tst ds D (b + done.length) acc ∧ ∀ c ∈ acc, inD D at_ done c) ?_ _ _ _ ⟨[], ls, acc, v5, rfl, rfl, rfl, d, g, t, hi⟩ ?_
 ·rintro w ws eta h ⟨done, rest, acc, v5, ew, el, rfl, d, g, t, hi⟩
  cases rest with
  | nil => simp at ew
  | cons o rest =>
   simp only [List.map_cons, List.cons.injEq] at ew
   obtain ⟨rfl, rfl⟩ := ew
   let E : IS := tE i ds ls k Yea (some (.t (.int (o : Nat)))) v6
   refine ⟨E, rfl, ?_⟩
   have ho : o ∈ ls := by rw [← el]; simp
   have hod : o ∉ done := by
    rw [← el] at nd
    exact fun m => (List.nodup_append.mp nd).2.2 _ m _ Yj rfl
   obtain ⟨lo, lko⟩ := lookL_mem.mp (hls o ho)
   have el2 : (done ++ [o]) ++ rest = ls := by rw [List.append_assoc]; exact el
   have dl : (done ++ [o]).length = done.length + 1 := by simp
   have dle : done.length + 1 ≤ ls.length := by rw [← el2]; simp
   have keep : ∀ c, inD D at_ done c → inD D at_ (done ++ [o]) c := fun c hc => by
    rcases hc with hc | hc | ⟨x, hx, e⟩
    ·exact .inl hc
    ·exact .inr (.inl hc)
    ·exact .inr (.inr ⟨x, List.mem_append_left _ hx, e⟩)
   have stay : ∀ h', Deal i j h' → getL h' k = some Yim → Wp ((zbh : M Fl) E h') fun fl h => ∃ e, fl = .nx e ∧ ∃ (done rest' : List Nat) (acc : List Chk) (v5 : Option W), (rest.map fun n => T.int (n : Nat)).map W.t = (rest'.map fun n => T.int (n : Nat)).map W.t ∧ done ++ rest' = ls ∧ e = tE i ds ls k Yea v5 v6 ∧ Deal i j h ∧ getL h k = some Yim ∧ Tst ds D (b + done.length) acc ∧ ∀ c ∈ acc, inD D at_ done c := fun h' d' g' =>
    za3 ⟨_, rfl, done ++ [o], rest, acc, _, rfl, el2, rfl, d', g', ⟨t.nd, t.ok, by rw [dl]; have := t.len; omega⟩, fun c hc => keep c (hi c hc)⟩
   unfold zc1
   have t1 : (zae asB (mBin iGt (mVar 5) (mVar 4)) : M Bool) E h = .ok (decide (at_ < o)) h := za8 (binP (a := .t (.int (o : Nat))) (b := .t (.int (at_ : Nat))) rfl rfl (by rw [iGt_ii]; congr 3; simp only [decide_eq_decide]; omega))
   have g1 : (mBin ixW (mVar 1) (mVar 5) : M W) E h = .ok (.t (dTr (ds.getD o ("", "")))) h := by
    rw [lst_at (ts := ds.map dTr) (n := o) (by simpa using lo) rfl rfl, dget lo]
   have g2 : (mBin ixW (mVar 1) (mVar 4) : M W) E h = .ok (.t (dTr (ds.getD at_ ("", "")))) h := by
    rw [lst_at (ts := ds.map dTr) (n := at_) (by simpa using la) rfl rfl, dget la]
   have t2 : (zae asB Yij : M Bool) E h = .ok (decide (ds.getD o ("", "") = ds.getD at_ ("", ""))) h := za8 (binP g1 g2 Yjc)
   obtain ⟨q, h1, eq, q0, q1, d1, hl1, k1⟩ := zee (wide := 3) d Yb Yb
   have gk : getL h1 k = some Yim := by
    unfold getL
    rw [k1 k (Ne.symm hik) (Ne.symm hjk)]
    exact g
   have t3 : (zae asB (mBin iGt Ycq Yd) : M Bool) E h = .ok (decide (0 < q)) h1 := by
    show ((mBin _ _ _ : M W) E h).bind _ = _
    rw [bin_ok (h1 := h1) (h2 := h1) (zar (ws := [.r i, .t (.int 3)]) rfl eq) rfl ev_gt]
    rfl
   refine vc_if (vc_and (Wp.of t1 (Wp.ite (fun c1 => vc_and (Wp.of t2 (Wp.ite (fun c2 => Wp.of t3 (Wp.ite (fun c3 => ?_) (fun _ => stay h1 d1 gk))) (fun _ => Wp.ok (stay h d g))))) (fun _ => Wp.ok (stay h d g)))))
   have c1 : at_ < o := of_decide_eq_true c1
   have c2 := of_decide_eq_true c2
   have al := t.len
   have ap := app_chk (E := E) (F := mApp za2 (zab Yfp (zab (mVar 4) Yb7))) (c := .same at_ o) gk Yb rfl rfl
   refine Wp.of ap ⟨_, rfl, done ++ [o], rest, acc ++ [.same at_ o], _, rfl, el2, rfl, d1.keep (List.getElem?_set_ne (Ne.symm hik)) (List.getElem?_set_ne (Ne.symm hjk)), ?_, ⟨?_, ?_, ?_⟩, ?_⟩
   ·have lk := zfj gk
    unfold getL
    rw [List.getElem?_set_self lk]
   ·refine List.nodup_append.mpr ⟨t.nd, by simp, fun x hx y hy e => ?_⟩
    have hy := List.mem_singleton.mp hy
    subst hy
    subst e
    rcases hi _ hx with m | m | ⟨p, hp, m⟩
    ·exact hD m
    ·cases m
    ·simp only [Chk.same.injEq, true_and] at m
     exact hod (m ▸ hp)
   ·intro c hc
    rcases List.mem_append.mp hc with hc | hc
    ·exact t.ok c hc
    ·rw [List.mem_singleton.mp hc]
     exact ⟨c1, lo, lk, c2.symm⟩
   ·simp only [List.length_append, List.length_cons, List.length_nil]
    omega
   ·intro c hc
    rcases List.mem_append.mp hc with hc | hc
    ·exact keep c (hi c hc)
    ·rw [List.mem_singleton.mp hc]
     exact .inr (.inr ⟨o, by simp, rfl⟩)
 ·rintro e h ⟨done, rest, acc, v5, ew, el, rfl, d, g, t, hi⟩
  cases rest with
  | cons o rest => simp at ew
  | nil =>
   rw [List.append_nil] at el
   subst el
   exact ⟨v5, acc, rfl, d, g, t, hi⟩
theorem tests_drawn {i j : Nat} {ds : List Deed} (d : Deal i j hp) (hl : ds.length ≤ 8) : ∃ (cs : List Chk) (hp' : IH), ze2 [.r i, .t Yfq] hp = .ok Yi4 hp' ∧ Deal i j hp' ∧ cs.Nodup ∧ (∀ c ∈ cs, chkOk ds c) ∧ cs.length ≤ 4 := by
 suffices h : Wp (ze2 [.r i, .t Yfq] hp) fun w h => ∃ cs : List Chk, w = .t (.lst Ycx) ∧ Deal i j h ∧ cs.Nodup ∧ (∀ c ∈ cs, chkOk ds c) ∧ cs.length ≤ 4 by
  obtain ⟨w, h1, e, cs, rfl, r⟩ := h.ex
  exact ⟨cs, h1, e, r⟩
 refine vc_fnM (eta := [some (.r i), some Yb1, none, none, none, none, none]) rfl rfl ?_
 unfold B_w_tests
 let ls := lookL ds
 have ll : ls.length ≤ 8 := by
  have := List.length_filter_le (fun i => decide ((ds.getD i ("", "")).1 = ("look" : Str))) (List.range ds.length)
  rw [List.length_range] at this
  exact Nat.le_trans this hl
 obtain ⟨li, lj⟩ := d.lt
 let k : Nat := hp.length
 let h1 : IH := hp ++ [some (.lst [])]
 let E0 : IS := [some (.r i), some Yb1, none, none, none, none, none]
 have cp : (zbq zas (mSrc enum1 Yq) (gT 2 (gsC (gN 4) (gsC (gN 6) gsN))) zds zdq [4, 6] : M W) E0 hp = .ok (.t (.lst (ls.map fun n => T.int (n : Nat)))) hp := by
  have q := comp_g (G := gT 2 (gsC (gN 4) (gsC (gN 6) gsN))) (U := zds) (E := zdq) (eta := E0) (hp := hp) (src := fun n : Nat => W.t Yes)
   (loc := fun n => [some (.r i), some Yb1, none, none, some (.t (.int ((0 + n : Nat)))), none, some (.t ((ds.map dTr).getD n .non))]) (p := fun n => decide ((ds.getD n ("", "")).1 = "look")) (g := fun n => .int (n : Nat)) (List.range ds.length) Ya3
   (fun n hn => by
    have hn := List.mem_range.mp hn
    unfold zds
    refine za8 (binP (a := .t (.str (ds.getD n ("", "")).1)) (binP (a := .t (dTr (ds.getD n ("", "")))) ?_ rfl ?_) rfl (ev_eqs.trans Y4))
    ·rw [← dget hn]
     rfl
    ·exact ev_ixt0)
   (fun n _ _ => by
    unfold zdq
    rw [Nat.zero_add]
    rfl)
  have en : enum1 [.t Yfq] hp = .ok ((List.range ds.length).map fun n => W.t Yes) hp := by
   have := enum_range 0 Yh
   rw [List.length_map] at this
   rw [← this]
   rfl
  refine zdx (ws := (List.range ds.length).map fun n => W.t Yes) (ys := (ls.map fun n => T.int (n : Nat)).map W.t) (h1 := hp) (h2 := hp) en (by rw [List.length_map, List.length_range]; omega) q (lst_ok Yab)
 refine zam (vc_par2 (zak (Wp.of cp (zak (zct (zbb (vc_newL Y4 (zbb ⟨_, _, rfl, zax ?_⟩))))))))
 have d1 : Deal i j h1 := d.keep (List.getElem?_append_left li) (List.getElem?_append_left lj)
 have hik : i ≠ k := by simp only [k]; omega
 have hjk : j ≠ k := by simp only [k]; omega
 have g1 : getL h1 k = some (chksW []) := by
  unfold getL
  simp only [h1, k]
  rw [List.getElem?_append_right Yd8, Nat.sub_self]
  rfl
 show Wp ((mSeq _ _ : M Fl) (tE i ds ls k none none none) h1) _
 refine zam (vc_for (vc_sq (za1 rfl (vc_sqL ?_))))
 refine vc_loop (G := gN 4) (S := zem) (fun ws eta h => ∃ (done rest : List Nat) (acc : List Chk) (v4 v5 : Option W), ws = (rest.map fun n => T.int (n : Nat)).map W.t ∧ done ++ rest = ls ∧ eta = tE i ds ls k v4 v5 none ∧ Deal i j h ∧ getL h k = some Yim ∧ Tst ds done (10 * done.length) acc ∧ ∀ c ∈ acc, chkI c ∈ done) ?_ _ _ _ ⟨[], ls, [], none, none, rfl, rfl, rfl, d1, g1, ⟨by simp, by simp, by simp⟩, by simp⟩ ?_
 ·rintro w ws eta h ⟨done, rest, acc, v4, v5, ew, el, rfl, d, g, t, hi⟩
  cases rest with
  | nil => simp at ew
  | cons a rest =>
   simp only [List.map_cons, List.cons.injEq] at ew
   obtain ⟨rfl, rfl⟩ := ew
   let E : IS := tE i ds ls k (some (.t (.int (a : Nat)))) v5 none
   refine ⟨E, rfl, ?_⟩
   have ha : a ∈ ls := by rw [← el]; simp
   have nd : ls.Nodup := lookL_nd
   have had : a ∉ done := by
    rw [← el] at nd
    exact fun m => (List.nodup_append.mp nd).2.2 _ m _ Yj rfl
   obtain ⟨la, lk⟩ := lookL_mem.mp ha
   have el2 : (done ++ [a]) ++ rest = ls := by rw [List.append_assoc]; exact el
   have dl : (done ++ [a]).length = done.length + 1 := by simp
   have dle : done.length + 1 ≤ ls.length := by rw [← el2]; simp
   have al := t.len
   unfold zem
   obtain ⟨q, h2, eq, q0, q1, d2, hl2, k2⟩ := zee (wide := 3) d Yb Yb
   have gk : getL h2 k = some Yim := by
    unfold getL
    rw [k2 k (Ne.symm hik) (Ne.symm hjk)]
    exact g
   have t3 : (zae asB (mBin Ys Ycq Yd) : M Bool) E h = .ok (decide (q = 0)) h2 := by
    show ((mBin _ _ _ : M W) E h).bind _ = _
    rw [bin_ok (h1 := h2) (h2 := h2) (zar (ws := [.r i, .t (.int 3)]) rfl eq) rfl Yi5]
    rfl
   have go : ∀ (acc' : List Chk) (h' : IH), Deal i j h' → getL h' k = some (chksW acc') → Tst ds done (10 * done.length + 1) acc' → (∀ c ∈ acc', inD done a [] c) →
     Wp ((mFor Yco (gN 5) zc1 : M Fl) E h') fun fl h => ∃ e, fl = .nx e ∧ ∃ (done rest' : List Nat) (acc : List Chk) (v4 v5 : Option W), (rest.map fun n => T.int (n : Nat)).map W.t = (rest'.map fun n => T.int (n : Nat)).map W.t ∧ done ++ rest' = ls ∧ e = tE i ds ls k v4 v5 none ∧ Deal i j h ∧ getL h k = some Yim ∧ Tst ds done (10 * done.length) acc ∧ ∀ c ∈ acc, chkI c ∈ done := fun acc' h' d' g' t' hi' =>
    (inner05 (ls := ls) hik hjk (fun o ho => ho) nd ha had (b := 10 * done.length + 1) Yb d' g' t' hi').mono fun fl h4 ⟨v5', acc4, ef, d4, g4, t4, hi4⟩ => by
     have ll : ls.length ≤ 8 := ll
     refine ⟨_, ef, done ++ [a], rest, acc4, _, v5', rfl, el2, rfl, d4, g4, ⟨t4.nd, t4.ok, by rw [dl]; have := t4.len; omega⟩, fun c hc => ?_⟩
     rcases hi4 c hc with m | m | ⟨o, ho, m⟩
     ·exact List.mem_append_left _ m
     ·rw [m]
      exact List.mem_append_right _ Ye1
     ·rw [m]
      exact List.mem_append_right _ Ye1
   refine zam (vc_if (Wp.of t3 (Wp.ite (fun c => ?_) (fun _ => za3 (zax (go acc h2 d2 gk ⟨t.nd, t.ok, by omega⟩ fun c hc => .inl (hi c hc)))))))
   have ap := app_chk (E := E) (F := mApp za2 (zab Ygy Ybb)) (c := .even a) gk Yb rfl rfl
   refine Wp.of ap (zax (go (acc ++ [.even a]) _ (d2.keep (List.getElem?_set_ne (Ne.symm hik)) (List.getElem?_set_ne (Ne.symm hjk))) ?_ ⟨?_, ?_, ?_⟩ ?_))
   ·have lk := zfj gk
    unfold getL
    rw [List.getElem?_set_self lk]
   ·refine List.nodup_append.mpr ⟨t.nd, by simp, fun x hx y hy e => ?_⟩
    have hy := List.mem_singleton.mp hy
    subst hy
    subst e
    exact had (hi _ hx)
   ·intro c hc
    rcases List.mem_append.mp hc with hc | hc
    ·exact t.ok c hc
    ·rw [List.mem_singleton.mp hc]
     exact ⟨la, lk⟩
   ·simp only [List.length_append, List.length_cons, List.length_nil]
    omega
   ·intro c hc
    rcases List.mem_append.mp hc with hc | hc
    ·exact .inl (hi c hc)
    ·rw [List.mem_singleton.mp hc]
     exact .inr Ygm
 ·rintro e h ⟨done, rest, acc, v4, v5, ew, el, rfl, d, g, t, hi⟩
  cases rest with
  | cons o rest => simp at ew
  | nil =>
   rw [List.append_nil] at el
   have al := t.len
   have al2 : acc.length ≤ 80 := by rw [el] at al; omega
   refine zax (vc_fz rfl (Wp.of (frz_ok g) ?_))
   have d2 : Deal i j (h.set k none) := d.keep (List.getElem?_set_ne (Ne.symm hik)) (List.getElem?_set_ne (Ne.symm hjk))
   have fl59 : fitL (acc.map chkT) 59 = true := fitL_all fun t ht => by
    obtain ⟨c, _, rfl⟩ := List.mem_map.mp ht
    cases c <;> simp [chkT]
   obtain ⟨zs, h2, p, e2, d3, _⟩ := mixed_is (ts := acc.map chkT) d2 Yab fl59
   obtain ⟨cs, pc, rfl⟩ := perm_of_map chkT p rfl
   refine zay (vc_sl (zfk (zak (za1 rfl (zak (za1 rfl (zbb (Wp.of e2 (zci (zeg (vc_c ⟨4, rfl, vc_slWl ⟨_, rfl, cs.take 4, ?_, d3, ?_, ?_, ?_⟩⟩)))))))))))
   ·rw [show (4 : Int) = ((4 : Nat) : Int) from rfl, cutL_to, List.map_take]
   ·exact (pc.nodup_iff.mpr t.nd).sublist (List.take_sublist _ _)
   ·exact fun c hc => t.ok c (pc.mem_iff.mp (List.mem_of_mem_take hc))
   ·exact List.length_take_le ..
end
section
open TL
variable {hp : IH} {r s : RP}
abbrev C2 : List Str := ["c", "e"]
theorem scrp_more {w u : Str} {cs ctr : List Str} {m k : Nat} {ds xs : List Deed} {x : Str} (S : ScrP w u cs ctr m ds) (hk : ds.length + k ≤ m) (hx : x ∈ ctr) (hu : u ≠ w) (p : xs.Perm (ds ++ List.replicate k (u, x))) : ScrP w u cs ctr m xs := by
 refine ⟨fun d hd => ?_, ?_, ?_, ?_⟩
 ·rcases List.mem_append.mp (p.mem_iff.mp hd) with h | h
  ·exact S.ok d h
  ·rw [List.eq_of_mem_replicate h]
   exact .inr ⟨rfl, hx⟩
 ·refine (((p.filter fun d => decide (d.1 = w)).map (·.2)).nodup_iff).mpr ?_
  have f1 : (List.replicate k ((u, x) : Deed)).filter (fun d => decide (d.1 = w)) = [] := List.filter_eq_nil_iff.mpr fun d hd => by
   rw [List.eq_of_mem_replicate hd]
   simpa using hu
  rw [List.filter_append, f1, List.append_nil]
  exact S.nd
 ·have := p.length_eq
  rw [List.length_append, List.length_replicate] at this
  omega
 ·obtain ⟨d, hd, e⟩ := S.one
  exact ⟨d, p.mem_iff.mpr (List.mem_append_left _ hd), e⟩
theorem rep_look {k : Nat} (hk : k ≤ 8) : wMul (.t (.lst [.tup [.str "look", .str "c"]])) (.t (.int (k : Nat))) hp = .ok (.t (.lst ((List.replicate k (("look", "c") : Deed)).map dTr))) hp := by
 have : k = 0 ∨ k = 1 ∨ k = 2 ∨ k = 3 ∨ k = 4 ∨ k = 5 ∨ k = 6 ∨ k = 7 ∨ k = 8 := by omega
 rcases this with rfl | rfl | rfl | rfl | rfl | rfl | rfl | rfl | rfl <;> rfl
def chkA : Chk → List T
 | .same i j => [.str "same", .int (i : Nat), .int (j : Nat)]
 | .even i => [.str "even", .int (i : Nat)]
def strP : T → T
 | .int i => .str (toString i)
 | t => t
theorem chkA_t {c : Chk} : chkT c = .tup (chkA c) := by cases c <;> rfl
theorem chkA_p {c : Chk} : (chkA c).map strP = (chkP c).map T.str := by cases c <;> rfl
theorem log_small : ∀ i, i < 10 → ((i : Nat) : Int).natAbs.log2 < 1920 := by decide +kernel
theorem chkA_ok {ds : List Deed} {c : Chk} (h : chkOk ds c) (h9 : ds.length ≤ 10) : ∀ t ∈ chkA c, ∀ hp, oStr [.t t] hp = .ok (.t (strP t)) hp := by
 intro t ht hp
 cases c with
 | same i j =>
  obtain ⟨a, b, _⟩ := h
  simp only [chkA, List.mem_cons, List.not_mem_nil, or_false] at ht
  rcases ht with rfl | rfl | rfl
  ·rfl
  ·simp only [oStr, strP, log_small i Yb, if_true]
  ·simp only [oStr, strP, log_small j Yb, if_true]
 | even i =>
  obtain ⟨a, _⟩ := h
  simp only [chkA, List.mem_cons, List.not_mem_nil, or_false] at ht
  rcases ht with rfl | rfl
  ·rfl
  ·simp only [oStr, strP, log_small i Yb, if_true]
theorem chkP_len {ds : List Deed} {c : Chk} (h : chkOk ds c) (h9 : ds.length ≤ 10) : (∀ y ∈ chkP c, y.length ≤ 4) ∧ (chkP c).length ≤ 3 := by
 cases c with
 | same i j =>
  obtain ⟨a, b, _⟩ := h
  refine ⟨fun y hy => ?_, by simp [chkP]⟩
  simp only [chkP, List.mem_cons, List.not_mem_nil, or_false] at hy
  rcases hy with rfl | rfl | rfl
  ·decide
  ·rw [num_len Yb]; omega
  ·rw [num_len Yb]; omega
 | even i =>
  obtain ⟨a, _⟩ := h
  refine ⟨fun y hy => ?_, by simp [chkP]⟩
  simp only [chkP, List.mem_cons, List.not_mem_nil, or_false] at hy
  rcases hy with rfl | rfl
  ·decide
  ·rw [num_len Yb]; omega
theorem test_texts_is {ds : List Deed} {cs : List Chk} (h : ∀ c ∈ cs, chkOk ds c) (h9 : ds.length ≤ 10) (hl : cs.length ≤ 4) : zbx [.t (.lst Ycx)] hp = .ok (.t (.lst (cs.map fun c => .str (zbe c)))) hp := by
 let v0 : Option W := some Yi4
 refine fnP_ok (ts := [.lst Ycx]) (eta := [v0, none, none]) rfl rfl (h1 := []) ?_
 unfold B_w_test_texts
 have q := comp_g (G := gN 2) (U := mYes) (E := zco) (eta := [v0, none, none]) (hp := []) (src := fun c : Chk => W.t (chkT c))
  (loc := fun c => [v0, none, some (.t (chkT c))]) (p := fun _ => true) (g := fun c => .str (zbe c)) cs Ya3 Ya3 (fun c hc _ => by
   unfold zco
   have ck := h c hc
   obtain ⟨y4, y3⟩ := chkP_len ck h9
   have q2 := comp_g (G := gN 1) (U := mYes) (E := zcm) (eta := [v0, none, some (.t (chkT c))]) (hp := []) (src := fun t : T => W.t t)
    (loc := fun t => [v0, some (.t t), some (.t (chkT c))]) (p := fun _ => true) (g := strP) (chkA c) Ya3 Ya3 (fun t ht _ => zcn (a := .t t) rfl (chkA_ok ck h9 t ht _))
   rw [zd4, chkA_p] at q2
   have la : (chkA c).length ≤ 3 := by cases c <;> simp [chkA]
   have c2 : (zbq zas Yco (gN 1) mYes zcm [1] : M W) [v0, none, some (.t (chkT c))] [] = .ok (.t (.lst ((chkP c).map T.str))) [] :=
    zdx (ws := (chkA c).map W.t) (ys := ((chkP c).map T.str).map W.t) (h1 := []) (h2 := []) (by rw [p_sq, varP (w := .t (.tup (chkA c))) (by rw [← chkA_t]; rfl), zaf]; rfl) Yab q2 (lst_ok Yab)
   exact ze5 (a := " ") rfl c2 (joinS (a := " ") (ys := chkP c) (k := 4) false y4 (by rw [zea]; omega)))
 rw [zd4] at q
 rw [p_ret, zdx (ws := (cs.map chkT).map W.t) (ys := (cs.map fun c => T.str (zbe c)).map W.t) (h1 := []) (h2 := []) rfl Yan (by rw [List.map_map]; exact q) (lst_ok Yan)]
 rfl
theorem ne_nil05 {cs : List Chk} : eqW true Yi4 (.t (.lst [])) hp = .ok (.t (.bl (!cs.isEmpty))) hp := by
 have f : fitL Ycx 59 = true := fitL_all fun t ht => by
  obtain ⟨c, _, rfl⟩ := List.mem_map.mp ht
  cases c <;> simp [chkT]
 rw [eqW_tt, if_pos ⟨by simp only [fit_l, f], by simp⟩]
 cases cs <;> simp
theorem reader_text_is (R : RK2 r) : zcf [.t (.tup [.str r.1, .lst (r.2.1.map dTr), .lst (r.2.2.map chkT)])] hp = .ok (.t (.str (lnR r))) hp := by
 have sl := steps_len R.k.ok
 have hl := R.l
 have nl := R.k.n.ln
 have cn := R.n
 have il : (" if " : Str).length = 4 := by decide +kernel
 have dl : ∀ d ∈ r.2.1, (dTx d).length ≤ 15 := fun d hd => dTx_len (R.k.ok d hd).w (R.k.ok d hd).n
 have j := joinS (a := ", ") (ys := r.2.1.map dTx) (k := 15) (hp := []) false (fun y hy => by
  obtain ⟨d, hd, rfl⟩ := List.mem_map.mp hy
  exact dl d hd) Yet
 rw [List.map_map] at j
 have ck : ∀ y ∈ r.2.2.map zbe, y.length ≤ 10 := fun y hy => by
  obtain ⟨c, hc, rfl⟩ := List.mem_map.mp hy
  exact chkTx_len (R.c c hc) R.l
 have j2 := joinS (a := ", ") (ys := r.2.2.map zbe) (k := 10) (hp := []) false ck Yet
 have jl := join_len (s := ", ") ck
 rw [List.length_map, ze0] at jl
 rw [List.map_map] at j2
 let P : T := .tup [.str r.1, .lst (r.2.1.map dTr), .lst (r.2.2.map chkT)]
 suffices h : Wp (zcf [.t P] hp) fun w h => w = .t (.str (lnR r)) ∧ h = hp by
  obtain ⟨w, h1, e, rfl, rfl⟩ := h.ex
  exact e
 refine zdc (ts := [P]) (eta := [some (.t P), none]) rfl rfl ?_
 unfold B_w_reader_text
 have i0 : ∀ {v : Option W}, (mBin ixW (mVar 0) Yd : M W) [some (.t P), v] [] = .ok (.t (.str r.1)) [] := binP rfl rfl ev_ixt0
 have i1 : ∀ {v : Option W}, (mBin ixW (mVar 0) Yg : M W) [some (.t P), v] [] = .ok (.t (.lst (r.2.1.map dTr))) [] := binP rfl rfl ev_ixt1
 have i2 : ∀ {v : Option W}, (mBin ixW (mVar 0) Yb8 : M W) [some (.t P), v] [] = .ok (.t (.lst (r.2.2.map chkT))) [] := binP rfl rfl ev_ixt2
 have tc : (zae asB Yer : M Bool) [some (.t P), none] [] = .ok (!r.2.2.isEmpty) [] := za8 (binP i2 rfl ne_nil05)
 have s0 : ("reader " ++ r.1 : Str).length ≤ 20 := by rw [zaj, zde]; omega
 have s1 : ("reader " ++ r.1 ++ ": " : Str).length ≤ 22 := by rw [zaj, cs_len]; omega
 have s2 : ("reader " ++ r.1 ++ ": " ++ zaz r.2.1 : Str).length ≤ 200 := by rw [zaj]; omega
 have jn : ∀ {v : Option W}, (mSM zeq Ycb (zaq zcb [] (zab (mBin ixW (mVar 0) Yg) (mNil))) : M W) [some (.t P), v] [] = .ok Yi6 [] := fun {v} =>
  ze5 (a := ", ") rfl (zar (ws := [.t (.lst (r.2.1.map dTr))]) (zbn i1 rfl) (deed_texts_is Yb dl)) j
 have fin : ∀ {z : Str}, z.length ≤ 100 → (mBin wAdd Yej (mVar 1) : M W) [some (.t P), some (.t (.str z))] [] = .ok (.t (.str ("reader " ++ r.1 ++ ": " ++ zaz r.2.1 ++ z))) [] := fun {z} hz =>
  binP (f := wAdd) (binP (f := wAdd) (binP (f := wAdd) (binP (f := wAdd) (a := .t Ycw) rfl i0 (zfe (by rw [zde]; omega))) (b := .t (.str ": ")) rfl (zfe (by rw [cs_len]; omega))) jn (zfe Yb)) (b := .t (.str z)) rfl (zfe Yb)
 by_cases c : r.2.2 = []
 ·have sv : (mIf (zae asB Yer) Yaz Ycg : M W) [some (.t P), none] [] = .ok (.t (.str "")) [] := by
   rw [if_no (h1 := []) (by rw [tc, c]; rfl)]
   rfl
  refine zam (zbi (Wp.of sv (zax (zay (Wp.of (fin (z := "") Ybz) ⟨_, rfl, ?_, rfl⟩)))))
  congr 2
  unfold lnR rdrTx
  rw [if_pos c]
  refine str_eq ?_
  rw [tl_append]
  have : tl ("" : Str) = [] := by decide +kernel
  rw [this, List.append_nil]
 ·have tt : (mSM zeq Ycb (zaq zbx [] (zab (mBin ixW (mVar 0) Yb8) (mNil))) : M W) [some (.t P), none] [] = .ok (.t (.str Ycy)) [] :=
   ze5 (a := ", ") rfl (zar (ws := [.t (.lst (r.2.2.map chkT))]) (zbn i2 rfl) (test_texts_is R.c hl cn)) j2
  have sv : (mIf (zae asB Yer) Yaz Ycg : M W) [some (.t P), none] [] = .ok (.t (.str (" if " ++ Txt.join ", " (r.2.2.map zbe)))) [] := by
   rw [if_yes (h1 := []) (by rw [tc]; cases h : r.2.2 with | nil => exact absurd h c | cons => rfl)]
   exact binP (f := wAdd) (a := .t (.str " if ")) rfl tt (zfe (by rw [il]; omega))
  refine zam (zbi (Wp.of sv (zax (zay (Wp.of (fin (z := " if " ++ Txt.join ", " (r.2.2.map zbe)) (by rw [zaj, il]; omega)) ⟨_, rfl, ?_, rfl⟩)))))
  congr 2
  unfold lnR rdrTxC
  rw [if_neg c]
  refine str_eq ?_
  simp only [tl_append, List.append_assoc]
end
section
open TL
variable {hp : IH} {x s : Str} {v : T}
theorem wpV {A : Type} {r : Res A} {a : A} {h0 : IH} (q : Wp r fun w h => w = a ∧ h = h0) : r = .ok a h0 := by
 obtain ⟨w, h1, e, rfl, rfl⟩ := q.ex
 exact e
theorem notE {eta : IS} {U : M Bool} {a : Bool} (h : U eta hp = .ok a hp) : mNot U eta hp = .ok (!a) hp := by rw [p_not, h, zaf]
def lowB (x : Str) : Bool := (tl x).all fun c => decide (97 ≤ c) && decide (c ≤ 122)
def barL : List Str := ["if", "bump", "even", "kind", "look", "read", "same"]
def nmB (x : Str) : Bool := !decide (x ∈ barL) && (decide (1 ≤ x.length) && decide (x.length ≤ 4)) && lowB x
/-- a value that is no instance, no type, no error -/
def plnT : T → Bool
 | .non | .bl _ | .int _ | .str _ | .tup _ | .lst _ | .scr _ | .pr _ | .dic _ _ => true
 | _ => false
def strT : T → Bool
 | .str _ => true
 | _ => false
def nmT : T → Bool
 | .str x => nmB x
 | _ => false
theorem isi_str (h : plnT v = true) : oIsi zez [.t v, .t (.ty "str")] hp = .ok (.t (.bl (strT v))) hp := by
 cases v <;> first | rfl | (simp [plnT] at h)
theorem abc_mem {c : Nat} : c ∈ (Str.ofString "abcdefghijklmnopqrstuvwxyz").cps.toList ↔ 97 ≤ c ∧ c ≤ 122 := by
 have e : (Str.ofString "abcdefghijklmnopqrstuvwxyz").cps.toList = List.range' 97 26 := by decide +kernel
 rw [e, List.mem_range'_1]
 omega
theorem oLen_str (h : x.length ≤ 16777216) : oLen [.t (.str x)] hp = .ok Yg0 hp := by
 show (if x.length ≤ 16777216 then (.ok Yg0 hp : Res W) else .bad) = _
 rw [if_pos h]
theorem sgn_in {c : Nat} {neg : Bool} : inS neg (.t Ycn) (.t Yik) hp = .ok (.t (.bl (if neg then !(decide (97 ≤ c) && decide (c ≤ 122)) else decide (97 ≤ c) && decide (c ≤ 122)))) hp := by
 have e : decide (c ∈ (Str.ofString "abcdefghijklmnopqrstuvwxyz").cps.toList) = (decide (97 ≤ c) && decide (c ≤ 122)) := by
  rw [Bool.eq_iff_iff, decide_eq_true_eq, abc_mem, Bool.and_eq_true, decide_eq_true_eq, decide_eq_true_eq]
 show Res.ok (W.t (.bl (if neg then !decide (c ∈ (Str.ofString "abcdefghijklmnopqrstuvwxyz").cps.toList) else decide (c ∈ (Str.ofString "abcdefghijklmnopqrstuvwxyz").cps.toList)))) hp = _
 rw [e]
theorem len_iff : (decide (1 ≤ x.length) && decide (x.length ≤ 4)) = (decide ((1 : Int) ≤ (x.length : Nat)) && decide (((x.length : Nat) : Int) ≤ 4)) := by
 have a : decide (1 ≤ x.length) = decide ((1 : Int) ≤ (x.length : Nat)) := by rw [decide_eq_decide]; omega
 have b : decide (x.length ≤ 4) = decide (((x.length : Nat) : Int) ≤ 4) := by rw [decide_eq_decide]; omega
 rw [a, b]
theorem isname_s (hl : x.length ≤ 16777216) : zbw [.t (.str x)] hp = .ok (.t (.bl (nmB x))) hp := by
 suffices hh : Wp (zbw [.t (.str x)] hp) fun w h => w = .t (.bl (nmB x)) ∧ h = hp by
  obtain ⟨w, h1, e, rfl, rfl⟩ := hh.ex
  exact e
 let E : Option W → IS := fun w1 => [some Yd6, w1]
 refine zdc (ts := [.str x]) (eta := E none) rfl rfl ?_
 unfold B_is_name
 have u1 : (mNot Y1 : M Bool) (E none) [] = .ok false [] := notE (a := true) rfl
 have u2 : (zae asB Ydo : M Bool) (E none) [] = .ok (decide (x ∈ barL)) [] := za8 (binP rfl rfl in_strs)
 have u3 : (mNot (zae asB (mChain iLe iLe Yg Yh4 (mC (.int (4))))) : M Bool) (E none) [] = .ok (!(decide (1 ≤ x.length) && decide (x.length ≤ 4))) [] := by
  refine notE (za8 ?_)
  rw [len_iff, p_chain]
  have l : (mApp oLen Y7 : M W) (E none) [] = .ok Yg0 [] := zcn rfl (oLen_str hl)
  rw [show (mC (.int 1) : M W) (E none) [] = .ok (.t (.int 1)) [] from rfl, zaf, l, zaf, ev_le, zaf]
  cases decide ((1 : Int) ≤ (x.length : Nat)) with
  | true => simp only [Bool.true_and]; rfl
  | false => rfl
 refine zam (zaw (orE u1 fun _ => orE u2 fun _ => u3) (fun h => zay (vc_c (zd7 ⟨_, rfl, ?_, rfl⟩))) fun h => za3 (zax ?_))
 ·have : nmB x = false := by
   unfold nmB
   simp only [Bool.false_or, Bool.or_eq_true, Bool.not_eq_true', decide_eq_true_eq] at h
   rcases h with h | h
   ·simp [h]
   ·rw [h]; simp
  rw [this]
 ·have nb : (!decide (x ∈ barL) && (decide (1 ≤ x.length) && decide (x.length ≤ 4))) = true := by
   simp only [Bool.false_or, Bool.or_eq_false_iff, Bool.not_eq_false'] at h
   rw [h.1, h.2]
   rfl
  have x4 : x.length ≤ 4 := by
   simp only [Bool.and_eq_true, decide_eq_true_eq] at nb
   exact nb.2.2
  have e : nmB x = lowB x := by
   unfold nmB
   rw [nb, Bool.true_and]
  rw [e]
  refine zay (zct (zak (zeu (Wp.of (a := signs x) (h := []) rfl ⟨?_, ?_⟩))))
  ·show ((tl x).map _).length ≤ _
   rw [List.length_map, ← len_tl]
   omega
  refine vc_mapA (G := gN 1) (E := zek) (src := fun c : Nat => W.t Ycn) (g := fun c => T.bl (decide (97 ≤ c) && decide (c ≤ 122))) (tl x) (fun c hc => ⟨E (some (.t Ycn)), rfl, ?_⟩) ?_
  ·unfold zek
   exact binP rfl rfl sgn_in
  ·refine zd8 (by rw [List.length_map, ← len_tl]; omega) (zbb ?_)
   have : (tl x).map (fun c => T.bl (decide (97 ≤ c) && decide (c ≤ 122))) = ((tl x).map fun c => (decide (97 ≤ c) && decide (c ≤ 122))).map T.bl := by rw [List.map_map]; rfl
   rw [this]
   refine Wp.rw bools_all (Wp.ok ⟨_, rfl, ?_, rfl⟩)
   rw [List.all_map]
   rfl
theorem isname_T (h : plnT v = true) (hl : ∀ x, v = .str x → x.length ≤ 16777216) : zbw [.t v] hp = .ok (.t (.bl (nmT v))) hp := by
 cases v <;> first | exact isname_s (hl _ rfl) | rfl | (simp [plnT] at h)
/-- a name, as the texts want it -/
theorem nam_of (h : nmB x = true) : Nam x := by
 have hb : (!decide (x ∈ barL)) = true ∧ (decide (1 ≤ x.length) && decide (x.length ≤ 4)) = true ∧ lowB x = true := by
  unfold nmB at h
  rw [Bool.and_eq_true, Bool.and_eq_true] at h
  exact ⟨h.1.1, h.1.2, h.2⟩
 have hl : x.length ≤ 4 := by
  have := hb.2.1
  simp only [Bool.and_eq_true, decide_eq_true_eq] at this
  exact this.2
 refine ⟨fun hp => by rw [isname_s Yb, h], fun c hc => ?_, hl, fun e => ?_⟩
 ·have := List.all_eq_true.mp hb.2.2 c hc
  simpa using this
 ·have := hb.1
  simp [barL, e] at this
theorem nam_to (h : Nam x) : nmB x = true := by
 have a := h.is []
 have l := h.ln
 rw [isname_s Yb] at a
 simpa using a
def deedP (ws : List Str) : List Str → Option Deed
 | [a, b] => if a ∈ ws ∧ nmB b = true then some (a, b) else none
 | _ => none
def deedS (ws : List Str) (s : Str) : Option Deed := deedP ws (Txt.split s " ")
def zc2 (ws : List Str) : T → Option Deed
 | .str s => deedS ws s
 | _ => none
def optT : Option Deed → T
 | some d => dTr d
 | none => .non
theorem ts_join {s : Str} : Txt.join " " (Txt.split s " ") = s := by rw [TL.join_eq]; exact PySem.StrLaws.join_split s " "
theorem join_ge {y : Str} : ∀ {ps : List Str} {p : Str}, p ∈ ps → p.length ≤ (Txt.join y ps).length
 | [a], p, h => by rw [List.mem_singleton.mp h, zbz]; exact Nat.le_refl _
 | a :: b :: r, p, h => by
  rw [za7, zaj, zaj]
  rcases List.mem_cons.mp h with rfl | h
  ·omega
  ·have := join_ge (y := y) h
   omega
theorem join_num {y : Str} : ∀ {ps : List Str}, ps.length * y.length ≤ (Txt.join y ps).length + y.length
 | [] => by simp
 | [a] => by simp
 | a :: b :: r => by
  have := join_num (y := y) (ps := b :: r)
  rw [za7, zaj, zaj]
  rw [List.length_cons, Nat.succ_mul]
  omega
theorem zc0 {a y : Str} : Txt.join y (Txt.split a y) = a := by rw [TL.join_eq]; exact PySem.StrLaws.join_split a y
theorem zfg {a y p : Str} (h : p ∈ Txt.split a y) : p.length ≤ a.length := by
 have := join_ge (y := y) h
 rw [zc0] at this
 exact this
theorem zd9 {a y : Str} : (Txt.split a y).length * y.length ≤ a.length + y.length := by
 have := join_num (y := y) (ps := Txt.split a y)
 rw [zc0] at this
 exact this
theorem deedS_tx {ws : List Str} {d : Deed} (h : deedS ws s = some d) : s = dTx d ∧ d.1 ∈ ws ∧ nmB d.2 = true := by
 unfold deedS at h
 generalize e : Txt.split s " " = ps at h
 unfold deedP at h
 split at h
 ·rename_i a b
  split at h
  ·rename_i c
   cases h
   have := ts_join (s := s)
   rw [e, za7, zbz] at this
   exact ⟨this.symm, c⟩
  ·cases h
 ·cases h
theorem deed_two {ws ps : List Str} {w0 : Option W} (pl : ∀ p ∈ ps, p.length ≤ 1000000) :
  Wp Yek fun fl _ => fl = .rt (.t (optT (deedP ws ps))) := by
 have v1 : ∀ ps : List Str, (zae asB (mBin Yv (mApp oLen Yat) Yb8) : M Bool) [w0, some Yhb, some (.t Y8)] [] = .ok (!decide (ps.length = 2)) [] := fun ps => by
  refine za8 (binP Yhr rfl (ev_eqi.trans ?_))
  have : decide (((ps.length : Nat) : Int) = 2) = decide (ps.length = 2) := by rw [decide_eq_decide]; omega
  simp only [if_true, this]
 have no : ∀ ps : List Str, ps.length ≠ 2 → Wp Yek fun fl _ => fl = .rt Ybh := fun ps h => by
  have e := v1 ps
  rw [decide_eq_false h] at e
  exact zam Ydk
 match ps, pl with
 | [a, b], pl =>
  let F : IS := [w0, some Yhb, some (.t (.lst ([a, b].map T.str)))]
  have i0 : (mBin ixW (mVar 2) Yd : M W) F [] = .ok Yex [] := binP rfl rfl zes
  have i1 : (mBin ixW (mVar 2) Yg : M W) F [] = .ok (.t (.str b)) [] := binP rfl rfl ev_ixl1
  have v2 : (zae asB (mBin (inW true) Yb9 (mVar 1)) : M Bool) F [] = .ok (!decide (a ∈ ws)) [] := za8 (binP i0 rfl in_strs)
  have bl := pl b Y4
  have v3 : (mNot (zae truW (zaq zbw [] (zab (mBin ixW (mVar 2) Yg) (mNil)))) : M Bool) F [] = .ok (!nmB b) [] := notE (by
   rw [zdd, zar (ws := [.t (.str b)]) (zbn i1 rfl) (isname_s Yb)]
   rfl)
  refine zam (zaw (orE (v1 [a, b]) fun _ => orE v2 fun _ => v3) (fun c => zay (vc_c (zd7 ?_))) fun c => za3 (zax ?_))
  ·have : ¬ (a ∈ ws ∧ nmB b = true) := fun z => by simp [z.1, z.2] at c
   simp only [deedP, if_neg this]
   rfl
  ·have : a ∈ ws ∧ nmB b = true := by simpa using c
   simp only [deedP, if_pos this]
   exact zay (zct (zak (Wp.of i0 (zak (Wp.of i1 (zbb (zew rfl Yaj rfl)))))))
 | [], _ => exact no [] Y4
 | [a], _ => exact no [a] Y4
 | a :: b :: c0 :: r, _ => exact no (a :: b :: c0 :: r) Y4
theorem deed_T {ws : List Str} (h : plnT v = true) (hl : ∀ x, v = .str x → x.length ≤ 1000000) : zex [.t v, .t (.tup Ybd)] hp = .ok (.t (optT (zc2 ws v))) hp := by
 suffices hh : Wp (zex [.t v, .t (.tup Ybd)] hp) fun w h => w = .t (optT (zc2 ws v)) ∧ h = hp by
  obtain ⟨w, h1, e, rfl, rfl⟩ := hh.ex
  exact e
 let E : Option W → IS := fun w2 => [some (.t v), some Yhb, w2]
 refine zdc (ts := [v, .tup Ybd]) (eta := E none) rfl rfl ?_
 unfold B_deed_in
 have u1 : (mNot Y1 : M Bool) (E none) [] = .ok (!strT v) [] := notE (by
  rw [zdd, show mApp (oIsi zez) (zab (mVar 0) (zab (mC (.ty "str")) (mNil))) (E none) [] = oIsi zez [.t v, .t (.ty "str")] [] from rfl, isi_str h]
  rfl)
 refine zam (zaw u1 (fun c => zay (vc_c (zd7 ⟨_, rfl, ?_, rfl⟩))) fun c => za3 (zax ?_))
 ·cases v <;> first | rfl | (simp [strT] at c)
 obtain ⟨s, rfl⟩ : ∃ s, v = .str s := by
  cases v <;> first | exact ⟨_, rfl⟩ | (simp [strT] at c)
 have sl := hl s rfl
 have sp : (mSM zbl (mVar 0) Yay : M W) (E none) [] = .ok (.t (.lst ((Txt.split s " ").map T.str))) [] := ze5 rfl rfl Yfd
 refine zam (zbi (Wp.of sp (zax ?_)))
 refine (deed_two (w0 := some Yci) fun p hp => Nat.le_trans (zfg hp) sl).mono fun fl h e => ⟨_, e, ?_, rfl⟩
 rfl
end
section
open TL
variable {hp : IH} {ws : List Str} {w0 : Str} {v : T} {ts : List T}
def seqB : T → Bool
 | .tup _ | .lst _ | .scr _ | .pr _ => true
 | _ => false
theorem isseq_T (h : plnT v = true) : za6 [.t v] hp = .ok (.t (.bl (seqB v))) hp := by
 cases v <;> first | exact fnP_ok (ts := [_]) (eta := [some (.t _)]) rfl rfl (h1 := []) rfl | (simp [plnT] at h)
/-- a step as the reading of any value wants it -/
structure StepOk (t : T) : Prop where
 p : plnT t = true
 l : ∀ x, t = .str x → x.length ≤ 1000000
def allD (ws : List Str) : List T → Option (List Deed)
 | [] => some []
 | t :: r => match zc2 ws t, allD ws r with
  | some d, some ds => some (d :: ds)
  | _, _ => none
def wrN (w0 : Str) (ds : List Deed) : List Str := (ds.filter fun d => decide (d.1 = w0)).map (·.2)
def zeo (w0 : Str) (ws : List Str) (ts : List T) : Option (List Deed) := match allD Ydj ts with
 | some ds => if (wrN w0 ds).Nodup then some ds else none
 | none => none
/-- what deeds_in tells -/
def dsT : Option (List Deed) → T
 | some ds => .tup Yh
 | none => .non
theorem allD_some : ∀ {ts : List T} {ds : List Deed}, allD ws ts = some ds → ts = ds.map (fun d => T.str (dTx d)) ∧ ∀ d ∈ ds, d.1 ∈ ws ∧ nmB d.2 = true
 | [], ds, h => by
  simp only [allD, Option.some.injEq] at h
  subst h
  exact ⟨rfl, by simp⟩
 | t :: r, ds, h => by
  unfold allD at h
  split at h
  ·rename_i d ds' h1 h2
   cases h
   obtain ⟨e, ok⟩ := allD_some h2
   cases t with
   | str s =>
    obtain ⟨e1, e2, e3⟩ := deedS_tx (show deedS ws s = some d from h1)
    refine ⟨by rw [List.map_cons, ← e, e1], fun x hx => ?_⟩
    rcases List.mem_cons.mp hx with rfl | hx
    ·exact ⟨e2, e3⟩
    ·exact ok x hx
   | _ => cases h1
  ·cases h
theorem allD_found : ∀ {ts : List T}, (∃ ds, allD ws ts = some ds ∧ ts.map (fun t => optT (zc2 ws t)) = ds.map dTr ∧ ts.filterMap (zc2 ws) = ds) ∨ (allD ws ts = none ∧ ∃ t ∈ ts, zc2 ws t = none)
 | [] => .inl ⟨[], rfl, rfl, rfl⟩
 | t :: r => by
  cases e : zc2 ws t with
  | none =>
   refine .inr ⟨?_, t, List.mem_cons_self .., e⟩
   simp only [allD, e]
  | some d =>
   rcases allD_found (ts := r) with ⟨ds, h1, h2, h3⟩ | ⟨h1, u, hu, h2⟩
   ·refine .inl ⟨d :: ds, by simp only [allD, e, h1], by rw [List.map_cons, List.map_cons, h2, e]; rfl, by rw [List.filterMap_cons, e]; simp only [h3]⟩
   ·exact .inr ⟨by simp only [allD, e, h1], u, List.mem_cons_of_mem _ hu, h2⟩
theorem opt_fit {ws : List Str} : ∀ ts : List T, fitL (ts.map fun t => optT (zc2 ws t)) 60 = true
 | [] => rfl
 | t :: r => by
  simp only [List.map_cons, fitL, opt_fit r, Bool.and_true]
  cases zc2 ws t <;> rfl
/-- each once: fewer where some come twice -/
theorem once_le : ∀ (ks acc : List Key), (ks.foldl addK acc).length ≤ acc.length + ks.length
 | [], acc => by simp
 | k :: ks, acc => by
  rw [List.foldl_cons]
  have := once_le ks (addK acc k)
  unfold addK at this ⊢
  split at this
  ·rename_i h; rw [if_pos h]; rw [List.length_cons]; omega
  ·rename_i h; rw [if_neg h]; rw [List.length_append, List.length_singleton] at this; rw [List.length_cons]; omega
theorem once_lt : ∀ (ks acc : List Key), acc.Nodup → ¬ (acc ++ ks).Nodup → (ks.foldl addK acc).length < acc.length + ks.length
 | [], acc, a, n => absurd (by rw [List.append_nil]; exact a) n
 | k :: ks, acc, a, n => by
  rw [List.foldl_cons]
  by_cases h : memK k acc = true
  ·have e : addK acc k = acc := by unfold addK; rw [if_pos h]
   rw [e]
   have := once_le ks acc
   rw [List.length_cons]
   omega
  ·have e : addK acc k = acc ++ [k] := by unfold addK; rw [if_neg h]
   rw [e]
   have hk : k ∉ acc := fun m => h (by
    simp only [memK, List.any_eq_true, decide_eq_true_eq]
    exact ⟨k, m, rfl⟩)
   have := once_lt ks (acc ++ [k]) (by
    rw [List.nodup_append]
    exact ⟨a, by simp, fun x hx y hy e => by rw [List.mem_singleton.mp hy] at e; exact hk (e ▸ hx)⟩) (by rw [List.append_assoc]; exact n)
   rw [List.length_append, List.length_singleton] at this
   rw [List.length_cons]
   omega
theorem lenset_iff {F : M W} {eta : IS} {h1 : IH} {l : List Str} (h : F eta hp = .ok (.t (.lst Yew)) h1) (hl : l.length ≤ 4000) : ∃ n : Nat, zfm F eta hp = .ok Yau h1 ∧ (n = l.length ↔ l.Nodup) := by
 by_cases nd : l.Nodup
 ·exact ⟨l.length, lenset_nd h nd hl, by simp [nd]⟩
 ·have n2 : ¬ (l.map Yez).Nodup := fun z => nd ((List.pairwise_map.mp z).imp fun h e => h (by rw [e]))
  have lt := once_lt (l.map Yez) [] List.nodup_nil (by simpa using n2)
  simp only [List.length_nil, List.length_map, Nat.zero_add] at lt
  refine ⟨(zdw (l.map Yez)).length, ?_, ?_⟩
  ·unfold zfm
   rw [h, zaf, litems_l, Option.bind_some, keysOf_strs]
   simp only [List.length_map, hl, if_true]
  ·constructor
   ·intro e
    have : (zdw (l.map Yez)).length = l.length := e
    unfold zdw at this
    omega
   ·exact fun z => absurd z nd
theorem wr_found : ∀ ts : List T, ((ts.filter fun t => match zc2 Ydj t with | some d => decide (d.1 = w0) | none => false).map fun t => match zc2 Ydj t with | some d => T.str d.2 | none => .non) = (wrN w0 (ts.filterMap (zc2 Ydj))).map T.str
 | [] => rfl
 | t :: r => by
  have ih := wr_found r
  unfold wrN at ih ⊢
  rw [List.filter_cons, List.filterMap_cons]
  cases e : zc2 (w0 :: ws) t with
  | none => simp only [Bool.false_eq_true, if_false]; exact ih
  | some d =>
   simp only [List.filter_cons]
   by_cases c : d.1 = w0
   ·simp only [decide_eq_true c, if_true, List.map_cons, e, ih]
   ·simp only [decide_eq_false c, Bool.false_eq_true, if_false]; exact ih
/-- deeds_in of a list or a tuple -/
theorem deeds_L {b : Bool} (hs : ∀ t ∈ ts, StepOk t) (hl : ts.length ≤ 1000) : zca [.t Yhi, .t Yak] hp = .ok (.t (dsT (zeo w0 ws ts))) hp := by
 suffices hh : Wp (zca [.t Yhi, .t Yak] hp) fun w h => w = .t (dsT (zeo w0 ws ts)) ∧ h = hp by
  obtain ⟨w, h1, e, rfl, rfl⟩ := hh.ex
  exact e
 let E : Option W → Option W → Option W → Option W → IS := fun w2 w3 w4 w5 => [some (.t Yhi), some (.t Yak), w2, w3, w4, w5]
 refine zdc (ts := [sqT b ts, .tup ((w0 :: ws).map T.str)]) (eta := E none none none none) rfl rfl ?_
 unfold B_deeds_in
 have u1 : (mNot Ydq : M Bool) (E none none none none) [] = .ok false [] := notE (a := true) (by rw [zdd, zar (ws := [.t Yhi]) rfl seq_isq]; rfl)
 refine zam (zaw u1 Ybp fun _ => za3 (zax ?_))
 let Fd : List T := ts.map fun t => optT (zc2 Ydj t)
 have c1 : zbq zas Ygp (gN 4) mYes zb6 [4] (E none none none none) [] = .ok Ycp [] := by
  refine wpV (zeu (vc_sq (za1 rfl (Wp.of sqI_sq ⟨by rw [List.length_map]; omega, ?_⟩))))
  refine vc_mapA (G := gN 4) (E := zb6) (src := fun t : T => W.t t) (g := fun t => optT (zc2 Ydj t)) ts (fun t ht => ⟨E none none (some (.t t)) none, rfl, ?_⟩) (zd8 Yab ⟨rfl, rfl⟩)
  exact zar (ws := [.t t, .t Yak]) rfl (deed_T (hs t ht).p (hs t ht).l)
 refine zam (zbi (Wp.of c1 (zax ?_)))
 show Wp ((mSeq _ _ : M Fl) (E (some Ycp) none none none) []) _
 let ps : List Str := wrN w0 (ts.filterMap (zc2 Ydj))
 have pl : ps.length ≤ ts.length := by
  simp only [ps, wrN, List.length_map]
  exact Nat.le_trans (List.length_filter_le _ _) (List.length_filterMap_le _ _)
 have c2 : zbq zas Yco (gN 5) zbo zbv [5] (E (some Ycp) none none none) [] = .ok (.t Y8) [] := by
  refine wpV (zeu (vc_sq (za1 rfl (vc_sqL ⟨by simp only [Fd, List.length_map]; omega, ?_⟩))))
  have q := vc_mapG (G := gN 5) (U := zbo) (E := zbv) (eta := E (some Ycp) none none none) (hp := []) (src := fun t : T => W.t (optT (zc2 Ydj t))) (p := fun t => match zc2 Ydj t with | some d => decide (d.1 = w0) | none => false) (g := fun t => match zc2 Ydj t with | some d => T.str d.2 | none => .non) ts (fun t _ => ⟨E (some Ycp) none none (some (.t (optT (zc2 Ydj t)))), rfl, ?_, ?_⟩)
  ·have e1 : Fd.map W.t = ts.map fun t => W.t (optT (zc2 Ydj t)) := by simp only [Fd, List.map_map]; rfl
   rw [e1]
   refine Wp.of q ?_
   rw [wr_found]
   exact zd8 (by rw [List.length_map]; show ps.length ≤ _; omega) ⟨rfl, rfl⟩
  ·unfold zbo
   cases e : zc2 (w0 :: ws) t with
   | none => rfl
   | some d =>
    have a : (zae asB (mBin Yis (mVar 5) Yag) : M Bool) (E (some Ycp) none none (some (.t (dTr d)))) [] = .ok true [] := rfl
    have c : (zae asB Yeo : M Bool) (E (some Ycp) none none (some (.t (dTr d)))) [] = .ok (decide (d.1 = w0)) [] := za8 (binP (a := .t (.str d.1)) (b := .t (.str w0)) (binP rfl rfl ev_ixt0) (binP rfl rfl ev_ixt0) (ev_eqs.trans Y4))
    have := andE (U := zae asB (mBin Yis (mVar 5) Yag)) (V := zae asB Yeo) (eta := E (some Ycp) none none (some (.t (dTr d)))) (hp := []) a fun _ => c
    rw [Bool.true_and] at this
    exact this
  ·intro c
   cases e : zc2 (w0 :: ws) t with
   | none => rw [e] at c; cases c
   | some d => exact binP (a := .t (dTr d)) (b := .t (.int 1)) rfl rfl ev_ixt1
 refine zam (zbi (Wp.of c2 (zax ?_)))
 let G : IS := E (some Ycp) (some (.t Y8)) none none
 show Wp ((mRet _ : M Fl) G []) _
 have ni : inW false Ybh Ycp [] = .ok (.t (.bl (Fd.any fun y => Mir.eqT y .non))) [] := by
  have e2 : (items [] Ycp).bind allT = some Fd := allT_ts Fd
  unfold inW
  simp only [show asT [] Ybh = some .non from rfl, e2, show fit .non 60 = true from rfl, show fitL Fd 60 = true from opt_fit ts, and_self, if_true]
  rfl
 have an : (Fd.any fun y => Mir.eqT y .non) = ts.any fun t => (zc2 Ydj t).isNone := by
  simp only [Fd, List.any_map]
  congr 1
  funext t
  show Mir.eqT (optT (zc2 Ydj t)) .non = _
  cases zc2 (w0 :: ws) t <;> rfl
 have v1 : (zae asB Yf5 : M Bool) G [] = .ok (ts.any fun t => (zc2 Ydj t).isNone) [] := by
  rw [← an]
  exact za8 (binP rfl rfl ni)
 obtain ⟨n, en, in_⟩ := lenset_iff (F := mVar 3) (eta := G) (hp := []) (h1 := []) (l := ps) rfl Yb
 have v2 : (zae asB (mBin Yv (zfm (mVar 3)) Y3) : M Bool) G [] = .ok (!decide (ps.Nodup)) [] := by
  refine za8 (binP en Yhr (ev_eqi.trans ?_))
  have : decide (((n : Nat) : Int) = (ps.length : Nat)) = decide ps.Nodup := by rw [decide_eq_decide, ← in_]; omega
  simp only [if_true, this]
 refine zay (zaw (orE v1 fun _ => v2) (fun c => vc_c ⟨_, rfl, ?_, rfl⟩) fun c => ?_)
 ·rcases allD_found (ws := w0 :: ws) (ts := ts) with ⟨ds, h1, h2, h3⟩ | ⟨h1, _⟩
  ·have nn : (ts.any fun t => (zc2 Ydj t).isNone) = false := by
    rw [← an, show Fd = ds.map dTr from h2, List.any_map]
    exact List.any_eq_false.mpr fun d _ => by show ¬ Mir.eqT (dTr d) .non = true; simp [dTr, Mir.eqT]
   rw [nn] at c
   have nd : ¬ ps.Nodup := by simpa using c
   simp only [ps, h3] at nd
   unfold zeo
   simp only [h1, if_neg nd]
   rfl
  ·unfold zeo
   simp only [h1]
   rfl
 ·have c' : (ts.any fun t => (zc2 Ydj t).isNone) = false ∧ ps.Nodup := by simpa using c
  rcases allD_found (ws := w0 :: ws) (ts := ts) with ⟨ds, h1, h2, h3⟩ | ⟨_, t, ht, h2⟩
  ·have nd := c'.2
   simp only [ps, h3] at nd
   have e : zeo w0 ws ts = some ds := by
    unfold zeo
    simp only [h1, if_pos nd]
   rw [e]
   exact zct (zak (za1 rfl (zbb (Wp.of (oTup_sq (b := false)) ⟨_, rfl, by rw [show Fd = ds.map dTr from h2]; rfl, rfl⟩))))
  ·exact absurd h2 fun z => by
    have := List.any_eq_false.mp c'.1 t ht
    rw [z] at this
    exact this rfl
theorem deeds_no (h : plnT v = true) (hn : seqB v = false) : zca [.t v, .t Yak] hp = .ok Ybh hp := by
 suffices hh : Wp (zca [.t v, .t Yak] hp) fun w h => w = .t .non ∧ h = hp by
  obtain ⟨w, h1, e, rfl, rfl⟩ := hh.ex
  exact e
 refine zdc (ts := [v, .tup ((w0 :: ws).map T.str)]) (eta := [some (.t v), some (.t Yak), none, none, none, none]) rfl rfl ?_
 unfold B_deeds_in
 have u1 : (mNot Ydq : M Bool) [some (.t v), some (.t Yak), none, none, none, none] [] = .ok true [] := notE (a := false) (by rw [zdd, zar (ws := [.t v]) rfl (isseq_T h), hn]; rfl)
 exact zam Ygv
end
section
open TL
variable {hp : IH} {nm st v : T} {s : Str} {i : Nat} {ts : List T} {ds : List Deed} {n : Str}
theorem starts_split {a b : Str} (h : Txt.startswith a b = true) : ∃ r, a = b ++ r := by
 have e : Txt.startswith a b = (decide (b.length ≤ a.length) && ((tl a).take b.length == tl b)) := by
  unfold Txt.startswith
  rw [StrLaws.subAt_eq, List.drop_zero, Nat.zero_add]
 rw [e, Bool.and_eq_true, beq_iff_eq] at h
 refine ⟨⟨((tl a).drop b.length).toArray⟩, str_eq ?_⟩
 rw [tl_append, ← h.2]
 exact (List.take_append_drop _ _).symm
theorem starts_app (a b : Str) : Txt.startswith (a ++ b) a = true := by
 have e : Txt.startswith (a ++ b) a = (decide (a.length ≤ (a ++ b).length) && ((tl (a ++ b)).take a.length == tl a)) := by
  unfold Txt.startswith
  rw [StrLaws.subAt_eq, List.drop_zero, Nat.zero_add]
 rw [e, tl_append, len_tl a, List.take_left, beq_self_eq_true, Bool.and_true]
 exact decide_eq_true (by rw [zaj, len_tl, len_tl]; omega)
theorem cut_fr (p n : Str) : cutS (p ++ n) (some ((p.length : Nat) : Int)) none = n := by
 rw [C8.cutS_slice]
 have e := SX.from_app (tl p) (tl n) (i := ((p.length : Nat) : Int)) (by rw [len_tl])
 rw [← tl_append] at e
 exact (congrArg (fun z => Txt.slice z _ none) (mk_tl (p ++ n)).symm).trans (e.trans (mk_tl n))
theorem split_ne (a y : Str) : Txt.split a y ≠ [] := by
 unfold Txt.split
 split
 ·simp
 ·split
  ·simp
  ·rw [StrLaws.partsBetween_eq]
   obtain ⟨p, r, e⟩ := StrLaws.partsFrom_ne a y.length 0 (Builtin.Str.occurrences a y 0 a.length (a.length + 1))
   rw [e]
   simp
def zbf (s w : Str) : Str × Str := if Txt.startswith (Txt.partition s ": ").1 w = true then (cutS (Txt.partition s ": ").1 (some ((w.length : Nat) : Int)) none, (Txt.partition s ": ").2.2) else ("", "")
theorem par_len (s y : Str) : (Txt.partition s y).1.length + (Txt.partition s y).2.1.length + (Txt.partition s y).2.2.length = s.length := by
 have := congrArg Str.length (PySem.StrLaws.partition_sum s y)
 rwa [zaj, zaj] at this
theorem named_S {w : Str} (hl : s.length ≤ 1000000) (hw : w.length ≤ 100) : zd3 [.t (.str s), .t (.str w)] hp = .ok (.t (.tup [.str (zbf s w).1, .str (zbf s w).2])) hp := by
 suffices hh : Wp (zd3 [.t (.str s), .t (.str w)] hp) fun w' h => w' = .t (.tup [.str (zbf s w).1, .str (zbf s w).2]) ∧ h = hp by
  obtain ⟨w', h1, e, rfl, rfl⟩ := hh.ex
  exact e
 have pl := par_len s ": "
 let p := Txt.partition s ": "
 let E : Option W → Option W → Option W → IS := fun w2 w3 w4 => [some Yci, some (.t (.str w)), w2, w3, w4]
 refine zdc (ts := [.str s, .str w]) (eta := E none none none) rfl rfl ?_
 unfold B_named_in
 have e1 : (mSM zau (mVar 0) Yic : M W) (E none none none) [] = .ok (.t (.pr [.str p.1, .str p.2.1, .str p.2.2])) [] := ze5 rfl rfl (by
  unfold zau
  simp only
  rw [if_pos ⟨by decide +kernel, by omega⟩])
 refine zam (vc_asg (Wp.of e1 ⟨E Ycr Ybv Ybw, rfl, zax ?_⟩))
 have e2 : (zae truW (mSM zdg (mVar 2) (mVar 1)) : M Bool) (E Ycr Ybv Ybw) [] = .ok (Txt.startswith p.1 w) [] := by
  rw [zdd, show mSM zdg (mVar 2) (mVar 1) (E Ycr Ybv Ybw) [] = .ok (.t (.bl (Txt.startswith p.1 w))) [] from rfl]
  rfl
 have nS : zbf s w = if Txt.startswith p.1 w = true then (cutS p.1 (some ((w.length : Nat) : Int)) none, p.2.2) else ("", "") := rfl
 refine zay (zaw e2 (fun c => ?_) fun c => ?_)
 ·rw [nS, if_pos c]
  have ol : (mApp oLen Yq : M W) (E Ycr Ybv Ybw) [] = .ok (.t (.int (w.length : Nat))) [] := zcn rfl (oLen_str Yb)
  refine zct (zak (vc_sl (za1 rfl (zeg (Wp.of ol ⟨_, rfl, zci (Wp.of (a := .t (.str (cutS p.1 (some ((w.length : Nat) : Int)) none))) (h := []) ?_ (zak (za1 rfl (zbb (zew rfl Yaj ⟨_, rfl, rfl, rfl⟩)))))⟩)))))
  have l1 : p.1.length ≤ 16777216 := by show (Txt.partition s ": ").1.length ≤ _; omega
  simp only [slW]
  rw [if_pos l1]
 ·rw [nS, if_neg (by rw [c]; simp)]
  exact zct (zak (vc_c (zak (vc_c (zbb (zew rfl Yaj ⟨_, rfl, rfl, rfl⟩))))))
end
section
open TL
variable {hp : IH} {x s : Str} {ds : List Deed}
theorem wLt_i {a b : Int} : wLt (.t (.int a)) (.t (.int b)) hp = .ok (.t (.bl (decide (a < b)))) hp := rfl
theorem eqE {l : List T} {neg : Bool} (f : fitL l 59 = true) : eqW neg (.t (.lst l)) (.t (.lst [])) hp = .ok (.t (.bl (if neg then !decide (l = []) else decide (l = [])))) hp := by
 have e : eqT (.lst l) (.lst []) = decide (l = []) := by
  cases l with
  | nil => rfl
  | cons a r => exact (decide_eq_false Y4).symm
 simp only [eqW, asT_t]
 rw [if_pos ⟨f, rfl⟩, e]
theorem filter_no {p : Nat → Bool} {l : List Nat} : decide (l.filter (fun c => !p c) = []) = l.all p := by
 rw [Bool.eq_iff_iff, decide_eq_true_eq, List.filter_eq_nil_iff, List.all_eq_true]
 simp
theorem wname_is (hl : x.length ≤ 1000000) : zb4 [.t (.str x)] hp = .ok (.t (.bl (nmB x))) hp := by
 refine wpV ?_
 let E : Option W → IS := fun w1 => [some Yd6, w1]
 refine zdc (ts := [.str x]) (eta := E none) rfl rfl ?_
 unfold B_w_is_name
 have u2 : (zae asB Ya8 : M Bool) (E none) [] = .ok (decide (x ∈ barL)) [] := za8 (binP (b := .t (.tup (barL.map T.str))) rfl rfl in_strs)
 have u3 : (mNot (zae asB (mChain wLt wLt Yd Yh4 (mC (.int 5)))) : M Bool) (E none) [] = .ok (!(decide (1 ≤ x.length) && decide (x.length ≤ 4))) [] := by
  refine notE (za8 ?_)
  rw [p_chain]
  have l : (mApp oLen Y7 : M W) (E none) [] = .ok Yg0 [] := zcn rfl (oLen_str Yb)
  rw [show (mC (.int 0) : M W) (E none) [] = .ok (.t (.int 0)) [] from rfl, zaf, l, zaf, wLt_i, zaf]
  have a : decide (1 ≤ x.length) = decide ((0 : Int) < (x.length : Nat)) := by rw [decide_eq_decide]; omega
  have b : decide (x.length ≤ 4) = decide (((x.length : Nat) : Int) < 5) := by rw [decide_eq_decide]; omega
  rw [a, b]
  cases decide ((0 : Int) < (x.length : Nat)) with
  | true => simp only [Bool.true_and]; exact wLt_i
  | false => rfl
 refine zam (zaw (orE u2 fun _ => u3) (fun h => zay (vc_c (zd7 ⟨_, rfl, ?_, rfl⟩))) fun h => za3 (zax ?_))
 ·have : nmB x = false := by
   unfold nmB
   simp only [Bool.or_eq_true, Bool.not_eq_true', decide_eq_true_eq] at h
   rcases h with h | h
   ·simp [h]
   ·rw [h]; simp
  rw [this]
 ·have nb : (!decide (x ∈ barL) && (decide (1 ≤ x.length) && decide (x.length ≤ 4))) = true := by
   simp only [Bool.or_eq_false_iff, Bool.not_eq_false'] at h
   rw [h.1, h.2]
   rfl
  have e : nmB x = lowB x := by
   unfold nmB
   rw [nb, Bool.true_and]
  rw [e]
  have c1 : zbq zas (mStrI (mVar 0)) (gN 1) zcw zdl [1] (E none) [] = .ok (.t (.lst (((tl x).filter fun c => !(decide (97 ≤ c) && decide (c ≤ 122))).map fun c => T.str ⟨#[c]⟩))) [] := by
   refine wpV (zeu (Wp.of (a := signs x) (h := []) rfl ⟨?_, ?_⟩))
   ·show ((tl x).map _).length ≤ _
    rw [List.length_map, ← len_tl]
    omega
   ·refine Wp.of (vc_mapG (G := gN 1) (U := zcw) (E := zdl) (src := fun c : Nat => W.t Ycn) (p := fun c => !(decide (97 ≤ c) && decide (c ≤ 122))) (g := fun c => T.str ⟨#[c]⟩) (tl x) (fun c hc => ⟨E (some (.t Ycn)), rfl, ?_, fun _ => rfl⟩)) ?_
    ·unfold zcw
     exact za8 (binP rfl rfl sgn_in)
    ·refine zd8 ?_ ⟨rfl, rfl⟩
     rw [List.length_map]
     have := List.length_filter_le (fun c : Nat => !(decide (97 ≤ c) && decide (c ≤ 122))) (tl x)
     rw [← len_tl] at this
     omega
  refine zay (Wp.of (binP c1 rfl (eqE ?_)) ⟨_, rfl, ?_, rfl⟩)
  ·have : ((tl x).filter fun c => !(decide (97 ≤ c) && decide (c ≤ 122))).map (fun c => T.str ⟨#[c]⟩) = (((tl x).filter fun c => !(decide (97 ≤ c) && decide (c ≤ 122))).map fun c => (⟨#[c]⟩ : Str)).map T.str := by rw [List.map_map]; rfl
   rw [this]
   exact fitL_strs
  ·have : decide (((tl x).filter fun c => !(decide (97 ≤ c) && decide (c ≤ 122))).map (fun c => T.str ⟨#[c]⟩) = []) = lowB x := by
    unfold lowB
    rw [← filter_no, decide_eq_decide, List.map_eq_nil_iff]
   simp only [Bool.false_eq_true, if_false, this]
theorem split_e : Txt.split "" ", " = [("" : Str)] := by decide +kernel
end
section
open TL
variable {hp : IH} {s : Str}
theorem cutS_len (x : Str) (lo hi : Option Int) : (cutS x lo hi).length ≤ x.length := by
 unfold cutS
 rw [len_tl, len_tl x]
 refine Nat.le_trans (Nat.le_of_eq ?_) (cutL_len (tl x) lo hi)
 rfl
end
section
open TL
variable {hp : IH} {s : Str}
theorem zev {x y : Str} (hx : ∀ c ∈ tl x, c < 256) (hy : ∀ c ∈ tl y, c < 256) : ∀ c ∈ tl (x ++ y), c < 256 := fun c hc => by
 rw [tl_append] at hc
 rcases List.mem_append.mp hc with h | h
 ·exact hx c h
 ·exact hy c h
theorem sgn_join {y : Str} (hy : ∀ c ∈ tl y, c < 256) : ∀ {ps : List Str}, (∀ p ∈ ps, ∀ c ∈ tl p, c < 256) → ∀ c ∈ tl (Txt.join y ps), c < 256
 | [], _ => by rw [join_nil]; exact fun c hc => by cases hc
 | [a], h => by rw [zbz]; exact h a Yj
 | a :: b :: r, h => by
  rw [za7]
  exact zev (zev (h a Yj) hy) (sgn_join hy fun p hp => h p (List.mem_cons_of_mem _ hp))
theorem sgn_nam {n : Str} (h : Nam n) : ∀ c ∈ tl n, c < 256 := fun c hc => by
 have := h.fr c hc
 omega
theorem str_sh {x : Str} (h : ∀ c ∈ tl x, c < 256) (hl : x.length ≤ 20000) : (dat (.str x)).showable = true ∧ (dat (.str x)).shown.length ≤ 16777216 := by
 refine ⟨rfl, ?_⟩
 show (PySem.reprText x).length ≤ _
 have := PySem.StrLaws.reprText_len x (fun c hc => Nat.lt_trans (h c hc) Ybz)
 omega
theorem repr_of {h : IH} {t : T} (f : fit t 60 = true) (s : (dat t).showable = true ∧ (dat t).shown.length ≤ 16777216) : oRepr [.t t] h = .ok (.t (.str (dat t).shown)) h := by
 simp only [oRepr, asT_t, f, s.1, s.2, and_self, if_true]
end
section
open TL
variable {hp : IH} {s : Str} {ds : List Deed}
theorem snoc_ind {P : List Nat → Prop} (nil : P []) (snoc : ∀ l d, P l → P (l ++ [d])) (l : List Nat) : P l := by
 have h : ∀ m : List Nat, P m.reverse := fun m => by
  induction m with
  | nil => exact nil
  | cons a m ih => rw [List.reverse_cons]; exact snoc _ _ ih
 have := h l.reverse
 rwa [List.reverse_reverse] at this
theorem zer (l : List Nat) (d : Nat) : NumText.digitsVal (l ++ [d]) = NumText.digitsVal l * 10 + (d - 48) := by
 unfold NumText.digitsVal
 rw [List.foldl_append]
 rfl
theorem val_pos : ∀ {l : List Nat} {c : Nat}, NumText.AllDigits (c :: l) → c ≠ 48 → 0 < NumText.digitsVal (c :: l) := by
 intro l
 induction l using snoc_ind with
 | nil =>
  intro c h hc
  have := h c Yj
  show 0 < 0 * 10 + (c - 48)
  omega
 | snoc l d ih =>
  intro c h hc
  have h2 : NumText.AllDigits (c :: l) := fun x hx => h x (by rw [← List.cons_append]; exact List.mem_append_left _ hx)
  have := ih h2 hc
  rw [← List.cons_append, zer]
  omega
theorem numL_back : ∀ {l : List Nat}, NumText.AllDigits l → l ≠ [] → (l.head? ≠ some 48 ∨ l = [48]) → numL (NumText.digitsVal l) = l := by
 intro l
 induction l using snoc_ind with
 | nil => intro _ h; exact absurd rfl h
 | snoc l d ih =>
  intro h _ hz
  have hd := h d (List.mem_append_right _ Ye1)
  have hl : NumText.AllDigits l := fun x hx => h x (List.mem_append_left _ hx)
  rw [zer]
  cases l with
  | nil =>
   show numL (0 * 10 + (d - 48)) = [d]
   rw [numL_lt Yb]
   congr 1
   omega
  | cons c r =>
   have hc : c ≠ 48 := by
    rcases hz with z | z
    ·intro e
     exact z (by rw [e]; rfl)
    ·have := congrArg List.length z
     simp at this
   have p := val_pos hl hc
   rw [numL_step Yb, show (NumText.digitsVal (c :: r) * 10 + (d - 48)) / 10 = NumText.digitsVal (c :: r) by omega, ih hl Y4 (.inl fun e => hc (Option.some.inj e))]
   congr 2
   omega
theorem val_lt : ∀ {l : List Nat}, NumText.AllDigits l → NumText.digitsVal l < 10 ^ l.length := by
 intro l
 induction l using snoc_ind with
 | nil => intro _; decide
 | snoc l d ih =>
  intro h
  have hd := h d (List.mem_append_right _ Ye1)
  have := ih fun x hx => h x (List.mem_append_left _ hx)
  rw [zer, List.length_append, List.length_singleton, Nat.pow_succ]
  omega
theorem numL_big {n k : Nat} (h : (numL n).length ≤ k) : n < 10 ^ k := by
 have := val_lt (numL_digits n)
 rw [numL_val] at this
 exact Nat.lt_of_lt_of_le this (Nat.pow_le_pow_right Yb h)
theorem numL_no0 {n : Nat} (h : 1 ≤ n) : (numL n).head? ≠ some 48 := by
 induction n using Nat.strongRecOn with
 | _ n ih =>
  by_cases h10 : n < 10
  ·rw [numL_lt h10]
   intro e
   have := Option.some.inj e
   omega
  ·rw [numL_step Yb]
   have := ih (n / 10) Yb Yb
   cases e : numL (n / 10) with
   | nil => exact absurd e (numL_ne _)
   | cons c r =>
    rw [e] at this
    exact this
theorem ix_str0 {s : Str} {c : Nat} {r : List Nat} (e : tl s = c :: r) (hl : s.length ≤ 16777216) : ixW Yci (.t (.int 0)) hp = .ok (.t Ycn) hp := by
 have a : atI s.cps.toList 0 = some c := by
  rw [show s.cps.toList = c :: r from e, ev_atl0]
 simp only [ixW, a, hl, if_true]
theorem dgt_in {c : Nat} : inS false (.t Ycn) (.t (.str "0123456789")) hp = .ok (.t (.bl (decide (48 ≤ c) && decide (c ≤ 57)))) hp := by
 have e : decide (c ∈ (Str.ofString "0123456789").cps.toList) = (decide (48 ≤ c) && decide (c ≤ 57)) := by
  have e : (Str.ofString "0123456789").cps.toList = List.range' 48 10 := by decide +kernel
  rw [e, Bool.eq_iff_iff, decide_eq_true_eq, List.mem_range'_1, Bool.and_eq_true, decide_eq_true_eq, decide_eq_true_eq]
  omega
 show Res.ok (W.t (.bl (decide (c ∈ (Str.ofString "0123456789").cps.toList)))) hp = _
 rw [e]
def digB (s : Str) : Bool := (tl s).all fun c => decide (48 ≤ c) && decide (c ≤ 57)
theorem numberin_is (hl : s.length ≤ 1000000) : ∃ t : T, zeb [.t (.str s), .t (.int 9)] hp = .ok (.t t) hp ∧ ((∃ n : Nat, n < 10 ^ 9 ∧ s = numS n ∧ t = .int (n : Nat)) ∨ (t = .non ∧ ∀ n : Nat, n < 10 ^ 9 → s ≠ numS n)) := by
 suffices hh : Wp (zeb [.t (.str s), .t (.int 9)] hp) fun w h => ∃ t : T, w = .t t ∧ h = hp ∧ ((∃ n : Nat, n < 10 ^ 9 ∧ s = numS n ∧ t = .int (n : Nat)) ∨ (t = .non ∧ ∀ n : Nat, n < 10 ^ 9 → s ≠ numS n)) by
  obtain ⟨w, h1, e, t, rfl, rfl, q⟩ := hh.ex
  exact ⟨t, e, q⟩
 let E : Option W → IS := fun w2 => [some Yci, some (.t (.int 9)), w2]
 refine zdc (ts := [.str s, .int 9]) (eta := E none) rfl rfl ?_
 unfold B_number_in
 have ol : (mApp oLen Y7 : M W) (E none) [] = .ok (.t (.int (s.length : Nat))) [] := zcn rfl (oLen_str Yb)
 have u1 : (mNot (zae asB (mChain iLe iLe Yg Yh4 (mVar 1))) : M Bool) (E none) [] = .ok (!(decide (1 ≤ s.length) && decide (s.length ≤ 9))) [] := by
  refine notE (za8 ?_)
  rw [p_chain, show (mC (.int 1) : M W) (E none) [] = .ok (.t (.int 1)) [] from rfl, zaf, ol, zaf, ev_le, zaf]
  have a : decide (1 ≤ s.length) = decide ((1 : Int) ≤ (s.length : Nat)) := by rw [decide_eq_decide]; omega
  have b : decide (s.length ≤ 9) = decide (((s.length : Nat) : Int) ≤ 9) := by rw [decide_eq_decide]; omega
  rw [a, b]
  cases decide ((1 : Int) ≤ (s.length : Nat)) with
  | true => simp only [Bool.true_and]; rfl
  | false => rfl
 have c1 : (zbq zas (mStrI (mVar 0)) (gN 2) mYes zb9 [2] : M W) (E none) [] = .ok (.t (.lst (((tl s).map fun c => (decide (48 ≤ c) && decide (c ≤ 57))).map T.bl))) [] := by
  refine wpV (zeu (Wp.of (a := signs s) (h := []) rfl ⟨?_, ?_⟩))
  ·show ((tl s).map _).length ≤ _
   rw [List.length_map, ← len_tl]
   omega
  ·refine vc_mapA (G := gN 2) (E := zb9) (src := fun c : Nat => W.t Ycn) (g := fun c => T.bl (decide (48 ≤ c) && decide (c ≤ 57))) (tl s) (fun c hc => ⟨E (some (.t Ycn)), rfl, ?_⟩) (zd8 (by rw [List.length_map, ← len_tl]; omega) ⟨?_, rfl⟩)
   ·unfold zb9
    exact binP rfl rfl dgt_in
   ·rw [List.map_map]
    rfl
 have u2 : (mNot Ygg : M Bool) (E none) [] = .ok (!digB s) [] := notE (by
  rw [zdd, zcn c1 bools_all, List.all_map]
  rfl)
 refine zam (zaw (orE u1 fun _ => u2) (fun h => zay (vc_c (zd7 ⟨_, rfl, .non, rfl, rfl, .inr ⟨rfl, fun n hn e => ?_⟩⟩))) fun h => za3 (zax ?_))
 ·have l : (numS n).length = (numL n).length := by rw [len_tl]; unfold numS; rw [tl_num]
  have l1 := numL_len (k := 9) Yb hn
  have l2 := List.length_pos_iff.mpr (numL_ne n)
  have dg : digB s = true := by
   unfold digB
   rw [e]
   unfold numS
   rw [tl_num, List.all_eq_true]
   intro c hc
   have := numL_digits n c hc
   simp [this.1, this.2]
  rw [dg, e, l, decide_eq_true (show 1 ≤ (numL n).length by omega), decide_eq_true l1] at h
  simp at h
 ·simp only [Bool.or_eq_false_iff, Bool.not_eq_false', Bool.and_eq_true, decide_eq_true_eq] at h
  obtain ⟨⟨h1, h9⟩, dg⟩ := h
  have ad : NumText.AllDigits (tl s) := fun c hc => by
   have := List.all_eq_true.mp dg c hc
   simpa using this
  have lt := len_tl s
  obtain ⟨c, r, es⟩ : ∃ c r, tl s = c :: r := by
   cases e : tl s with
   | nil => rw [e] at lt; simp at lt; omega
   | cons c r => exact ⟨c, r, rfl⟩
  have ne : tl s ≠ [] := by rw [es]; simp
  have i0 : (mBin ixW (mVar 0) Yd : M W) (E none) [] = .ok (.t Ycn) [] := binP rfl rfl (ix_str0 es Yb)
  have t1 : (zae asB (mBin Ys Yb4 (mC (.str "0"))) : M Bool) (E none) [] = .ok (decide ((⟨#[c]⟩ : Str) = "0")) [] := za8 (binP i0 rfl Ybg)
  have t2 : (zae asB (mBin Yv (mVar 0) (mC (.str "0"))) : M Bool) (E none) [] = .ok (!decide (s = "0")) [] := za8 (binP (a := .t (.str s)) rfl rfl Ybg)
  have z0 : tl ("0" : Str) = [48] := by decide +kernel
  have c48 : (⟨#[c]⟩ : Str) = "0" ↔ c = 48 := by
   constructor
   ·intro e
    have := congrArg tl e
    rw [z0] at this
    exact List.head_eq_of_cons_eq this
   ·rintro rfl
    exact str_eq (by rw [z0])
  refine zay (zaw (andE t1 fun _ => t2) (fun h => vc_c ⟨_, rfl, .non, rfl, rfl, .inr ⟨rfl, fun n hn e => ?_⟩⟩) fun h => ?_)
  ·simp only [Bool.and_eq_true, decide_eq_true_eq, Bool.not_eq_true', decide_eq_false_iff_not] at h
   have hc := c48.mp h.1
   have en : numL n = 48 :: r := by
    rw [← hc, ← es, e]
    unfold numS
    rw [tl_num]
   by_cases h10 : n < 10
   ·rw [numL_lt h10] at en
    have : r = [] := (List.cons.inj en).2.symm
    exact h.2 (str_eq (by rw [es, z0, hc, this]))
   ·exact numL_no0 (n := n) Yb (by rw [en]; rfl)
  ·have hz : (tl s).head? ≠ some 48 ∨ tl s = [48] := by
    rw [es]
    by_cases hc : c = 48
    ·right
     rw [decide_eq_true (c48.mpr hc), Bool.true_and, Bool.not_eq_false', decide_eq_true_eq] at h
     rw [← es, h, z0]
    ·left
     intro e
     exact hc (Option.some.inj e)
   have back := numL_back ad ne hz
   have it : oIntS [.t (.str s)] [] = .ok (.t (.int (NumText.digitsVal (tl s) : Nat))) [] := by
    have e : PySem.intText? s = some ((NumText.digitsVal (tl s) : Nat) : Int) := PySem.intText_digits ad ne Yb
    unfold oIntS
    simp only [e]
    rw [if_pos Yb]
   refine Wp.of (zcn (a := .t (.str s)) rfl it) ⟨_, rfl, _, rfl, rfl, .inl ⟨NumText.digitsVal (tl s), ?_, ?_, rfl⟩⟩
   ·have := numL_big (n := NumText.digitsVal (tl s)) (k := 9)
    rw [back, ← lt] at this
    exact this h9
   ·refine str_eq ?_
    unfold numS
    rw [tl_num, back]
end
section
open TL
variable {hp : IH} {s : Str} {ds : List Deed} {v : T}
/-- the place that a word tells -/
def za9 (ds : List Deed) (s : Str) : Option Nat := (List.range ds.length).find? fun n => decide (numS n = s) && decide ((ds.getD n ("", "")).1 = "look")
def optN : Option Nat → T
 | some n => .int (n : Nat)
 | none => .non
theorem numS_inj {m n : Nat} (h : numS m = numS n) : m = n := numL_inj (by
 have := congrArg tl h
 unfold numS at this
 rwa [tl_num, tl_num] at this)
theorem spotS_some {n : Nat} : za9 ds s = some n ↔ s = numS n ∧ n < ds.length ∧ (ds.getD n ("", "")).1 = "look" := by
 unfold za9
 constructor
 ·intro h
  have h1 := List.find?_some h
  have h2 := List.mem_of_find?_eq_some h
  simp only [Bool.and_eq_true, decide_eq_true_eq] at h1
  exact ⟨h1.1.symm, List.mem_range.mp h2, h1.2⟩
 ·rintro ⟨rfl, h1, h2⟩
  cases e : (List.range ds.length).find? fun m => decide (numS m = numS n) && decide ((ds.getD m ("", "")).1 = "look") with
  | none =>
   have := List.find?_eq_none.mp e n (List.mem_range.mpr h1)
   exact absurd (by rw [decide_eq_true (rfl : numS n = numS n), decide_eq_true h2]; rfl) this
  | some m =>
   have h3 := List.find?_some e
   simp only [Bool.and_eq_true, decide_eq_true_eq] at h3
   rw [numS_inj h3.1]
theorem spot_S (hl : s.length ≤ 1000000) (dl : ds.length ≤ 1000) : F_spot_in [.t (.str s), .t Ycc] hp = .ok (.t (optN (za9 ds s))) hp := by
 refine wpV ?_
 let E : Option W → IS := fun w2 => [some Yci, some (.t Ycc), w2]
 refine zdc (ts := [.str s, .tup Yh]) (eta := E none) rfl rfl ?_
 unfold B_spot_in
 obtain ⟨t, e, q⟩ := numberin_is (hp := ([] : IH)) hl
 refine zam (zbi (Wp.of (zar (ws := [.t (.str s), .t (.int 9)]) rfl e) (zax ?_)))
 rcases q with ⟨n, hn, es, rfl⟩ | ⟨rfl, hn⟩
 ·have t1 : zae asB (mBin Yis (mVar 2) Yag) (E (some Yau)) [] = .ok true [] := rfl
  have t2 : zae asB (mBin wLt (mVar 2) (mApp oLen Yq)) (E (some Yau)) [] = .ok (decide (n < ds.length)) [] := za8 (binP rfl (zcn (a := .t Ycc) rfl oLen_t) (by
   rw [wLt_ii, List.length_map]
   congr 3
   rw [decide_eq_decide]
   omega))
  by_cases c : n < ds.length
  ·have ix : ixW (.t Ycc) Yau [] = .ok Yhz [] := by
    have := ixW_sq (b := true) (ts := ds.map dTr) (n := n) (hp := []) Yg1
    rw [deed_at c] at this
    exact this
   have t3 : zae asB (mBin Ys (mBin ixW (mBin ixW (mVar 1) (mVar 2)) Yd) Yc0) (E (some Yau)) [] = .ok (decide ((ds.getD n ("", "")).1 = "look")) [] := za8 (binP (binP (binP rfl rfl ix) rfl ev_ixt0) rfl Ybg)
   refine zay (zaw (andE t1 fun _ => andE t2 fun _ => t3) (fun h => za1 rfl ⟨_, rfl, ?_, rfl⟩) fun h => vc_c ⟨_, rfl, ?_, rfl⟩)
   ·simp only [Bool.true_and, Bool.and_eq_true, decide_eq_true_eq] at h
    rw [spotS_some.mpr ⟨es, h⟩]
    rfl
   ·have : za9 ds s = none := by
     cases e : za9 ds s with
     | none => rfl
     | some m =>
      obtain ⟨e1, e2, e3⟩ := spotS_some.mp e
      rw [es] at e1
      rw [numS_inj e1, decide_eq_true e2, decide_eq_true e3] at h
      cases h
    rw [this]
    rfl
  ·rw [decide_eq_false c] at t2
   refine zay (zaw (b := false) (andE (a := true) (b := false) t1 fun _ => andE (a := false) (b := false) t2 fun z => by cases z) Yhd fun h => vc_c ⟨_, rfl, ?_, rfl⟩)
   have : za9 ds s = none := by
    cases e : za9 ds s with
    | none => rfl
    | some m =>
     obtain ⟨e1, e2, e3⟩ := spotS_some.mp e
     rw [es] at e1
     exact absurd (numS_inj e1 ▸ e2) c
   rw [this]
   rfl
 ·have t1 : zae asB (mBin Yis (mVar 2) Yag) (E (some Ybh)) [] = .ok false [] := rfl
  refine zay (zaw (b := false) (andE (a := false) (b := false) t1 fun z => by cases z) Yhd fun h => vc_c ⟨_, rfl, ?_, rfl⟩)
  have : za9 ds s = none := by
   cases e : za9 ds s with
   | none => rfl
   | some m =>
    obtain ⟨e1, e2, e3⟩ := spotS_some.mp e
    exact absurd e1 (hn m Yb)
  rw [this]
  rfl
/-- the check that words tell -/
def zc7 (ds : List Deed) : List Str → Option Chk
 | [w, a] => if w = "even" then (za9 ds a).map .even else none
 | [w, a, b] => if w = "same" then (match za9 ds a, za9 ds b with | some i, some j => if i < j ∧ (ds.getD i ("", "")).2 = (ds.getD j ("", "")).2 then some (.same i j) else none | _, _ => none) else none
 | _ => none
def chkS (ds : List Deed) (s : Str) : Option Chk := zc7 ds (Txt.split s " ")
def chkV (ds : List Deed) : T → Option Chk
 | .str s => chkS ds s
 | _ => none
def optC : Option Chk → T
 | some c => chkT c
 | none => .non
theorem chkS_some {c : Chk} (h : chkS ds s = some c) : s = zbe c ∧ chkOk ds c := by
 unfold chkS at h
 generalize e : Txt.split s " " = ps at h
 have j := ts_join (s := s)
 rw [e] at j
 unfold zc7 at h
 split at h
 ·rename_i w a
  split at h
  ·rename_i hw
   obtain ⟨i, h1, rfl⟩ := Option.map_eq_some_iff.mp h
   obtain ⟨e1, e2, e3⟩ := spotS_some.mp h1
   rw [← j, hw, e1]
   exact ⟨rfl, e2, e3⟩
  ·cases h
 ·rename_i w a b
  split at h
  ·rename_i hw
   split at h
   ·rename_i i' j' h1 h2
    split at h
    ·rename_i hc
     cases h
     obtain ⟨e1, e2, e3⟩ := spotS_some.mp h1
     obtain ⟨f1, f2, f3⟩ := spotS_some.mp h2
     rw [← j, hw, e1, f1]
     exact ⟨rfl, hc.1, f2, e3, Prod.ext (e3.trans f3.symm) hc.2⟩
    ·cases h
   ·cases h
  ·cases h
 ·cases h
theorem chkTx_S {c : Chk} (h : chkOk ds c) : chkS ds (zbe c) = some c := by
 unfold chkS
 rw [split_chk]
 cases c with
 | even i =>
  obtain ⟨h1, h2⟩ := h
  show (if ("even" : Str) = "even" then (za9 ds (numS i)).map Chk.even else none) = _
  rw [if_pos rfl, spotS_some.mpr ⟨rfl, h1, h2⟩]
  rfl
 | same i j =>
  obtain ⟨h1, h2, h3, h4⟩ := h
  show (if ("same" : Str) = "same" then _ else none) = _
  rw [if_pos rfl, spotS_some.mpr ⟨rfl, by omega, h3⟩, spotS_some.mpr ⟨rfl, h2, by rw [← h4]; exact h3⟩]
  show (if i < j ∧ (ds.getD i ("", "")).2 = (ds.getD j ("", "")).2 then some (Chk.same i j) else none) = _
  rw [if_pos ⟨h1, by rw [h4]⟩]
theorem optN_fit {l : List (Option Nat)} : fitL (l.map optN) 60 = true := fitL_all fun t ht => by
 obtain ⟨c, _, rfl⟩ := List.mem_map.mp ht
 cases c <;> rfl
theorem non_any {l : List (Option Nat)} : inW false Ybh (.t (.lst (l.map optN))) hp = .ok (.t (.bl (decide (none ∈ l)))) hp := by
 simp only [inW, asT_t, items_l, Option.bind_some, allT_ts]
 rw [if_pos ⟨rfl, optN_fit⟩]
 simp only [Bool.false_eq_true, if_false]
 congr 3
 rw [Bool.eq_iff_iff, List.any_eq_true, decide_eq_true_eq]
 constructor
 ·rintro ⟨t, ht, e⟩
  obtain ⟨c, hc, rfl⟩ := List.mem_map.mp ht
  cases c with
  | none => exact hc
  | some n => simp [optN, Mir.eqT] at e
 ·intro h
  exact ⟨.non, List.mem_map.mpr ⟨none, h, rfl⟩, rfl⟩
end
section
open TL
variable {hp : IH} {s : Str} {ds : List Deed} {v : T}
theorem ixd {n : Nat} (c : n < ds.length) : ixW (.t Ycc) Yau hp = .ok Yhz hp := by
 have := ixW_sq (b := true) (ts := ds.map dTr) (n := n) (hp := hp) Yg1
 rw [deed_at c] at this
 exact this
theorem test_S (hl : s.length ≤ 1000000) (dl : ds.length ≤ 1000) : F_test_in [.t (.str s), .t Ycc] hp = .ok (.t (optC (chkS ds s))) hp := by
 refine wpV ?_
 let D : Option W := some (.t Ycc)
 let E : Option W → Option W → Option W → IS := fun w2 w3 w4 => [some Yci, D, w2, w3, w4]
 refine zdc (ts := [.str s, .tup Yh]) (eta := E none none none) rfl rfl ?_
 unfold B_test_in
 refine zam (zaw (b := false) (notE (a := true) rfl) Yhd fun _ => za3 (zax ?_))
 have sp : (mSM zbl (mVar 0) Yay : M W) (E none none none) [] = .ok (.t (.lst ((Txt.split s " ").map T.str))) [] := ze5 rfl rfl Yfd
 refine zam (zbi (Wp.of sp (zax ?_)))
 have pl : ∀ p ∈ Txt.split s " ", p.length ≤ 1000000 := fun p hp => Nat.le_trans (zfg hp) hl
 have pn := zd9 (a := s) (y := " ")
 rw [zea] at pn
 have p0 := split_ne s " "
 unfold chkS
 generalize Txt.split s " " = ps at pl pn p0
 match ps, pl, pn, p0 with
 | w :: r, pl, pn, _ =>
  rw [List.length_cons] at pn
  let P : Option W := some (.t Ycv)
  show Wp ((mSeq _ _ : M Fl) (E P none none) []) _
  have sl : (mSl (mVar 2) (zbt Yg) zat : M W) (E P none none) [] = .ok (.t (.lst (r.map T.str))) [] := by
   refine wpV (vc_sl (za1 (w := .t Ycv) rfl (zeg (vc_c ⟨_, rfl, zci (vc_slWl ⟨?_, rfl⟩)⟩))))
   have := cutL_from2 ((w :: r).map T.str) 1
   rw [show ((1 : Nat) : Int) = 1 from rfl] at this
   rw [this]
   rfl
  have cp : zbq zas (mSq (mSl (mVar 2) (zbt Yg) zat)) (gN 4) mYes zdp [4] (E P none none) [] = .ok (.t Ycl) [] := by
   refine wpV (zeu (vc_sq (Wp.of sl (vc_sqL ⟨by rw [List.length_map, List.length_map]; omega, ?_⟩))))
   rw [List.map_map, List.map_map]
   refine vc_mapA (G := gN 4) (E := zdp) (src := fun x : Str => W.t (.str x)) (g := fun x => optN (za9 ds x)) r (fun x hx => ⟨E P none (some Yd6), rfl, ?_⟩) (zd8 Yab ⟨rfl, rfl⟩)
   exact zar (ws := [.t (.str x), .t Ycc]) rfl (spot_S (pl x Ybu) dl)
  refine zam (zbi (Wp.of cp (zax ?_)))
  let Q : List (Option Nat) := r.map (za9 ds)
  let G : IS := E P (some (.t (.lst (Q.map optN)))) none
  show Wp ((mSeq _ _ : M Fl) G []) _
  have ql : Q.length = r.length := List.length_map ..
  have t1 : (zae asB (mBin (inW false) Yag (mVar 3)) : M Bool) G [] = .ok (decide (none ∈ Q)) [] := za8 (binP (a := .t .non) (b := .t (.lst (Q.map optN))) rfl rfl non_any)
  have ol : (mApp oLen (zab (mVar 3) (mNil)) : M W) G [] = .ok (.t (.int (r.length : Nat))) [] := zcn (a := .t (.lst (Q.map optN))) rfl (by rw [zej, List.length_map, ql])
  have w0 : (mBin ixW (mVar 2) Yd : M W) G [] = .ok (.t (.str w)) [] := binP (a := .t Ycv) rfl rfl zes
  have te : (zae asB (mBin Ys Yb9 Ygy) : M Bool) G [] = .ok (decide (w = "even")) [] := za8 (binP w0 rfl Ybg)
  have l1 : (zae asB (mBin Ys Y3 Yg) : M Bool) G [] = .ok (decide (r.length = 1)) [] := za8 (binP ol rfl (ev_eqi.trans (by
   have : decide (((r.length : Nat) : Int) = 1) = decide (r.length = 1) := by rw [decide_eq_decide]; omega
   simp only [Bool.false_eq_true, if_false, this])))
  have ts : (zae asB (mBin Yv Yb9 Yfp) : M Bool) G [] = .ok (!decide (w = "same")) [] := za8 (binP w0 rfl Ybg)
  have l2 : (zae asB (mBin Yv Y3 Yb8) : M Bool) G [] = .ok (!decide (r.length = 2)) [] := za8 (binP ol rfl (ev_eqi.trans (by
   have : decide (((r.length : Nat) : Int) = 2) = decide (r.length = 2) := by rw [decide_eq_decide]; omega
   simp only [if_true, this])))
  by_cases hn : none ∈ Q
  ·refine zam (zaw t1 (fun _ => zay (vc_c (zd7 ⟨_, rfl, ?_, rfl⟩))) fun h => by rw [decide_eq_true hn] at h; cases h)
   have : zc7 ds (w :: r) = none := by
    obtain ⟨x, hx, e⟩ := List.mem_map.mp hn
    match r, hx with
    | [a], hx =>
     rw [List.mem_singleton.mp hx] at e
     simp only [zc7, e, Option.map_none, ite_self]
    | [a, b], hx =>
     simp only [List.mem_cons, List.not_mem_nil, or_false] at hx
     rcases hx with rfl | rfl
     ·simp only [zc7, e, ite_self]
     ·simp only [zc7, e]
      cases za9 ds a <;> simp only [ite_self]
    | [], hx => cases hx
    | _ :: _ :: _ :: _, _ => rfl
   rw [this]
   rfl
  ·refine zam (zaw t1 (fun h => by rw [decide_eq_false hn] at h; cases h) fun _ => za3 (zax ?_))
   have sm : ∀ a ∈ r, ∃ n, za9 ds a = some n := fun a ha => by
    cases e : za9 ds a with
    | some n => exact ⟨n, rfl⟩
    | none => exact absurd (List.mem_map.mpr ⟨a, ha, e⟩) hn
   -- nothing fits
   have bad : (decide (w = "even") && decide (r.length = 1)) = false → (!decide (w = "same") || !decide (r.length = 2)) = true → zc7 ds (w :: r) = none → ∀ F : M W, Wp ((mSeq (mIf (mAnd (zae asB (mBin (eqW false) (mBin ixW (mVar 2) (mC (.int 0))) (mC (.str "even")))) (zae asB (mBin (eqW false) (mApp oLen (zab (mVar 3) (mNil))) (mC (.int 1))))) (mRet (mApp za2 (zab (mC (.str "even")) (zab (mBin ixW (mVar 3) (mC (.int 0))) (mNil))))) (zbh)) (mSeq (mIf (mOr (zae asB (mBin (eqW true) (mBin ixW (mVar 2) (mC (.int 0))) (mC (.str "same")))) (mOr (zae asB (mBin (eqW true) (mApp oLen (zab (mVar 3) (mNil))) (mC (.int 2)))) (zae asB (mBin iGe (mBin ixW (mVar 3) (mC (.int 0))) (mBin ixW (mVar 3) (mC (.int 1))))))) (mRet (mC .non)) (zbh)) (mRet F)) : M Fl) G []) fun fl h1 => ∃ t : T, fl = .rt (.t t) ∧ (fun w' h => w' = W.t (optC (zc7 ds (w :: r))) ∧ h = hp) (.t t) hp := fun h1 h2 h3 F => by
    refine zam (zaw (andE te fun _ => l1) (fun h => by rw [h1] at h; cases h) fun _ => za3 (zax ?_))
    have o : (mOr (zae asB (mBin Yv Yb9 Yfp)) (mOr (zae asB (mBin Yv Y3 Yb8)) (zae asB Yeb)) : M Bool) G [] = .ok true [] := by
     by_cases hw : w = "same"
     ·rw [decide_eq_true hw] at ts h2
      exact orE (a := false) (b := true) ts fun _ => by
       have e : (!decide (r.length = 2)) = true := by simpa using h2
       rw [e] at l2
       exact orE (a := true) (b := true) l2 fun z => by cases z
     ·rw [decide_eq_false hw] at ts
      exact orE (a := true) (b := true) ts fun z => by cases z
    refine zam (zaw o (fun _ => zay (vc_c (zd7 ⟨_, rfl, ?_, rfl⟩))) fun h => by cases h)
    rw [h3]
    rfl
   have V3 : (mVar 3 : M W) G [] = .ok (.t Ycl) [] := rfl
   match r, sm, bad, te, l1, ts, l2, V3 with
   | [], _, bad, _, _, _, _, _ => exact bad Y4 Y4 rfl _
   | _ :: _ :: _ :: _, _, bad, _, _, _, _, _ => exact bad Y4 Y4 rfl _
   | [a], sm, bad, te, l1, ts, l2, V3 =>
    obtain ⟨n, e⟩ := sm a Yj
    by_cases hw : w = "even"
    ·rw [decide_eq_true hw] at te
     have i0 : (mBin ixW (mVar 3) Yd : M W) G [] = .ok Yau [] := binP (a := .t (.lst [.int (n : Nat)])) (V3.trans (by
      rw [show (([a].map (za9 ds)).map optN) = [optN (za9 ds a)] from rfl, e]
      rfl)) rfl zes
     refine zam (zaw (b := true) (andE (a := true) (b := true) te fun _ => l1) (fun _ => zay (zct (zak (vc_c (zak (Wp.of i0 (zbb (zew (ts := [.str "even", .int (n : Nat)]) rfl Yaj (zd7 ⟨_, rfl, ?_, rfl⟩))))))))) Yhd)
     simp only [zc7, hw, if_true, e]
     rfl
    ·exact bad (by simp [hw]) Y4 (by simp [zc7, hw]) _
   | [a, b], sm, bad, te, l1, ts, l2, V3 =>
    obtain ⟨m, ea⟩ := sm a Yj
    obtain ⟨n, eb⟩ := sm b (List.mem_cons_of_mem _ Yj)
    by_cases hw : w = "same"
    ·obtain ⟨_, m1, m2⟩ := spotS_some.mp ea
     obtain ⟨_, n1, n2⟩ := spotS_some.mp eb
     have v3 : (mVar 3 : M W) G [] = .ok (.t (.lst [.int (m : Nat), .int (n : Nat)])) [] := by
      refine V3.trans ?_
      rw [show (([a, b].map (za9 ds)).map optN) = [optN (za9 ds a), optN (za9 ds b)] from rfl, ea, eb]
      rfl
     have i0 : (mBin ixW (mVar 3) Yd : M W) G [] = .ok (.t Yid) [] := binP v3 rfl zes
     have i1 : (mBin ixW (mVar 3) Yg : M W) G [] = .ok Yau [] := binP v3 rfl ev_ixl1
     have ge : (zae asB Yeb : M Bool) G [] = .ok (decide (n ≤ m)) [] := za8 (binP i0 i1 (by
      rw [iGe_ii]
      have : decide (((n : Nat) : Int) ≤ (m : Nat)) = decide (n ≤ m) := by rw [decide_eq_decide]; omega
      rw [this]))
     rw [decide_eq_true hw] at ts
     refine zam (zaw (b := false) ((andE te fun _ => l1).trans (by rw [show decide ([a, b].length = 1) = false from rfl, Bool.and_false])) Yhd fun _ => za3 (zax ?_))
     refine zam (zaw (orE (a := false) ts fun _ => orE (a := false) l2 fun _ => ge) (fun h => zay (vc_c (zd7 ⟨_, rfl, ?_, rfl⟩))) fun h => za3 (zax ?_))
     ·have : ¬ (m < n ∧ (ds.getD m ("", "")).2 = (ds.getD n ("", "")).2) := fun z => by
       simp at h
       omega
      simp only [zc7, hw, if_true, ea, eb, if_neg this]
      rfl
     ·have lt : m < n := by simp at h; omega
      have tq : (zae asB Ydg : M Bool) G [] = .ok (decide ((ds.getD m ("", "")).2 = (ds.getD n ("", "")).2)) [] :=
       za8 (binP (binP (binP (a := .t Ycc) rfl i0 (ixd m1)) rfl ev_ixt1) (binP (binP (a := .t Ycc) rfl i1 (ixd n1)) rfl ev_ixt1) Ybg)
      refine zay (zaw tq (fun c => zct (zak (vc_c (zak (Wp.of i0 (zak (Wp.of i1 (zbb (zew (ts := [.str "same", .int (m : Nat), .int (n : Nat)]) rfl Yaj ⟨_, rfl, ?_, rfl⟩))))))))) fun c => vc_c ⟨_, rfl, ?_, rfl⟩)
      ·have : m < n ∧ (ds.getD m ("", "")).2 = (ds.getD n ("", "")).2 := ⟨lt, of_decide_eq_true c⟩
       simp only [zc7, hw, if_true, ea, eb, if_pos this]
       rfl
      ·have : ¬ (m < n ∧ (ds.getD m ("", "")).2 = (ds.getD n ("", "")).2) := fun z => of_decide_eq_false c z.2
       simp only [zc7, hw, if_true, ea, eb, if_neg this]
       rfl
    ·exact bad Y4 (by simp [hw]) (by simp [zc7, hw]) _
theorem test_V (h : plnT v = true) (hl : ∀ x, v = .str x → x.length ≤ 1000000) (dl : ds.length ≤ 1000) : F_test_in [.t v, .t Ycc] hp = .ok (.t (optC (chkV ds v))) hp := by
 by_cases st : strT v = true
 ·obtain ⟨s, rfl⟩ : ∃ s, v = .str s := by
   cases v <;> first | exact ⟨_, rfl⟩ | (simp [strT] at st)
  exact test_S (hl s rfl) dl
 ·refine wpV ?_
  let E : IS := [some (.t v), some (.t Ycc), none, none, none]
  refine zdc (ts := [v, .tup Yh]) (eta := E) rfl rfl ?_
  unfold B_test_in
  have u1 : (mNot Y1 : M Bool) E [] = .ok (!strT v) [] := notE (by
   rw [zdd, show mApp (oIsi zez) (zab (mVar 0) (zab (mC (.ty "str")) (mNil))) E [] = oIsi zez [.t v, .t (.ty "str")] [] from rfl, isi_str h]
   rfl)
  refine zam (zaw u1 (fun c => zay (vc_c (zd7 ⟨_, rfl, ?_, rfl⟩))) fun c => by rw [Bool.eq_false_iff.mpr st] at c; cases c)
  cases v <;> first | rfl | (simp [strT] at st)
end
section
open TL
variable {hp : IH} {ds : List Deed} {ts : List T} {v : T}
def allC (ds : List Deed) : List T → Option (List Chk)
 | [] => some []
 | t :: r => match chkV ds t, allC ds r with
  | some c, some cs => some (c :: cs)
  | _, _ => none
def zei (ds : List Deed) (ts : List T) : Option (List Chk) := match allC ds ts with
 | some cs => if cs.Nodup then some cs else none
 | none => none
def csT : Option (List Chk) → T
 | some cs => .tup Ycx
 | none => .non
theorem allC_some : ∀ {ts : List T} {cs : List Chk}, allC ds ts = some cs → ts = cs.map (fun c => T.str (zbe c)) ∧ ∀ c ∈ cs, chkOk ds c
 | [], cs, h => by
  simp only [allC, Option.some.injEq] at h
  subst h
  exact ⟨rfl, by simp⟩
 | t :: r, cs, h => by
  unfold allC at h
  split at h
  ·rename_i c cs' h1 h2
   cases h
   obtain ⟨e, ok⟩ := allC_some h2
   cases t with
   | str s =>
    obtain ⟨e1, e2⟩ := chkS_some (show chkS ds s = some c from h1)
    refine ⟨by rw [List.map_cons, ← e, e1], fun x hx => ?_⟩
    rcases List.mem_cons.mp hx with rfl | hx
    ·exact e2
    ·exact ok x hx
   | _ => cases h1
  ·cases h
theorem allC_tx : ∀ {cs : List Chk}, (∀ c ∈ cs, chkOk ds c) → allC ds ((cs.map zbe).map T.str) = some cs
 | [], _ => rfl
 | c :: r, h => by
  have e1 := chkTx_S (h c Yj)
  have e2 := allC_tx (cs := r) fun x hx => h x Ybu
  rw [List.map_cons, List.map_cons]
  unfold allC
  rw [e2, show chkV ds (.str (zbe c)) = some c from e1]
theorem allC_found : ∀ {ts : List T}, (∃ cs, allC ds ts = some cs ∧ ts.map (fun t => optC (chkV ds t)) = cs.map chkT) ∨ (allC ds ts = none ∧ ∃ t ∈ ts, chkV ds t = none)
 | [] => .inl ⟨[], rfl, rfl⟩
 | t :: r => by
  cases e : chkV ds t with
  | none =>
   refine .inr ⟨?_, t, List.mem_cons_self .., e⟩
   simp only [allC, e]
  | some d =>
   rcases allC_found (ts := r) with ⟨cs, h1, h2⟩ | ⟨h1, u, hu, h2⟩
   ·exact .inl ⟨d :: cs, by simp only [allC, e, h1], by rw [List.map_cons, List.map_cons, h2, e]; rfl⟩
   ·exact .inr ⟨by simp only [allC, e, h1], u, List.mem_cons_of_mem _ hu, h2⟩
theorem optC_fit {ds : List Deed} : ∀ ts : List T, fitL (ts.map fun t => optC (chkV ds t)) 60 = true
 | [] => rfl
 | t :: r => by
  simp only [List.map_cons, fitL, optC_fit r, Bool.and_true]
  cases chkV ds t with
  | none => rfl
  | some c => cases c <;> rfl
theorem onceT_lt : ∀ (ks acc : List (List Key)), acc.Nodup → ¬ (acc ++ ks).Nodup → (ks.foldl Ybt acc).length < acc.length + ks.length
 | [], acc, a, n => absurd (by rw [List.append_nil]; exact a) n
 | k :: ks, acc, a, n => by
  rw [List.foldl_cons]
  by_cases h : memT k acc = true
  ·rw [if_pos h]
   have := onceT_le ks acc
   rw [List.length_cons]
   omega
  ·rw [if_neg h]
   have hk : k ∉ acc := fun m => h (memT_iff.mpr m)
   have := onceT_lt ks (acc ++ [k]) (by
    rw [List.nodup_append]
    exact ⟨a, by simp, fun x hx y hy e => by rw [List.mem_singleton.mp hy] at e; exact hk (e ▸ hx)⟩) (by rw [List.append_assoc]; exact n)
   rw [List.length_append, List.length_singleton] at this
   rw [List.length_cons]
   omega
theorem lensetT_iff {F : M W} {eta : IS} {h1 : IH} {cs : List Chk} (h : F eta hp = .ok Yi4 h1) (hl : cs.length ≤ 63) : ∃ n : Nat, mLenSetGr F eta hp = .ok Yau h1 ∧ (n = cs.length ↔ cs.Nodup) := by
 refine ⟨(ze7 (cs.map chkK)).length, ?_, ?_⟩
 ·unfold mLenSetGr
  rw [h, zaf]
  simp only [tups_chk, List.length_map, hl, if_true]
 ·have inj : (cs.map chkK).Nodup ↔ cs.Nodup := ⟨fun z => (List.pairwise_map.mp z).imp fun h e => h (by rw [e]), fun z => List.Pairwise.map _ (fun a b h e => h (chkK_inj e)) z⟩
  constructor
  ·intro e
   refine inj.mp (Classical.byContradiction fun n => ?_)
   have := onceT_lt (cs.map chkK) [] List.nodup_nil (by simpa using n)
   simp only [List.length_nil, List.length_map, Nat.zero_add] at this
   unfold ze7 at e
   omega
  ·intro nd
   unfold ze7
   rw [onceT_nd _ [] (by simpa using inj.mpr nd), List.nil_append, List.length_map]
theorem tests_L {b : Bool} (hs : ∀ t ∈ ts, StepOk t) (hl : ts.length ≤ 1000) (h63 : ∀ cs, allC ds ts = some cs → ts.length ≤ 63) (dl : ds.length ≤ 1000) : zcp [.t Yhi, .t Ycc] hp = .ok (.t (csT (zei ds ts))) hp := by
 refine wpV ?_
 let D : Option W := some (.t Ycc)
 let E : Option W → Option W → IS := fun w2 w3 => [some (.t Yhi), D, w2, w3]
 refine zdc (ts := [sqT b ts, .tup Yh]) (eta := E none none) rfl rfl ?_
 unfold B_tests_in
 have u1 : (mNot Ydq : M Bool) (E none none) [] = .ok false [] := notE (a := true) (by rw [zdd, zar (ws := [.t Yhi]) rfl seq_isq]; rfl)
 refine zam (zaw u1 Ybp fun _ => za3 (zax ?_))
 let Fd : List T := ts.map fun t => optC (chkV ds t)
 have c1 : zbq zas Ygp (gN 3) mYes zc4 [3] (E none none) [] = .ok Ycp [] := by
  refine wpV (zeu (vc_sq (za1 rfl (Wp.of sqI_sq ⟨by rw [List.length_map]; omega, ?_⟩))))
  refine vc_mapA (G := gN 3) (E := zc4) (src := fun t : T => W.t t) (g := fun t => optC (chkV ds t)) ts (fun t ht => ⟨E none (some (.t t)), rfl, ?_⟩) (zd8 Yab ⟨rfl, rfl⟩)
  exact zar (ws := [.t t, .t Ycc]) rfl (test_V (hs t ht).p (hs t ht).l dl)
 refine zam (zbi (Wp.of c1 (zax ?_)))
 let G : IS := E (some Ycp) none
 show Wp ((mRet _ : M Fl) G []) _
 have ni : inW false Ybh Ycp [] = .ok (.t (.bl (Fd.any fun y => Mir.eqT y .non))) [] := by
  have e2 : (items [] Ycp).bind allT = some Fd := allT_ts Fd
  unfold inW
  simp only [show asT [] Ybh = some .non from rfl, e2, show fit .non 60 = true from rfl, show fitL Fd 60 = true from optC_fit ts, and_self, if_true]
  rfl
 have an : (Fd.any fun y => Mir.eqT y .non) = ts.any fun t => (chkV ds t).isNone := by
  simp only [Fd, List.any_map]
  congr 1
  funext t
  show Mir.eqT (optC (chkV ds t)) .non = _
  cases chkV ds t with
  | none => rfl
  | some c => cases c <;> rfl
 have v1 : (zae asB Yf5 : M Bool) G [] = .ok (ts.any fun t => (chkV ds t).isNone) [] := by
  rw [← an]
  exact za8 (binP rfl rfl ni)
 rcases allC_found (ds := ds) (ts := ts) with ⟨cs, h1, h2⟩ | ⟨h1, t, ht, h2⟩
 ·have nn : (ts.any fun t => (chkV ds t).isNone) = false := by
   rw [← an, show Fd = cs.map chkT from h2, List.any_map]
   exact List.any_eq_false.mpr fun d _ => by show ¬ Mir.eqT (chkT d) .non = true; cases d <;> simp [chkT, Mir.eqT]
  rw [nn] at v1
  have cl : cs.length ≤ 63 := by
   have := congrArg List.length h2
   rw [List.length_map, List.length_map] at this
   have := h63 cs h1
   omega
  have vv : (mVar 2 : M W) G [] = .ok Yi4 [] := by
   rw [← h2]
   rfl
  obtain ⟨n, en, in_⟩ := lensetT_iff (F := mVar 2) (eta := G) (hp := []) (h1 := []) (cs := cs) vv cl
  have v2 : (zae asB (mBin Yv (mLenSetGr (mVar 2)) (mApp oLen Yat)) : M Bool) G [] = .ok (!decide (cs.Nodup)) [] := by
   refine za8 (binP en (zcn (a := .t (.lst Ycx)) vv Yap) (ev_eqi.trans ?_))
   have : decide (((n : Nat) : Int) = (cs.length : Nat)) = decide cs.Nodup := by rw [decide_eq_decide, ← in_]; omega
   simp only [if_true, this]
  have e : zei ds ts = if cs.Nodup then some cs else none := by
   unfold zei
   rw [h1]
  rw [e]
  refine zay (zaw (orE v1 fun _ => v2) (fun c => vc_c ⟨_, rfl, ?_, rfl⟩) fun c => ?_)
  ·rw [if_neg Yg1]
   rfl
  ·rw [if_pos Yg1]
   exact zct (zak (Wp.of vv (zbb (Wp.of (oTup_sq (b := false)) ⟨_, rfl, rfl, rfl⟩))))
 ·have nn : (ts.any fun t => (chkV ds t).isNone) = true := List.any_eq_true.mpr ⟨t, ht, by rw [h2]; rfl⟩
  rw [nn] at v1
  have e : zei ds ts = none := by
   unfold zei
   rw [h1]
  rw [e]
  exact zay (zaw (b := true) (orE (a := true) (b := true) v1 fun z => by cases z) (fun c => vc_c ⟨_, rfl, rfl, rfl⟩) fun c => by cases c)
theorem tests_no (h : plnT v = true) (hn : seqB v = false) : zcp [.t v, .t Ycc] hp = .ok Ybh hp := by
 refine wpV ?_
 refine zdc (ts := [v, .tup Yh]) (eta := [some (.t v), some (.t Ycc), none, none]) rfl rfl ?_
 unfold B_tests_in
 have u1 : (mNot Ydq : M Bool) [some (.t v), some (.t Ycc), none, none] [] = .ok true [] := notE (a := false) (by rw [zdd, zar (ws := [.t v]) rfl (isseq_T h), hn]; rfl)
 exact zam Ygv
end
section
open TL
variable {hp : IH}
structure RKG (r : RP) : Prop where
 k : ROk r.1 r.2.1
 l : r.2.1.length ≤ 1000
 n : r.2.2.length ≤ 63
 c : ∀ c ∈ r.2.2, chkOk r.2.1 c
 nd : r.2.2.Nodup
theorem num_lenG {i : Nat} (h : i < 10000) : (numS i).length ≤ 4 := by
 unfold numS
 rw [len_tl, tl_num]
 exact numL_len (k := 4) Yb h
theorem num_min {i : Nat} : 1 ≤ (numS i).length := by
 unfold numS
 rw [len_tl, tl_num]
 exact List.length_pos_iff.mpr (numL_ne i)
theorem chkTx_lenG {c : Chk} {ds : List Deed} (h : chkOk ds c) (h9 : ds.length ≤ 1000) : (zbe c).length ≤ 14 := by
 have l1 : ("same" : Str).length = 4 := by decide +kernel
 have l2 : ("even" : Str).length = 4 := by decide +kernel
 cases c with
 | same i j =>
  obtain ⟨h1, h2, _⟩ := h
  have a := num_lenG (i := i) Yb
  have b := num_lenG (i := j) Yb
  simp only [zbe, chkP, za7, zbz, zaj, l1, zea]
  omega
 | even i =>
  obtain ⟨h1, _⟩ := h
  have a := num_lenG (i := i) Yb
  simp only [zbe, chkP, za7, zbz, zaj, l2, zea]
  omega
theorem chkTx_min {c : Chk} : 6 ≤ (zbe c).length := by
 have l1 : ("same" : Str).length = 4 := by decide +kernel
 have l2 : ("even" : Str).length = 4 := by decide +kernel
 cases c with
 | same i j =>
  have a := num_min (i := i)
  simp only [zbe, chkP, za7, zbz, zaj, l1, zea]
  omega
 | even i =>
  have a := num_min (i := i)
  simp only [zbe, chkP, za7, zbz, zaj, l2, zea]
  omega
theorem join_low {y : Str} {k : Nat} : ∀ {ps : List Str}, (∀ p ∈ ps, k ≤ p.length) → ps.length * (k + y.length) ≤ (Txt.join y ps).length + y.length
 | [], _ => by simp
 | [a], h => by
  have := h a Yj
  rw [zbz, List.length_singleton]
  omega
 | a :: b :: r, h => by
  have h1 := h a Yj
  have := join_low (y := y) (ps := b :: r) fun p hp => h p (List.mem_cons_of_mem _ hp)
  rw [za7, zaj, zaj, List.length_cons, Nat.succ_mul]
  omega
theorem rstr_G {r : RP} (R : RKG r) : zbp [.t (rdT r)] hp = .ok (.t (.str (lnR r))) hp := by
 have sl := steps_len R.k.ok
 have hl := R.l
 have nl := R.k.n.ln
 have cn := R.n
 have il : (" if " : Str).length = 4 := by decide +kernel
 have j := joinS (a := ", ") (ys := r.2.1.map dTx) (k := 15) (hp := []) true (fun y hy => by
  obtain ⟨d, hd, rfl⟩ := List.mem_map.mp hy
  exact dTx_len (R.k.ok d hd).w (R.k.ok d hd).n) Yet
 have ck : ∀ y ∈ r.2.2.map zbe, y.length ≤ 14 := fun y hy => by
  obtain ⟨c, hc, rfl⟩ := List.mem_map.mp hy
  exact chkTx_lenG (R.c c hc) R.l
 have j2 := joinS (a := ", ") (ys := r.2.2.map zbe) (k := 14) (hp := []) true ck Yet
 have jl := join_len (s := ", ") ck
 rw [List.length_map, ze0] at jl
 have st : fldW ["Reader"] "steps" (.t (rdT r)) ([] : IH) = .ok (.t (sqT true ((r.2.1.map dTx).map T.str))) [] := by rw [List.map_map]; rfl
 have sc : fldW ["Reader"] "checks" (.t (rdT r)) ([] : IH) = .ok (.t (sqT true Yhe)) [] := rfl
 have nm : fldW ["Reader"] "name" (.t (rdT r)) ([] : IH) = .ok (.t (.str r.1)) [] := rfl
 let E : IS := [some (.t (rdT r)), some Yi6, some (.t (.str Ycy))]
 suffices h : Wp (zbp [.t (rdT r)] hp) fun w h => w = .t (.str (lnR r)) ∧ h = hp by
  obtain ⟨w, h1, e, rfl, rfl⟩ := h.ex
  exact e
 refine zdc (ts := [rdT r]) (eta := [some (.t (rdT r)), none, none]) rfl rfl ?_
 unfold B_Reader_str
 have s1 : (mSM zeq Ycb (mFld ["Reader"] "steps" (mVar 0)) : M W) [some (.t (rdT r)), none, none] [] = .ok Yi6 [] := ze5 (a := ", ") (h1 := []) rfl (fld_ok (w := .t (rdT r)) rfl st) j
 have s2 : (mSM zeq Ycb Yfb : M W) [some (.t (rdT r)), none, none] [] = .ok (.t (.str Ycy)) [] := ze5 (a := ", ") (h1 := []) rfl (fld_ok (w := .t (rdT r)) rfl sc) j2
 refine zam (vc_par2 (zak (Wp.of s1 (zak (Wp.of s2 (zbb ⟨_, _, rfl, zax ?_⟩))))))
 show Wp ((mSeq _ _ : M Fl) E []) _
 have f0 : (mUn oFmt Yi3 : M W) E [] = .ok (.t (.str r.1)) [] := by
  show ((mFld ["Reader"] "name" (mVar 0) : M W) _ []).bind _ = _
  rw [fld_ok (w := .t (rdT r)) rfl nm, zaf]
  exact fmt_s Yb
 have f1 : (mUn oFmt (mVar 1) : M W) E [] = .ok Yi6 [] := fmt_v rfl Yb
 have f2 : (mUn oFmt (mVar 2) : M W) E [] = .ok (.t (.str Ycy)) [] := fmt_v rfl Yb
 have t0 : (zae asB (mBin Ys (mApp oLen (zab Yfb (mNil))) Yd) : M Bool) E [] = .ok (decide (((r.2.2.length : Nat) : Int) = 0)) [] := by
  refine za8 (binP (a := .t (.int (r.2.2.length : Nat))) (zcn (fld_ok (w := .t (rdT r)) rfl sc) (by rw [show sqT true Yhe = .tup Yhe from rfl, oLen_t, List.length_map, List.length_map])) rfl ?_)
  exact ev_eqi
 refine zam (zaw t0 (fun c => ?_) fun c => ?_)
 ·have c : r.2.2 = [] := List.length_eq_zero_iff.mp (by have := of_decide_eq_true c; omega)
  have e : Str.empty ++ ("reader " : Str) ++ r.1 ++ (": " : Str) ++ zaz r.2.1 = lnR r := by
   unfold lnR
   rw [em_app, if_pos c]
   rfl
  have q := jn_ok (eta := E) (hp := []) (z := lnR r) (jc_ok (Fa := mC Ycw) (y := "reader ") rfl (by rw [zaj, em_len, zde]; omega) (jc_ok f0 (by rw [zaj, zaj, em_len, zde]; omega) (jc_ok (Fa := mC (.str ": ")) (y := ": ") rfl (by rw [zaj, zaj, zaj, em_len, zde, cs_len]; omega) (jc_ok f1 (by rw [zaj, zaj, zaj, zaj, em_len, zde, cs_len]; omega) (J := mJNil) (by rw [e]; rfl)))))
  exact zay (Wp.of q (zd7 ⟨_, rfl, rfl, rfl⟩))
 ·have c : r.2.2 ≠ [] := fun e => by rw [e] at c; simp at c
  have e : Str.empty ++ ("reader " : Str) ++ r.1 ++ (": " : Str) ++ zaz r.2.1 ++ (" if " : Str) ++ Txt.join ", " (r.2.2.map zbe) = lnR r := by
   unfold lnR
   rw [em_app, if_neg c]
   unfold rdrTxC
   refine str_eq ?_
   simp only [tl_append, List.append_assoc]
  refine za3 (zax ?_)
  have q := jn_ok (eta := E) (hp := []) (z := lnR r) (jc_ok (Fa := mC Ycw) (y := "reader ") rfl (by rw [zaj, em_len, zde]; omega) (jc_ok f0 (by rw [zaj, zaj, em_len, zde]; omega) (jc_ok (Fa := mC (.str ": ")) (y := ": ") rfl (by rw [zaj, zaj, zaj, em_len, zde, cs_len]; omega) (jc_ok f1 (by rw [zaj, zaj, zaj, zaj, em_len, zde, cs_len]; omega) (jc_ok (Fa := mC (.str " if ")) (y := " if ") rfl (by rw [zaj, zaj, zaj, zaj, zaj, em_len, zde, cs_len, il]; omega) (jc_ok f2 (by rw [zaj, zaj, zaj, zaj, zaj, zaj, em_len, zde, cs_len, il]; omega) (J := mJNil) (by rw [e]; rfl)))))))
  exact zay (Wp.of q ⟨_, rfl, rfl, rfl⟩)
theorem rstrOG {r : RP} (R : RKG r) : oStrO [("Reader", zbp)] [.t (rdT r)] hp = .ok (.t (.str (lnR r))) hp := by
 obtain ⟨fs, i⟩ : ∃ fs, insOf hp (.t (rdT r)) = some (("Reader" : Str), fs) := ⟨_, rfl⟩
 have f : ([(("Reader" : Str), zbp)] : List Yiu).find? (fun p => decide (p.1 = ("Reader" : Str))) = some (("Reader" : Str), zbp) := by simp
 have k : zbp [.t (rdT r)] hp = .ok (.t (.str (lnR r))) hp := rstr_G R
 simp only [oStrO, i, f, k, zc3, zaf]
end
section
variable {hp : IH} {nm st v : T} {s : Str} {i : Nat} {ts : List T} {ds : List Deed} {n : Str}
structure StOk (st : T) : Prop where
 p : plnT st = true
 s : ∀ ts, (st = .lst ts ∨ st = .tup ts) → (∀ t ∈ ts, StepOk t) ∧ ts.length ≤ 1000
 n : ∀ ts, st ≠ .scr ts ∧ st ≠ .pr ts
def eText : Ex := ⟨"InvalidText", [("at", .t (.int 0))]⟩
theorem st_split {r : Str} (hl : r.length ≤ 1900) : StOk (.lst ((Txt.split r ", ").map T.str)) where
 p := rfl
 s := fun ts e => by
  have e : ts = (Txt.split r ", ").map T.str := by rcases e with e | e <;> cases e; rfl
  subst e
  refine ⟨fun t ht => ?_, ?_⟩
  ·obtain ⟨x, hx, rfl⟩ := List.mem_map.mp ht
   exact ⟨rfl, fun y hy => by cases hy; have := zfg hx; omega⟩
  ·have := zd9 (a := r) (y := ", ")
   rw [ze0] at this
   rw [List.length_map]
   omega
 n := fun ts => ⟨(fun e => by cases e), (fun e => by cases e)⟩
end
section
open TL
variable {hp : IH} {nm st ck v : T} {s : Str} {i : Nat} {ts : List T} {ds : List Deed} {n : Str}
/-- the deeds that any value tells -/
def kdR (st : T) : Option (List Deed) := match st with
 | .lst ts => zeo "read" ["look"] ts
 | .tup ts => zeo "read" ["look"] ts
 | _ => none
def hasR (ds : List Deed) : Bool := decide (("read" : Str) ∈ ds.map (·.1))
/-- the checks that any value tells -/
def ckR (ds : List Deed) (ck : T) : Option (List Chk) := match ck with
 | .lst ts => zei ds ts
 | .tup ts => zei ds ts
 | _ => none
structure CkOk (ds : List Deed) (ck : T) : Prop extends StOk ck where
 m : ∀ ts, (ck = .lst ts ∨ ck = .tup ts) → ∀ cs, allC ds ts = some cs → ts.length ≤ 63
theorem sk_addR (h : zeo "read" ["look"] ts = some ds) : ts = ds.map (fun d => T.str (dTx d)) ∧ (∀ d ∈ ds, DOk wR d) ∧ (wrN "read" ds).Nodup := by
 unfold zeo at h
 split at h
 ·rename_i ds' h1
  split at h
  ·rename_i nd
   cases h
   obtain ⟨e, ok⟩ := allD_some h1
   refine ⟨e, fun d hd => ?_, nd⟩
   obtain ⟨a, b⟩ := ok d hd
   refine ⟨a, ?_, nam_of b⟩
   simp only [List.mem_cons, List.not_mem_nil, or_false] at a
   rcases a with a | a <;> rw [a]
   ·exact wrd_read
   ·exact wrd_look
  ·cases h
 ·cases h
def eRdr (w : Str) : Ex := ⟨"InvalidReader", [("word", .t (.str w))]⟩
theorem deeds_stR (h : StOk st) : zca [.t st, .t (.tup (wR.map T.str))] hp = .ok (.t (dsT (kdR st))) hp := by
 cases st with
 | lst ts => exact deeds_L (b := false) (h.s ts Ygm).1 (h.s ts Ygm).2
 | tup ts => exact deeds_L (b := true) (h.s ts (.inr rfl)).1 (h.s ts (.inr rfl)).2
 | scr ts => exact absurd rfl (h.n ts).1
 | pr ts => exact absurd rfl (h.n ts).2
 | _ => exact deeds_no h.p rfl
theorem tests_ck (h : CkOk ds ck) (dl : ds.length ≤ 1000) : zcp [.t ck, .t Ycc] hp = .ok (.t (csT (ckR ds ck))) hp := by
 cases ck with
 | lst ts => exact tests_L (b := false) (h.s ts Ygm).1 (h.s ts Ygm).2 (h.m ts Ygm) dl
 | tup ts => exact tests_L (b := true) (h.s ts (.inr rfl)).1 (h.s ts (.inr rfl)).2 (h.m ts (.inr rfl)) dl
 | scr ts => exact absurd rfl (h.n ts).1
 | pr ts => exact absurd rfl (h.n ts).2
 | _ => exact tests_no h.p rfl
/-- which word is refused, if any -/
def rdrW (nm st ck : T) : Option Str := if nmT nm = true then (match kdR st with | none => some "steps" | some ds => if hasR ds = true then (match ckR ds ck with | none => some "checks" | some _ => none) else some "steps") else some "name"
theorem kdR_len (h : StOk st) (e : kdR st = some ds) : ds.length ≤ 1000 := by
 cases st with
 | lst ts =>
  have := congrArg List.length (sk_addR (ts := ts) e).1
  rw [List.length_map] at this
  have := (h.s ts Ygm).2
  omega
 | tup ts =>
  have := congrArg List.length (sk_addR (ts := ts) e).1
  rw [List.length_map] at this
  have := (h.s ts (.inr rfl)).2
  omega
 | _ => cases e
theorem rinit_bad {w : Str} (h : plnT nm = true) (hl : ∀ x, nm = .str x → x.length ≤ 1000000) (hs : StOk st) (hc : ∀ ds, kdR st = some ds → CkOk ds ck) (hw : rdrW nm st ck = some w) : za4 [.r i, .t nm, .t st, .t ck] hp = .er (eRdr w) [] hp := by
 have : Wq (za4 [.r i, .t nm, .t st, .t ck] hp) (fun _ _ => False) fun e eta h => e = eRdr w ∧ eta = [] ∧ h = hp := by
  let E : Option W → Option W → IS := fun w4 w5 => [some (.r i), some (.t nm), some (.t st), some (.t ck), w4, w5, none, none]
  refine wq_fnX (eta := E none none) rfl rfl ?_
  unfold ze9
  have u : (mNot (zae truW (zaq zbw [] Yq)) : M Bool) (E none none) hp = .ok (!nmT nm) hp := notE (by rw [zdd, zar (ws := [.t nm]) rfl (isname_T h fun x e => Nat.le_trans (hl x e) Ybz)]; rfl)
  unfold rdrW at hw
  by_cases hn : nmT nm = true
  ·rw [if_pos hn] at hw
   rw [hn] at u
   refine wq_seq (wq_if u Ybp fun _ => Wq.eqOk rfl (wq_nx ?_))
   have c : (zaq zca [] Ygk : M W) (E none none) hp = .ok (.t (dsT (kdR st))) hp := zar (ws := [.t st, .t (.tup (wR.map T.str))]) rfl (deeds_stR hs)
   refine wq_seq (wq_set (Wq.eqOk c (wq_nx ?_)))
   cases hk : kdR st with
   | none =>
    rw [hk] at hw
    cases hw
    exact wq_seq (wq_if (b := true) (orE (a := true) (b := true) rfl fun z => by cases z) Ydh fun z => by cases z)
   | some ds =>
    rw [hk] at hw
    simp only at hw
    have dl := kdR_len hs hk
    let F : IS := E (some (.t Ycc)) none
    show Wq ((mSeq _ _ : M Fl) F hp) _ _
    have c2 : zbq zas (mSq (mVar 4)) (gT 2 Ygl) mYes zba [6, 7] F hp = .ok (.t (.lst ((ds.map (·.1)).map T.str))) hp := by
     have q := comp_g (G := gT 2 Ygl) (U := mYes) (E := zba) (eta := F) (hp := hp) (src := fun d : Deed => W.t (dTr d))
      (loc := fun d => [some (.r i), some (.t nm), some (.t st), some (.t ck), some (.t Ycc), none, some (.t (.str d.1)), some (.t (.str d.2))]) (p := fun _ => true) (g := fun d => .str d.1) ds Ya3 Ya3 (fun _ _ _ => rfl)
     rw [zd4] at q
     refine zdx (ws := (ds.map dTr).map W.t) (ys := (ds.map fun d => T.str d.1).map W.t) (h1 := hp) (h2 := hp) rfl Yan ?_ ?_
     ·rw [List.map_map]
      exact q
     ·rw [lst_ok Yan, List.map_map]
      rfl
    have t2 : zae asB Ya1 F hp = .ok (!hasR ds) hp := za8 (binP rfl c2 (by rw [in_lstrs]; rfl))
    have o := orE (a := false) (show zae asB (mBin (isN false) (mVar 4) Yag) F hp = .ok false hp from rfl) fun _ => t2
    by_cases hr : hasR ds = true
    ·rw [if_pos hr] at hw
     rw [hr] at o
     refine wq_seq (wq_if o Ybp fun _ => Wq.eqOk rfl (wq_nx ?_))
     have c3 : (zaq zcp [] (zab (mVar 3) Ybb) : M W) F hp = .ok (.t (csT (ckR ds ck))) hp := zar (ws := [.t ck, .t Ycc]) rfl (tests_ck (hc ds hk) dl)
     refine wq_seq (wq_set (Wq.eqOk c3 (wq_nx ?_)))
     cases hx : ckR ds ck with
     | some cs => rw [hx] at hw; cases hw
     | none =>
      rw [hx] at hw
      cases hw
      exact wq_seq (wq_if (b := true) rfl Ydh fun z => by cases z)
    ·rw [if_neg hr] at hw
     cases hw
     rw [Bool.eq_false_iff.mpr hr] at o
     exact wq_seq (wq_if o Ydh fun z => by cases z)
  ·rw [if_neg hn] at hw
   cases hw
   rw [Bool.eq_false_iff.mpr hn] at u
   exact wq_seq (wq_if u Ydh fun z => by cases z)
 rcases this.cases with ⟨_, _, _, z⟩ | ⟨e, eta, h, x, rfl, rfl, rfl⟩
 ·exact z.elim
 ·exact x
def chkL (p : Str × Str × Str) : List Str := if p.2.1 = "" then [] else Txt.split p.2.2 ", "
/-- the reader with a text -/
def zfh (s : Str) : Option RP := if nmB (zbf s "reader ").1 = true then (kdR (.lst ((Txt.split (Txt.partition (zbf s "reader ").2 " if ").1 ", ").map T.str))).bind fun ds => if hasR ds = true then (zei ds ((chkL Ydn).map T.str)).map fun cs => ((zbf s "reader ").1, ds, cs) else none else none
theorem ck_split {b : Bool} {l : List Str} {r : Str} (e : l = [] ∨ l = Txt.split r ", ") (hl : r.length ≤ 500) : CkOk ds (sqT b Yew) := by
 have rows : ∀ ts, ts = l.map T.str → (∀ t ∈ ts, StepOk t) ∧ ts.length ≤ 1000 ∧ ∀ cs, allC ds ts = some cs → ts.length ≤ 63 := fun ts et => by
  subst et
  rcases e with rfl | rfl
  ·exact ⟨Y4, Y4, Y4⟩
  ·have sn := zd9 (a := r) (y := ", ")
   rw [ze0] at sn
   refine ⟨fun t ht => ?_, by rw [List.length_map]; omega, fun cs h => ?_⟩
   ·obtain ⟨x, hx, rfl⟩ := List.mem_map.mp ht
    exact ⟨rfl, fun y hy => by cases hy; have := zfg hx; omega⟩
   ·have e1 := (allC_some h).1
    have e2 : Txt.split r ", " = cs.map zbe := by
     have : (Txt.split r ", ").map T.str = (cs.map zbe).map T.str := by rw [e1, List.map_map]; rfl
     exact List.map_inj_right (fun a b e => by cases e; rfl) |>.mp this
    have low := join_low (y := ", ") (k := 6) (ps := cs.map zbe) fun p hp => by
     obtain ⟨c, _, rfl⟩ := List.mem_map.mp hp
     exact chkTx_min
    rw [← e2, zc0, ze0] at low
    rw [List.length_map]
    omega
 have k : ∀ ts, (sqT b Yew = .lst ts ∨ sqT b Yew = .tup ts) → ts = l.map T.str := fun ts h => by
  cases b <;> rcases h with h | h <;> first | cases h; rfl | cases h
 exact { p := by cases b <;> rfl, s := fun ts h => ⟨(rows ts (k ts h)).1, (rows ts (k ts h)).2.1⟩, n := fun ts => by cases b <;> exact ⟨(fun e => by cases e), (fun e => by cases e)⟩, m := fun ts h => (rows ts (k ts h)).2.2 }
end
section
open TL
variable {hp : IH} {s : Str} {i : Nat} {ts : List T} {ds : List Deed} {n : Str}
theorem named_len {w : Str} : (zbf s w).1.length ≤ s.length ∧ (zbf s w).2.length ≤ s.length := by
 have pl := par_len s ": "
 unfold zbf
 split
 ·rename_i c
  obtain ⟨r0, e⟩ := starts_split c
  simp only
  refine ⟨?_, by omega⟩
  rw [e, cut_fr]
  have := congrArg Str.length e
  rw [zaj] at this
  omega
 ·exact ⟨Nat.zero_le _, Nat.zero_le _⟩
theorem raised {w : Str} {F : IS} {Fs : M (List W)} {nm st ck : T} (a : Fs F hp = .ok [.t nm, .t st, .t ck] hp) (hc : F[0]? = some (some (.t (.cls "Reader")))) (hl : F.length = 8) (h : ∀ (i : Nat) (hp : IH), za4 [.r i, .t nm, .t st, .t ck] hp = .er (eRdr w) [] hp) {X : Prop} (hX : X) :
  Wq ((zfl (hitC "InvalidReader") 7 (mRet (mFrzI (mMakeL 0 "Reader" za4 [] Fs))) zcx : M Fl) F hp) (fun fl h => False) fun e _ _ => X ∧ e = eText := by
 refine wq_tryFrom ?_
 refine wq_ret (wq_frzI (wq_makeL hc (wq_makeX a ?_)))
 exact Wq.eqEr (h _ _) (.inl ⟨rfl, by rw [hl]; exact Nat.le_of_ble_eq_true rfl, Wp.of (a := eText) rfl ⟨hX, rfl⟩⟩)
theorem read_S (hl : s.length ≤ 500) : Wq (zd2 [.t (.cls "Reader"), .t (.str s)] hp) (fun w _ => ∃ r : RP, zfh s = some r ∧ RKG r ∧ w = .t (rdT r)) fun e _ _ => zfh s = none ∧ e = eText := by
 let E : Option W → Option W → Option W → Option W → Option W → IS := fun w2 w3 w4 w5 w6 => [some (.t (.cls "Reader")), some Yci, w2, w3, w4, w5, w6, none]
 refine wq_fnX (eta := E none none none none none) rfl rfl ?_
 unfold B_Reader_read
 obtain ⟨nl, rl⟩ := named_len (s := s) (w := "reader ")
 have nmd := named_S (hp := hp) (s := s) (w := "reader ") Yb Yaj
 unfold zfh
 generalize zbf s "reader " = q at nl rl nmd ⊢
 obtain ⟨n, r⟩ := q
 simp only at nl rl nmd ⊢
 have c0 : (mAsg (zaq zd3 [] (zab (mVar 1) (zab (mC Ycw) (mNil)))) (gA 2 (gsC (gN 2) (gsC (gN 3) gsN))) : M Fl) (E none none none none none) hp = .ok (.nx Ydu) hp := by
  rw [p_asg, zar (ws := [.t (.str s), .t Ycw]) rfl nmd]
  rfl
 refine wq_seq (Wq.eqOk c0 (wq_nx ?_))
 have pl := par_len r " if "
 generalize hp' : Txt.partition r " if " = p at pl ⊢
 obtain ⟨a, j, k⟩ := p
 simp only at pl ⊢
 generalize hRS : (if nmB n = true then (kdR Ycz).bind fun ds => if hasR ds = true then (zei ds Ye2).map fun cs => ((n, ds, cs) : RP) else none else none) = RS
 have c1 : (mAsg (mSM zau (mVar 3) Ygz) Yfg : M Fl) Ydu hp = .ok (.nx (E (some Yhm) (some (.t (.str r))) Yy Yhx Yhy)) hp := by
  have e1 : (mSM zau (mVar 3) Ygz : M W) Ydu hp = .ok (.t (.pr [.str a, .str j, .str k])) hp := ze5 rfl rfl (by
   unfold zau
   simp only
   rw [if_pos ⟨by decide +kernel, by omega⟩, hp'])
  rw [p_asg, e1]
  rfl
 refine wq_seq (Wq.eqOk c1 (wq_nx ?_))
 let F : IS := E (some Yhm) (some (.t (.str r))) Yy Yhx Yhy
 show Wq ((mSeq _ _ : M Fl) F hp) _ _
 have j1 : (zae asB (mBin Yv (mVar 5) Ycg) : M Bool) F hp = .ok (!decide (j = "")) hp := za8 (binP (a := .t (.str j)) rfl rfl Ybg)
 have k1 : (zae asB (mBin Ys (mVar 6) Ycg) : M Bool) F hp = .ok (decide (k = "")) hp := za8 (binP (a := .t (.str k)) rfl rfl Ybg)
 let st : T := .lst ((Txt.split a ", ").map T.str)
 let ckb : Bool := decide (j = "")
 let ck : T := sqT ckb Ye2
 have sOk : StOk st := st_split Yb
 have cOk : ∀ ds, CkOk ds ck := fun ds => ck_split (r := k) (by
  by_cases c : j = ""
  ·exact .inl (if_pos c)
  ·exact .inr (if_neg c)) Yb
 have sp : (mSM zbl (mVar 4) Ycb : M W) F hp = .ok (.t st) hp := ze5 (a := a) rfl rfl Yfd
 have cp : (mIf (zae asB (mBin Yv (mVar 5) Ycg)) (mSM zbl (mVar 6) Ycb) (mApp za2 (mNil)) : M W) F hp = .ok (.t ck) hp := by
  by_cases c : j = ""
  ·rw [decide_eq_true c] at j1
   refine wpV (zaw j1 Ybp fun _ => Wp.of (a := .t (.tup [])) (h := hp) rfl ⟨?_, rfl⟩)
   simp only [ck, ckb, decide_eq_true c, chkL, if_pos c]
   rfl
  ·rw [decide_eq_false c] at j1
   have sk : (mSM zbl (mVar 6) Ycb : M W) F hp = .ok (.t (.lst ((Txt.split k ", ").map T.str))) hp := ze5 (a := k) rfl rfl Yfd
   refine wpV (zaw j1 (fun _ => Wp.of sk ⟨?_, rfl⟩) fun z => by cases z)
   simp only [ck, ckb, decide_eq_false c, chkL, if_neg c]
   rfl
 have args : (zab (mVar 2) Yk : M (List W)) F hp = .ok [.t (.str n), .t st, .t ck] hp := zbn rfl (zbn sp (zbn cp rfl))
 -- no checks behind the word
 by_cases z : (!decide (j = "") && decide (k = "")) = true
 ·have zn : RS = none := by
   rw [← hRS]
   show (if nmB n = true then (kdR st).bind fun ds => if hasR ds = true then (zei ds Ye2).map fun cs => ((n, ds, cs) : RP) else none else none) = none
   simp only [Bool.and_eq_true, Bool.not_eq_true', decide_eq_false_iff_not, decide_eq_true_eq] at z
   have cn : ∀ ds, zei ds Ye2 = none := fun ds => by
    have e : chkL (a, j, k) = [("" : Str)] := by
     show (if j = "" then [] else Txt.split k ", ") = _
     rw [if_neg z.1, z.2, split_e]
    rw [e]
    have e2 : Txt.split ("" : Str) " " = [("" : Str)] := by decide +kernel
    have e3 : chkV ds (.str "") = none := by
     show zc7 ds (Txt.split "" " ") = none
     rw [e2]
     rfl
    unfold zei
    simp only [List.map_cons, List.map_nil, allC, e3]
   split
   ·cases kdR st with
    | none => rfl
    | some ds =>
     rw [Option.bind_some]
     split
     ·rw [cn]; rfl
     ·rfl
   ·rfl
  exact wq_seq (wq_if (andE j1 fun _ => k1) (fun _ => wq_raise rfl ⟨zn, rfl⟩) fun h => by rw [z] at h; cases h)
 refine wq_seq (wq_if (andE j1 fun _ => k1) (fun h => absurd h z) fun _ => Wq.eqOk rfl (wq_nx ?_))
 unfold zdv
 have bad : ∀ w, rdrW (.str n) st ck = some w → RS = none →
   Wq ((zfl (hitC "InvalidReader") 7 (mRet Ye4) zcx : M Fl) F hp)
    (fun fl h => (∃ w, fl = .rt w ∧ (fun (w : W) (_ : IH) => ∃ r : RP, RS = some r ∧ RKG r ∧ w = W.t (rdT r)) w h) ∨ ∃ e, fl = .nx e ∧ (fun (w : W) (_ : IH) => ∃ r : RP, RS = some r ∧ RKG r ∧ w = W.t (rdT r)) (W.t .non) h)
    fun e _ h => (fun e (_ : IS) (_ : IH) => RS = none ∧ e = eText) e [] h := fun w hw hn =>
  (raised args rfl rfl (fun i hp => rinit_bad rfl (fun x e => by cases e; omega) sOk (fun ds _ => cOk ds) hw) hn).mono (fun _ _ z => z.elim) fun _ _ _ h => h
 have ckc : ∀ ds, ckR ds ck = zei ds Ye2 := fun ds => by
  by_cases c : j = "" <;> simp only [ck, ckb, c, decide_true, decide_false] <;> rfl
 by_cases hn : nmB n = true
 ·cases hk : kdR st with
  | none => exact bad "steps" (by unfold rdrW; rw [if_pos Yiv, hk]) (by rw [← hRS, if_pos hn, show kdR Ycz = none from hk]; rfl)
  | some ds =>
   by_cases hr : hasR ds = true
   ·cases hx : zei ds ((chkL (a, j, k)).map T.str) with
    | none => exact bad "checks" (by unfold rdrW; rw [if_pos Yiv, hk]; simp only [if_pos hr, ckc, hx]) (by rw [← hRS, if_pos hn, show kdR Ycz = some ds from hk, Option.bind_some, if_pos hr, hx]; rfl)
    | some cs =>
     have eRS : RS = some (n, ds, cs) := by rw [← hRS, if_pos hn, show kdR Ycz = some ds from hk, Option.bind_some, if_pos hr, hx, Option.map_some]
     obtain ⟨e1, ok, nd⟩ := sk_addR (ts := (Txt.split a ", ").map T.str) hk
     have dl := kdR_len sOk hk
     have R0 : ROk n ds := ⟨nam_of hn, ok, nd, dl, by
      obtain ⟨d, hd, e⟩ := List.mem_map.mp (of_decide_eq_true hr)
      exact ⟨d, hd, e⟩⟩
     have hx0 := hx
     unfold zei at hx
     cases ha : allC ds ((chkL (a, j, k)).map T.str) with
     | none => rw [ha] at hx; cases hx
     | some cs' =>
      rw [ha] at hx
      simp only at hx
      split at hx
      ·rename_i cnd
       cases hx
       obtain ⟨e2, cok⟩ := allC_some ha
       have c63 : cs.length ≤ 63 := by
        have := congrArg List.length e2
        rw [List.length_map, List.length_map] at this
        have m : ((chkL (a, j, k)).map T.str).length ≤ 63 := (ck_split (ds := ds) (b := false) (l := chkL (a, j, k)) (r := k) (by
         by_cases c : j = ""
         ·exact .inl (if_pos c)
         ·exact .inr (if_neg c)) Yb).m _ Ygm _ ha
        rw [List.length_map] at m
        omega
       have R : RKG (n, ds, cs) := ⟨R0, dl, c63, cok, cnd⟩
       have e3 : chkL (a, j, k) = cs.map zbe := by
        have : (chkL (a, j, k)).map T.str = (cs.map zbe).map T.str := by rw [e2, List.map_map]; rfl
        exact List.map_inj_right (fun a b e => by cases e; rfl) |>.mp this
       have args2 : (zab (mVar 2) Yk : M (List W)) F hp = .ok [.t (.str n), .t (sqT false Yaa), .t (sqT ckb ((cs.map zbe).map T.str))] hp := by
        rw [args]
        simp only [st, ck, e1, e3]
        rfl
       have mk := reader_made (i := 0) rfl args2 R0 fun hp => by
        have := tests_ck (hp := hp) (cOk ds) dl
        rw [ckc, hx0] at this
        simp only [ck, e3] at this
        exact this
       have b : (mRet Ye4 : M Fl) F hp = .ok (.rt (.t (rdrG n ds (cs.map zbe) Ycx))) (hp ++ [none]) := by
        rw [p_ret, mk]
        rfl
       exact wq_tryFrom (Wq.eqOk b (.inl ⟨_, rfl, (n, ds, cs), eRS, R, rfl⟩))
      ·cases hx
   ·exact bad "steps" (by unfold rdrW; rw [if_pos Yiv, hk]; simp only [if_neg hr]) (by rw [← hRS, if_pos hn, show kdR Ycz = some ds from hk, Option.bind_some, if_neg hr])
 ·exact bad "name" (by unfold rdrW; rw [if_neg (show ¬ nmT (.str n) = true from hn)]) (by rw [← hRS, if_neg hn])
end
section
open TL
theorem tl_cs : tl (": " : Str) = [58, 32] := by decide +kernel
theorem split_cm {ps : List Str} (h0 : ps ≠ []) (h : ∀ p ∈ ps, 44 ∉ tl p) : Txt.split (Txt.join ", " ps) ", " = ps :=
 split_join (s := 44) (S := [32]) tl_cm Yt h0 h
theorem dTx_no {d : Deed} {c : Nat} (w : Wrd d.1) (n : Nam d.2) (h : c < 97) (h2 : c ≠ 32) : c ∉ tl (dTx d) := by
 unfold dTx
 simp only [tl_append, tl_sp, List.mem_append, List.mem_singleton, w.no h, n.no h, h2, or_self, not_false_eq_true]
theorem split_steps {ds : List Deed} {ws : List Str} (ok : ∀ d ∈ ds, DOk ws d) (h0 : 0 < ds.length) : Txt.split (zaz ds) ", " = ds.map dTx :=
 split_cm (by intro e; rw [List.map_eq_nil_iff] at e; rw [e] at h0; exact absurd h0 Ybz) fun p hp => by
  obtain ⟨d, hd, rfl⟩ := List.mem_map.mp hp
  exact dTx_no (ok d hd).w (ok d hd).n Yb Yb
end
section
open TL
variable {hp : IH} {s : Str} {r : RP}
def hdR (s : Str) : T := if (zfh s).isSome then .str s else .int 0
theorem readS_ok (hl : s.length ≤ 500) (e : zfh s = some r) : RKG r := by
 rcases (read_S (hp := []) hl).cases with ⟨_, _, _, r', e', K, _⟩ | ⟨_, _, _, _, n, _⟩
 ·rw [e] at e'
  cases e'
  exact K
 ·rw [e] at n
  cases n
theorem strs_inj {l m : List Str} (h : l.map T.str = m.map T.str) : l = m := List.map_inj_right (fun a b e => by cases e; rfl) |>.mp h
theorem readS_line (h : zfh s = some r) : s = lnR r := by
 unfold zfh at h
 split at h
 ·rename_i hn
  obtain ⟨ds, h1, h2⟩ := Option.bind_eq_some_iff.mp h
  split at h2
  ·rename_i hr
   obtain ⟨cs, h3, rfl⟩ := Option.map_eq_some_iff.mp h2
   obtain ⟨e1, ok, nd⟩ := sk_addR (ts := (Txt.split (Txt.partition (zbf s "reader ").2 " if ").1 ", ").map T.str) h1
   have es : Txt.split (Txt.partition (zbf s "reader ").2 " if ").1 ", " = ds.map dTx := strs_inj (by rw [e1, List.map_map]; rfl)
   have ea : (Txt.partition (zbf s "reader ").2 " if ").1 = zaz ds := by
    unfold zaz
    rw [← es, zc0]
   have dne : 0 < (zaz ds).length := by
    match ds, hr with
    | d :: r, _ =>
     have dl : 0 < (dTx d).length := by
      unfold dTx
      rw [zaj, zaj, zea]
      omega
     have : (dTx d).length ≤ (zaz (d :: r)).length := join_ge Yj
     omega
   have ec : chkL Ydn = cs.map zbe := by
    unfold zei at h3
    split at h3
    ·rename_i cs' ha
     split at h3
     ·cases h3
      exact strs_inj (by rw [(allC_some ha).1, List.map_map]; rfl)
     ·cases h3
    ·cases h3
   have rest : (zbf s "reader ").2 = if cs = [] then zaz ds else zaz ds ++ " if " ++ Txt.join ", " (cs.map zbe) := by
    have sum := PySem.StrLaws.partition_sum (zbf s "reader ").2 " if "
    rcases PyProof.Rows.partition_whole (zbf s "reader ").2 " if " with ⟨z, _⟩ | ⟨i, z, _⟩
    ·have e2 : chkL Ydn = [] := by rw [z]; exact if_pos rfl
     rw [e2] at ec
     have : cs = [] := List.map_eq_nil_iff.mp ec.symm
     rw [if_pos this, ← ea]
     rw [z]
    ·have j : (Txt.partition (zbf s "reader ").2 " if ").2.1 = " if " := by rw [z]
     have ne : ¬ (Txt.partition (zbf s "reader ").2 " if ").2.1 = "" := by rw [j]; decide +kernel
     have e2 : chkL Ydn = Txt.split (Txt.partition (zbf s "reader ").2 " if ").2.2 ", " := if_neg ne
     rw [e2] at ec
     have cne : cs ≠ [] := fun e => by
      rw [e] at ec
      exact split_ne _ _ ec
     rw [j] at sum
     rw [if_neg cne, ← ec, zc0, ← ea]
     exact sum.symm
   have lr : (zbf s "reader ").2 ≠ "" := fun e => by
    have := congrArg Str.length e
    rw [rest] at this
    have z : ("" : Str).length = 0 := rfl
    split at this
    ·omega
    ·rw [zaj, zaj] at this; omega
   unfold zbf at hn rest lr ⊢
   split at hn
   ·rename_i c
    rw [if_pos c] at rest lr ⊢
    obtain ⟨r0, e⟩ := starts_split c
    have sum := PySem.StrLaws.partition_sum s ": "
    have gap : (Txt.partition s ": ").2.1 = ": " := by
     rcases PyProof.Rows.partition_whole s ": " with ⟨z, _⟩ | ⟨i, z, _⟩
     ·exact absurd (by rw [z]; rfl) lr
     ·rw [z]
    simp only at rest
    rw [gap, rest, e] at sum
    rw [e, cut_fr, ← sum]
    unfold lnR rdrTx rdrTxC
    simp only
    split <;> rfl
   ·exact absurd hn Yt
  ·cases h2
 ·cases h
theorem heardR_is (hl : s.length ≤ 500) : zb7 [.t (.str s)] hp = .ok (.t (hdR s)) hp := by
 refine wpV ?_
 let E : Option W → Option W → IS := fun w1 w2 => [some Yci, w1, w2]
 refine zdc (ts := [.str s]) (eta := E none none) rfl rfl ?_
 unfold B_w_heard
 refine zam (zbi (vc_c (zax (zam (Wq.wp (wq_tryAs ?_))))))
 unfold f_w_heard_l1
 show Wq ((mSet 1 _ : M Fl) (E (some Ybh) none) []) _ _
 refine wq_set (wq_app (wq_cons (wq_cmeth rfl rfl ((read_S (s := s) hl).mono ?_ ?_))))
 ·rintro w h ⟨r, e, R, rfl⟩
  refine wq_nil (Wq.eqOk (rstrOG R) (zax (zay (za1 rfl ⟨_, rfl, ?_, rfl⟩))))
  unfold hdR
  rw [e, readS_line e]
  rfl
 ·rintro e eta h ⟨n, rfl⟩
  refine wq_cls rfl rfl Yaj ?_
  unfold f_w_heard_l2
  refine zam (zbi (Wp.of (a := .t (.int 0)) (h := h) rfl (zax (za3 ?_))))
  refine zax (zay (za1 rfl ⟨_, rfl, ?_, rfl⟩))
  unfold hdR
  rw [n]
  rfl
theorem sgn_num {i : Nat} : ∀ c ∈ tl (numS i), c < 256 := fun c hc => by
 unfold numS at hc
 rw [tl_num] at hc
 have := numL_digits i c hc
 omega
theorem sgn_lnR (R : RKG r) : ∀ c ∈ tl (lnR r), c < 256 := by
 have sk : ∀ c ∈ tl ("reader " : Str), c < 256 := by decide +kernel
 have sc : ∀ c ∈ tl (": " : Str), c < 256 := by decide +kernel
 have sm : ∀ c ∈ tl (", " : Str), c < 256 := by decide +kernel
 have sp : ∀ c ∈ tl (" " : Str), c < 256 := by decide +kernel
 have si : ∀ c ∈ tl (" if " : Str), c < 256 := by decide +kernel
 have sw : ∀ w ∈ wR, ∀ c ∈ tl w, c < 256 := by decide +kernel
 have s1 : ∀ c ∈ tl ("same" : Str), c < 256 := by decide +kernel
 have s2 : ∀ c ∈ tl ("even" : Str), c < 256 := by decide +kernel
 have ss : ∀ c ∈ tl (zaz r.2.1), c < 256 := sgn_join sm fun p hp => by
  obtain ⟨d, hd, rfl⟩ := List.mem_map.mp hp
  exact zev (zev (sw d.1 (R.k.ok d hd).m) sp) (sgn_nam (R.k.ok d hd).n)
 have sq : ∀ c ∈ tl Ycy, c < 256 := sgn_join sm fun p hp => by
  obtain ⟨c, hc, rfl⟩ := List.mem_map.mp hp
  cases c with
  | same i j =>
   exact sgn_join sp fun q hq => by
    simp only [chkP, List.mem_cons, List.not_mem_nil, or_false] at hq
    rcases hq with rfl | rfl | rfl
    ·exact s1
    ·exact sgn_num
    ·exact sgn_num
  | even i =>
   exact sgn_join sp fun q hq => by
    simp only [chkP, List.mem_cons, List.not_mem_nil, or_false] at hq
    rcases hq with rfl | rfl
    ·exact s2
    ·exact sgn_num
 have s0 := zev (zev sk (sgn_nam R.k.n)) sc
 unfold lnR rdrTx rdrTxC
 split
 ·exact zev s0 ss
 ·exact zev s0 (zev (zev ss si) sq)
theorem hdR_repr (hl : s.length ≤ 500) : oRepr [.t (hdR s)] hp = .ok (.t (.str (dat (hdR s)).shown)) hp := by
 unfold hdR
 by_cases c : (zfh s).isSome = true
 ·rw [if_pos c]
  obtain ⟨r, e⟩ := Option.isSome_iff_exists.mp c
  have R : RKG r := readS_ok hl e
  have l : (lnR r).length ≤ 500 := by rw [← readS_line e]; exact hl
  rw [readS_line e]
  exact repr_of rfl (str_sh (sgn_lnR R) Yb)
 ·rw [if_neg c]
  exact repr_of rfl ⟨rfl, by decide +kernel⟩
theorem part_eq {a y x z w : Str} (h : zau Yex [.t (.str y)] [] = .ok (.t (.pr [.str x, .str z, .str w])) []) : Txt.partition a y = (x, z, w) := by
 unfold zau at h
 simp only at h
 split at h
 ·injection h with h1 h2
  injection h1 with h1
  injection h1 with h1
  injection h1 with a1 h1
  injection h1 with a2 h1
  injection h1 with a3 h1
  injection a1 with a1
  injection a2 with a2
  injection a3 with a3
  exact Prod.ext a1 (Prod.ext a2 a3)
 ·cases h
theorem allD_txR : ∀ {ds : List Deed}, (∀ d ∈ ds, DOk wR d) → allD wR ((ds.map dTx).map T.str) = some ds
 | [], _ => rfl
 | d :: r, h => by
  have D := h d Yj
  have e : deedS wR (dTx d) = some d := by
   unfold deedS
   rw [show Txt.split (dTx d) " " = [d.1, d.2] from split_sp (D.w.no Yb) (D.n.no Yb)]
   show (if d.1 ∈ wR ∧ nmB d.2 = true then some (d.1, d.2) else none) = some d
   rw [if_pos ⟨D.m, nam_to D.n⟩]
  have e2 := allD_txR (ds := r) fun x hx => h x Ybu
  rw [List.map_cons, List.map_cons]
  unfold allD
  rw [e2, show zc2 wR Ygq = some d from e]
theorem readS_tx (R : RK2 r) (hl : (lnR r).length ≤ 500) : zfh (lnR r) = some r := by
 have R0 := R.k
 have il : (" if " : Str).length = 4 := by decide +kernel
 have fs := free_steps r.2.1 (List.length_pos_iff.mp R0.ne) R0.ok
 have ln : lnR r = "reader " ++ r.1 ++ ": " ++ (if r.2.2 = [] then zaz r.2.1 else zaz r.2.1 ++ " if " ++ Txt.join ", " (r.2.2.map zbe)) := by
  unfold lnR rdrTx rdrTxC
  split <;> rfl
 have sl : (zaz r.2.1).length ≤ 16777216 := by
  have := steps_len R0.ok
  have := R.l
  omega
 have pe : Txt.partition (lnR r) ": " = (("reader " ++ r.1 : Str), (": " : Str), if r.2.2 = [] then zaz r.2.1 else zaz r.2.1 ++ " if " ++ Txt.join ", " (r.2.2.map zbe)) := by
  rw [ln]
  refine partition_app tl_cs ?_
  rw [tl_append, List.mem_append]
  have rd : 58 ∉ tl ("reader " : Str) := by decide +kernel
  simp [rd, R0.n.no (c := 58) Yb]
 have ns : zbf (lnR r) "reader " = (r.1, if r.2.2 = [] then zaz r.2.1 else zaz r.2.1 ++ " if " ++ Txt.join ", " (r.2.2.map zbe)) := by
  unfold zbf
  rw [pe]
  rw [if_pos (starts_app "reader " r.1), cut_fr]
 have dl : kdR (.lst ((r.2.1.map dTx).map T.str)) = some r.2.1 := by
  show zeo "read" ["look"] _ = _
  unfold zeo
  rw [show allD ["read", "look"] ((r.2.1.map dTx).map T.str) = some r.2.1 from allD_txR R0.ok]
  exact if_pos R0.nd
 have hr : hasR r.2.1 = true := by
  obtain ⟨d, hd, e⟩ := R0.h0
  exact decide_eq_true (List.mem_map.mpr ⟨d, hd, e⟩)
 have cv : zei r.2.1 Yhe = some r.2.2 := by
  unfold zei
  rw [allC_tx R.c]
  exact if_pos R.nd
 have pp : (Txt.partition (zbf (lnR r) "reader ").2 " if ").1 = zaz r.2.1 ∧ chkL (Txt.partition (zbf (lnR r) "reader ").2 " if ") = r.2.2.map zbe := by
  rw [ns]
  simp only
  by_cases c : r.2.2 = []
  ·rw [if_pos c, part_eq (part_no (by rw [tl_if]; simp) (by rw [tl_if]; exact fs) sl)]
   exact ⟨rfl, by rw [c]; exact if_pos rfl⟩
  ·have cl : (zaz r.2.1 ++ " if " ++ Txt.join ", " (r.2.2.map zbe)).length ≤ 16777216 := by
    rw [ln, if_neg c, zaj] at hl
    omega
   rw [if_neg c, part_eq (part_yes (by rw [tl_if]; simp) (by rw [tl_if]; exact fs) cl)]
   refine ⟨rfl, ?_⟩
   have ne : ¬ (" if " : Str) = "" := by decide +kernel
   show (if (" if " : Str) = "" then [] else Txt.split Ycy ", ") = _
   rw [if_neg ne]
   exact split_cm Yg1 fun p hp => by
    obtain ⟨x, _, rfl⟩ := List.mem_map.mp hp
    exact chkTx_no Yb Yb
 unfold zfh
 rw [pp.1, pp.2, split_steps R0.ok R0.ne, dl, Option.bind_some, if_pos hr, cv, ns]
 simp only [nam_to R0.n, if_true]
 rfl
end
section
open TL
variable {hp : IH} {s : Str}
def lwkR : List Deed → List Str → Option (List Deed)
 | acc, [] => some acc
 | acc, s :: r => match deedS wR s with
  | none => none
  | some d => if d.1 = "read" ∧ d ∈ acc then none else lwkR (acc ++ [d]) r
theorem lwkR_cons {a : Str} {acc : List Deed} {r : List Str} : lwkR acc (a :: r) = match deedS wR a with | none => none | some d => if d.1 = "read" ∧ d ∈ acc then none else lwkR (acc ++ [d]) r := rfl
theorem wrN_app {w : Str} {a b : List Deed} : wrN w (a ++ b) = wrN w a ++ wrN w b := by
 unfold wrN
 rw [List.filter_append, List.map_append]
theorem wrN_mem {d : Deed} {acc : List Deed} (h : d.1 = "read") : d.2 ∈ wrN "read" acc ↔ d ∈ acc := by
 unfold wrN
 rw [List.mem_map]
 constructor
 ·rintro ⟨e, he, e2⟩
  obtain ⟨h1, h2⟩ := List.mem_filter.mp he
  have h2 := of_decide_eq_true h2
  have : e = d := Prod.ext (h2.trans h.symm) e2
  rwa [this] at h1
 ·intro m
  exact ⟨d, List.mem_filter.mpr ⟨m, decide_eq_true h⟩, rfl⟩
theorem lwkR_is : ∀ (ps : List Str) (acc : List Deed), (wrN "read" acc).Nodup → lwkR acc ps = match allD wR (ps.map T.str) with
  | some ds => if (wrN "read" (acc ++ ds)).Nodup then some (acc ++ ds) else none
  | none => none
 | [], acc, h => by
  show some acc = if (wrN "read" (acc ++ [])).Nodup then some (acc ++ []) else none
  rw [List.append_nil, if_pos h]
 | s :: r, acc, h => by
  rw [List.map_cons]
  unfold allD
  rw [lwkR_cons]
  show (match deedS wR s with | none => none | some d => _) = match (match deedS wR s, allD wR (r.map T.str) with | some d, some ds => some (d :: ds) | _, _ => none) with | some ds => _ | none => none
  cases e : deedS wR s with
  | none => rfl
  | some d =>
   simp only
   have one : wrN "read" [d] = if d.1 = "read" then [d.2] else [] := by
    unfold wrN
    rw [List.filter_cons]
    by_cases w : d.1 = "read"
    ·rw [if_pos (decide_eq_true w), if_pos w]; rfl
    ·rw [if_neg (by simp [w]), if_neg w]; rfl
   by_cases c : d.1 = "read" ∧ d ∈ acc
   ·rw [if_pos c]
    cases allD wR (r.map T.str) with
    | none => rfl
    | some ds =>
     refine (if_neg fun nd => ?_).symm
     rw [show acc ++ d :: ds = acc ++ ([d] ++ ds) from rfl, wrN_app, wrN_app, one, if_pos c.1] at nd
     exact (List.nodup_append.mp nd).2.2 _ ((wrN_mem c.1).mpr c.2) _ (List.mem_append_left _ Ye1) rfl
   ·rw [if_neg c, lwkR_is r (acc ++ [d]) (by
     rw [wrN_app, one]
     split
     ·rename_i w
      rw [List.nodup_append]
      exact ⟨h, by simp, fun x hx y hy e => c ⟨w, by
       rw [List.mem_singleton.mp hy] at e
       exact (wrN_mem w).mp (e ▸ hx)⟩⟩
     ·rw [List.append_nil]; exact h)]
    cases allD wR (r.map T.str) with
    | none => rfl
    | some ds =>
     simp only
     rw [List.append_assoc]
     rfl
/-- the deeds that the law reads -/
def rdS (s : Str) : Option (List Deed) := (kdR (.lst Yge)).bind fun ds => if hasR ds = true then some ds else none
def dsLT : Option (List Deed) → T
 | some ds => .lst Yh
 | none => .non
abbrev dsW (ds : List Deed) : List W := ds.map fun d => W.t (dTr d)
def rE (s : Str) (w2 w3 w4 w5 : Option W) : IS := [some Yci, some (.r 0), w2, w3, w4, w5]
theorem dsW_t {ds : List Deed} : allT (dsW ds) = some Yh := by
 have := allT_ts Yh
 rw [List.map_map] at this
 exact this
theorem in_dsW {d : Deed} {acc : List Deed} : inW false (.t (dTr d)) (.r 0) [some Yfk] = .ok (.t (.bl (decide (d ∈ acc)))) [some Yfk] := by
 have e : (items [some Yfk] (.r 0)).bind allT = some (acc.map dTr) := dsW_t
 have f : fitL (acc.map dTr) 60 = true := dTr_fit (n := 58)
 have a : ((acc.map dTr).any fun y => Mir.eqT y (dTr d)) = decide (d ∈ acc) := by
  rw [Bool.eq_iff_iff, List.any_eq_true, decide_eq_true_eq]
  constructor
  ·rintro ⟨y, hy, e⟩
   obtain ⟨x, hx, rfl⟩ := List.mem_map.mp hy
   rw [dTr_inj] at e
   exact of_decide_eq_true e ▸ hx
  ·intro m
   exact ⟨_, List.mem_map.mpr ⟨d, m, rfl⟩, by rw [dTr_inj]; simp⟩
 unfold inW
 simp only [asT_t, e]
 rw [if_pos ⟨deq_fit, f⟩, a]
 rfl
theorem wR_turn {s a : Str} {acc : List Deed} {w3 w4 w5 : Option W} (al : a.length ≤ 10000) (hl : acc.length ≤ 10000) :
  Wp (zc5 (rE s Yy w3 w4 w5) [some Yfk]) fun fl h => match deedS wR a with
   | none => fl = .rt Ybh
   | some d => if d.1 = "read" ∧ d ∈ acc then fl = .rt Ybh else h = [some (.lst (dsW (acc ++ [d])))] ∧ ∃ w3', fl = .nx (rE s Yy w3' w4 w5) := by
 unfold zc5
 let H : IH := [some Yfk]
 have sp : (mSM zbl (mVar 2) Yay : M W) (rE s Yy w3 w4 w5) H = .ok (.t (.lst ((Txt.split a " ").map T.str))) H := ze5 (a := a) rfl rfl Yfd
 refine zam (zbi (Wp.of sp (zax ?_)))
 have pl : ∀ p ∈ Txt.split a " ", p.length ≤ 10000 := fun p hp => Nat.le_trans (zfg hp) al
 unfold deedS
 generalize Txt.split a " " = ps at pl
 let F : List Str → IS := fun ps => rE s Yy (some (.t Y8)) w4 w5
 show Wp ((mSeq _ _ : M Fl) (F ps) H) _
 have v1 : ∀ ps : List Str, (zae asB (mBin Yv Y3 Yb8) : M Bool) (F ps) H = .ok (!decide (ps.length = 2)) H := fun ps => by
  refine za8 (binP Yhr rfl (ev_eqi.trans ?_))
  have : decide (((ps.length : Nat) : Int) = 2) = decide (ps.length = 2) := by rw [decide_eq_decide]; omega
  simp only [if_true, this]
 have no : ∀ (ps : List Str) (R : M Fl), ps.length ≠ 2 → Wp ((mSeq Yb2 R : M Fl) (F ps) H) fun fl h => fl = .rt Ybh := fun ps R h => by
  have e := v1 ps
  rw [decide_eq_false h] at e
  exact zam Ydk
 match ps, pl with
 | [x, y], pl =>
  have i0 : (mBin ixW (mVar 3) Yd : M W) (F [x, y]) H = .ok Yd6 H := binP (a := .t (.lst ([x, y].map T.str))) rfl rfl zes
  have i1 : (mBin ixW (mVar 3) Yg : M W) (F [x, y]) H = .ok Yhh H := binP (a := .t (.lst ([x, y].map T.str))) rfl rfl ev_ixl1
  have v2 : (zae asB (mBin (inW true) Yjk (mApp za2 (zab Yi2 (zab Yc0 (mNil))))) : M Bool) (F [x, y]) H = .ok (!decide (x ∈ wR)) H := za8 (binP (b := .t (.tup (wR.map T.str))) i0 rfl in_strs)
  have bl := pl y Y4
  have v3 : (mNot (zae truW (zaq zb4 [] (zab (mBin ixW (mVar 3) Yg) (mNil)))) : M Bool) (F [x, y]) H = .ok (!nmB y) H := notE (by
   rw [zdd, zar (ws := [.t (.str y)]) (zbn i1 rfl) (wname_is Yb)]
   rfl)
  refine zam (zaw (orE (v1 [x, y]) fun _ => orE v2 fun _ => v3) (fun c => zay (vc_c (zd7 ?_))) fun c => za3 (zax ?_))
  ·have : ¬ (x ∈ wR ∧ nmB y = true) := fun z => by simp [z.1, z.2] at c
   simp only [deedP, if_neg this]
  ·have : x ∈ wR ∧ nmB y = true := by
    simp only [Bool.or_eq_false_iff, Bool.not_eq_false', decide_eq_true_eq] at c
    exact ⟨c.2.1, c.2.2⟩
   simp only [deedP, if_pos this]
   have tp : (mApp za2 Yb0 : M W) (F [x, y]) H = .ok (.t (dTr (x, y))) H := wpV (zct (zak (Wp.of i0 (zak (Wp.of i1 (zbb (zew (ts := [.str x, .str y]) rfl Yaj ⟨rfl, rfl⟩)))))))
   have t1 : (zae asB (mBin Ys Yjk Yi2) : M Bool) (F [x, y]) H = .ok (decide (x = "read")) H := za8 (binP i0 rfl Ybg)
   have t2 : (zae asB (mBin (inW false) (mApp za2 Yb0) (mVar 1)) : M Bool) (F [x, y]) H = .ok (decide (((x, y) : Deed) ∈ acc)) H := za8 (binP (b := .r 0) tp rfl in_dsW)
   refine zam (zaw (andE t1 fun _ => t2) (fun c => zay (vc_c (zd7 ?_))) fun c => za3 (zax ?_))
   ·simp only [Bool.and_eq_true, decide_eq_true_eq] at c
    simp only [if_pos c]
   ·have c' : ¬ (x = "read" ∧ ((x, y) : Deed) ∈ acc) := fun z => by
     rw [decide_eq_true z.1, decide_eq_true z.2] at c
     cases c
    simp only [if_neg c']
    have ap : (mDrop (zfd isL zb0 (mVar 1) (zab (mApp za2 Yb0) (mNil))) : M Fl) (F [x, y]) H = .ok (.nx (F [x, y])) [some (.lst (dsW (acc ++ [(x, y)])))] :=
     dmeth_ok (o := .r 0) (h1 := H) (h2 := H) (ws := [.t (dTr (x, y))]) rfl rfl (zbn tp rfl) (by
      have g : getL H 0 = some (dsW acc) := rfl
      simp only [zb0, g]
      rw [if_pos Yab]
      unfold dsW
      rw [List.map_append]
      rfl)
    exact Wp.of ap ⟨rfl, _, rfl⟩
 | [], _ => exact no [] _ Y4
 | [a0], _ => exact no [a0] _ Y4
 | a0 :: b0 :: c0 :: r0, _ => exact no (a0 :: b0 :: c0 :: r0) _ Y4
theorem ones_nil {ds : List Deed} : ((ds.filter fun d => decide (d.1 = ("read" : Str))).map fun _ => T.int 1) = [] ↔ hasR ds = false := by
 unfold hasR
 rw [List.map_eq_nil_iff, List.filter_eq_nil_iff, decide_eq_false_iff_not]
 constructor
 ·intro h m
  obtain ⟨d, hd, e⟩ := List.mem_map.mp m
  exact h d hd (decide_eq_true e)
 ·intro h d hd e
  exact h (List.mem_map.mpr ⟨d, hd, of_decide_eq_true e⟩)
theorem wdeeds_is (hl : s.length ≤ 500) : zdu [.t (.str s)] hp = .ok (.t (dsLT (rdS s))) hp := by
 refine wpV ?_
 refine zdc (ts := [.str s]) (eta := [some Yci, none, none, none, none, none]) rfl rfl ?_
 unfold B_w_deeds_in
 refine zam (zbi (zct (zbb (vc_newL Y4 (zax ?_)))))
 show Wp ((mSeq _ _ : M Fl) (rE s none none none none) [some (.lst (dsW []))]) _
 have sp : (mSM zbl (mVar 0) Ycb : M W) (rE s none none none none) [some (.lst (dsW []))] = .ok (.t (.lst Yge)) [some (.lst (dsW []))] := ze5 rfl rfl Yfd
 have sn := zd9 (a := s) (y := ", ")
 rw [ze0] at sn
 have sL : ∀ x ∈ Txt.split s ", ", x.length ≤ 500 := fun x hx => Nat.le_trans (zfg hx) hl
 have kr : rdS s = (lwkR [] (Txt.split s ", ")).bind fun ds => if hasR ds = true then some ds else none := by
  rw [lwkR_is _ [] List.nodup_nil]
  unfold rdS
  show (zeo "read" ["look"] _).bind _ = _
  unfold zeo
  cases allD wR ((Txt.split s ", ").map T.str) <;> rfl
 rw [kr]
 generalize Txt.split s ", " = ps at sp sn sL
 refine zam (vc_for (vc_sq (Wp.of sp (vc_sqL ?_))))
 refine vc_loopR (fun ws eta h => ∃ (acc : List Deed) (rest : List Str) (w2 w3 : Option W), ws = (rest.map T.str).map W.t ∧ eta = rE s w2 w3 none none ∧ h = [some Yfk] ∧ acc.length + rest.length ≤ 2000 ∧ (∀ x ∈ rest, x.length ≤ 500) ∧ lwkR acc rest = lwkR [] ps)
   (fun w h => w = .t .non ∧ lwkR [] ps = none) ?_ _ _ _ ⟨[], ps, none, none, rfl, rfl, rfl, by simp only [List.length_nil]; omega, sL, rfl⟩ ?_ ?_
 ·rintro w ws eta h ⟨acc, rest, w2, w3, e1, rfl, rfl, al, rl, lw⟩
  match rest, e1 with
  | a :: rest, e1 =>
   cases e1
   refine ⟨_, rfl, ?_⟩
   have ha := rl a Yj
   rw [List.length_cons] at al
   refine (wR_turn (s := s) (a := a) (acc := acc) (w3 := w3) (w4 := none) (w5 := none) Yb Yb).mono fun fl h q => ?_
   rw [lwkR_cons] at lw
   cases e : deedS wR a with
   | none =>
    rw [e] at q lw
    exact .inr ⟨_, q, rfl, lw.symm⟩
   | some d =>
    rw [e] at q lw
    simp only at q lw
    by_cases c : d.1 = "read" ∧ d ∈ acc
    ·rw [if_pos c] at q lw
     exact .inr ⟨_, q, rfl, lw.symm⟩
    ·rw [if_neg c] at q lw
     obtain ⟨rfl, w3', rfl⟩ := q
     exact .inl ⟨_, rfl, acc ++ [d], rest, _, w3', rfl, rfl, rfl, by rw [List.length_append, List.length_singleton]; omega, fun x hx => rl x Ybu, lw⟩
 ·rintro e h ⟨acc, rest, w2, w3, e1, rfl, rfl, al, rl, lw⟩
  match rest, e1 with
  | [], _ =>
   have lw : some acc = lwkR [] ps := lw
   rw [← lw, Option.bind_some]
   rw [List.length_nil] at al
   have fz : zc9 (.r 0) [some Yfk] = .ok (.t (.lst (acc.map dTr))) [none] := by
    have g : getL [some Yfk] 0 = some ((acc.map dTr).map W.t) := by rw [List.map_map]; rfl
    exact frz_ok g
   refine zax (vc_fz (w := .r 0) rfl (Wp.of fz ?_))
   let E : IS := [some Yci, some (.t (.lst (acc.map dTr))), w2, w3, none, none]
   show Wp ((mRet _ : M Fl) E [none]) _
   have q := comp_g (G := gT 2 (gsC (gN 4) (gsC (gN 5) gsN))) (U := zb1) (E := zce) (eta := E) (hp := [none]) (src := fun d : Deed => W.t (dTr d))
    (loc := fun d => [some Yci, some (.t (.lst (acc.map dTr))), w2, w3, some (.t (.str d.1)), some (.t (.str d.2))]) (p := fun d => decide (d.1 = ("read" : Str))) (g := fun _ => .int 1) acc Ya3 (fun d _ => by
     unfold zb1
     exact za8 (binP (a := .t (.str d.1)) rfl rfl (ev_eqs.trans Y4))) (fun d hd _ => rfl)
   have le := List.length_filter_le (fun d : Deed => decide (d.1 = ("read" : Str))) acc
   let O : List T := (acc.filter fun d => decide (d.1 = ("read" : Str))).map fun _ => T.int 1
   have c : (zbq zas (mSq (mVar 1)) (gT 2 (gsC (gN 4) (gsC (gN 5) gsN))) zb1 zce [4, 5] : M W) E [none] = .ok (.t (.lst O)) [none] :=
    zdx (ws := (acc.map dTr).map W.t) (ys := O.map W.t) (h1 := [none]) (h2 := [none]) rfl Yan (by rw [List.map_map]; exact q) (lst_ok (by simp only [O, List.length_map]; omega))
   have fo : fitL O 59 = true := fitL_all fun t ht => by
    obtain ⟨_, _, rfl⟩ := List.mem_map.mp ht
    rfl
   have t : (zae asB Yfs : M Bool) E [none] = .ok (hasR acc) [none] := za8 (binP c rfl ((eqE fo).trans (by
    have : (!decide (O = [])) = hasR acc := by
     cases e : hasR acc with
     | true => rw [decide_eq_false fun z => by rw [ones_nil.mp z] at e; cases e]; rfl
     | false => rw [decide_eq_true (ones_nil.mpr e)]; rfl
    simp only [if_true, this])))
   refine zay (zaw t (fun c => za1 rfl ⟨_, rfl, ?_, rfl⟩) fun c => vc_c ⟨_, rfl, ?_, rfl⟩)
   ·rw [if_pos c]; rfl
   ·rw [if_neg (by rw [c]; simp)]; rfl
 ·rintro x h ⟨rfl, lw⟩
  refine zd7 ⟨_, rfl, ?_, rfl⟩
  rw [lw]
  rfl
end
section
open TL
variable {hp : IH} {s : Str} {ds : List Deed}
theorem str_num {n : Nat} (h : n < 1900) : oStr [.t (.int (n : Nat))] hp = .ok (.t (.str (numS n))) hp := by
 have : ((n : Nat) : Int).natAbs.log2 < 1920 := by
  have := Nat.log2_le_self n
  rw [Int.natAbs_natCast]
  omega
 simp only [oStr, this, if_true]
 rfl
theorem ixdl {n : Nat} (c : n < ds.length) : ixW Yb1 Yau hp = .ok (.t (dTr (ds.getD n ("", "")))) hp := by
 have := ixW_sq (b := false) (ts := ds.map dTr) (n := n) (hp := hp) Yg1
 rw [deed_at c] at this
 exact this
def sE (ws : List Str) (ds : List Deed) (w3 w4 w5 : Option W) : IS := [some (.t (.lst Ybd)), some Yb1, some (.r 0), w3, w4, w5]
abbrev spW (l : List (Option Nat)) : List W := l.map fun x => W.t (optN x)
theorem spot_turn {ws : List Str} {a : Str} {acc : List (Option Nat)} {w4 w5 : Option W} (dl : ds.length ≤ 1000) (hl : acc.length ≤ 10000) :
  Wp (zep (sE ws ds Yy w4 w5) [some (.lst (spW acc))]) fun fl h => h = [some (.lst (spW (acc ++ [za9 ds a])))] ∧ ∃ w4', fl = .nx (sE ws ds Yy w4' w5) := by
 unfold zep
 let H : IH := [some (.lst (spW acc))]
 let L : List Nat := (List.range ds.length).filter fun n => decide (numS n = a) && decide ((ds.getD n ("", "")).1 = "look")
 have ol : (mApp oLen Yq : M W) (sE ws ds Yy w4 w5) H = .ok (.t (.int (ds.length : Nat))) H := zcn (a := .t Yfq) rfl Yap
 have cp : (zbq zas (mSrc rng1 (zab (mApp oLen Yq) (mNil))) (gN 5) zcz zdo [5] : M W) (sE ws ds Yy w4 w5) H = .ok (.t (.lst Ydp)) H := by
  refine wpV (zeu (vc_src (zak (Wp.of ol (zbb (Wp.rw (rng_is (n := ds.length) Yb) (Wp.ok ⟨by rw [List.length_map, List.length_range]; omega, ?_⟩)))))))
  have q := vc_mapG (G := gN 5) (U := zcz) (E := zdo) (eta := sE ws ds Yy w4 none) (hp := H) (src := natW) (p := fun n => decide (numS n = a) && decide ((ds.getD n ("", "")).1 = "look")) (g := fun n => T.int (n : Nat)) (List.range ds.length) (fun n hn => by
   have hn := List.mem_range.mp hn
   have ek : natW n = W.t (.int (n : Nat)) := by unfold natW; rw [Int.zero_add]
   refine ⟨sE ws ds Yy w4 (some Yau), by rw [ek]; rfl, ?_, fun _ => rfl⟩
   unfold zcz
   have st : (mApp oStr Yb7 : M W) (sE ws ds Yy w4 (some Yau)) H = .ok (.t (.str (numS n))) H := zcn (a := .t (.int (n : Nat))) rfl (str_num Yb)
   exact andE (za8 (binP st rfl Ybg)) fun _ => za8 (binP (binP (binP (a := .t Yfq) rfl rfl (ixdl hn)) rfl ev_ixt0) rfl Ybg))
  refine Wp.of q (zd8 ?_ ⟨rfl, rfl⟩)
  rw [List.length_map]
  exact Nat.le_trans (List.length_filter_le _ _) (by rw [List.length_range]; omega)
 refine zam (zbi (Wp.of cp (zax ?_)))
 let G : IS := sE ws ds Yy (some (.t (.lst Ydp))) w5
 show Wp ((mDrop _ : M Fl) G H) _
 have fl : fitL Ydp 59 = true := fitL_all fun t ht => by
  obtain ⟨_, _, rfl⟩ := List.mem_map.mp ht
  rfl
 have t : (zae asB (mBin Yv (mVar 4) Ya9) : M Bool) G H = .ok (!decide (L.map (fun n => T.int (n : Nat)) = [])) H := za8 (binP (a := .t (.lst Ydp)) rfl rfl ((eqE fl).trans rfl))
 have sp : za9 ds a = L.head? := by
  unfold za9
  rw [List.head?_filter]
 have v : (mIf (zae asB (mBin Yv (mVar 4) Ya9)) (mBin ixW (mVar 4) Yd) Yag : M W) G H = .ok (.t (optN (za9 ds a))) H := by
  rw [sp]
  have v4 : (mVar 4 : M W) G H = .ok (.t (.lst Ydp)) H := rfl
  generalize L = l at t v4 ⊢
  match l, t, v4 with
  | [], t, v4 => exact wpV (zaw t (fun c => by cases c) fun _ => vc_c ⟨rfl, rfl⟩)
  | n :: r, t, v4 =>
   rw [decide_eq_false Y4] at t
   exact wpV (zaw t (fun c => Wp.of (binP v4 rfl zes) ⟨rfl, rfl⟩) fun c => by cases c)
 have ap : (mDrop Ye5 : M Fl) G H = .ok (.nx G) [some (.lst (spW (acc ++ [za9 ds a])))] :=
  dmeth_ok (o := .r 0) (h1 := H) (h2 := H) (ws := [.t (optN (za9 ds a))]) rfl rfl (zbn v rfl) (by
   have g : getL H 0 = some (spW acc) := rfl
   simp only [zb0, g]
   rw [if_pos Yab]
   unfold spW
   rw [List.map_append]
   rfl)
 exact Wp.of ap ⟨rfl, _, rfl⟩
theorem spots_is {ws : List Str} (wl : ws.length ≤ 5000) (dl : ds.length ≤ 1000) : F_w_spots [.t (.lst Ybd), .t Yfq] hp = .ok (.t (.lst ((ws.map (za9 ds)).map optN))) hp := by
 refine wpV ?_
 refine zdc (ts := [.lst Ybd, .lst Yh]) (eta := [some (.t (.lst Ybd)), some Yb1, none, none, none, none]) rfl rfl ?_
 unfold B_w_spots
 refine zam (zbi (zct (zbb (vc_newL Y4 (zax ?_)))))
 show Wp ((mSeq _ _ : M Fl) (sE ws ds none none none) [some (.lst (spW []))]) _
 refine zam (vc_for (vc_sq (za1 (w := .t (.lst Ybd)) rfl (vc_sqL ?_))))
 refine vc_loop (fun vs eta h => ∃ (done rest : List Str) (w3 w4 : Option W), vs = (rest.map T.str).map W.t ∧ done ++ rest = ws ∧ eta = sE ws ds w3 w4 none ∧ h = [some (.lst Yh5)]) ?_ _ _ _ ⟨[], ws, none, none, rfl, rfl, rfl, rfl⟩ ?_
 ·rintro w vs eta h ⟨done, rest, w3, w4, e1, e2, rfl, rfl⟩
  match rest, e1, e2 with
  | a :: rest, e1, e2 =>
   cases e1
   refine ⟨_, rfl, (spot_turn (ws := ws) (a := a) (acc := done.map (za9 ds)) (w4 := w4) (w5 := none) dl ?_).mono fun fl h ⟨e, w4', e3⟩ => ⟨_, e3, done ++ [a], rest, _, w4', rfl, by rw [List.append_assoc]; exact e2, rfl, ?_⟩⟩
   ·rw [List.length_map, ]
    have := congrArg List.length e2
    rw [List.length_append] at this
    omega
   ·rw [e, List.map_append]
    rfl
 ·rintro e h ⟨done, rest, w3, w4, e1, e2, rfl, rfl⟩
  match rest, e1, e2 with
  | [], _, e2 =>
   rw [List.append_nil] at e2
   subst e2
   have fz : zc9 (.r 0) [some (.lst Yh5)] = .ok (.t (.lst ((done.map (za9 ds)).map optN))) [none] := by
    have g : getL [some (.lst Yh5)] 0 = some (((done.map (za9 ds)).map optN).map W.t) := by
     show some Yh5 = _
     unfold spW
     rw [List.map_map, List.map_map, List.map_map]
     rfl
    exact frz_ok g
   exact zax (vc_fz (w := .r 0) rfl (Wp.of fz (zay (za1 rfl ⟨_, rfl, rfl, rfl⟩))))
end
section
open TL
variable {hp : IH} {s : Str} {ds : List Deed}
def cE (s : Str) (ds : List Deed) (cs : List Str) (w3 w4 w5 : Option W) : IS := [some Yci, some Yb1, some (.t (.lst Ybl)), w3, w4, w5]
theorem two_in {w : Str} {n : Nat} : inW true (.t (.tup [.str w, .int (n : Nat)])) (.t Ydi) hp = .ok (.t (.bl (!(decide (w = "even") && decide (n = 1) || decide (w = "same") && decide (n = 2))))) hp := by
 have e : (items hp (.t Ydi)).bind allT = some [.tup [.str "even", .int 1], .tup [.str "same", .int 2]] := rfl
 have a : ([T.tup [.str "even", .int 1], .tup [.str "same", .int 2]].any fun y => Mir.eqT y (.tup [.str w, .int (n : Nat)])) = (decide (w = "even") && decide (n = 1) || decide (w = "same") && decide (n = 2)) := by
  simp only [List.any_cons, List.any_nil, eqT_tt, eqTL_cc, eqT_ss, eqT_ii, eqTL_nn, Bool.and_true, Bool.or_false]
  rw [Bool.eq_iff_iff]
  simp only [Bool.or_eq_true, Bool.and_eq_true, beq_iff_eq, decide_eq_true_eq]
  constructor
  ·rintro (⟨a, b⟩ | ⟨a, b⟩)
   ·exact .inl ⟨a.symm, by omega⟩
   ·exact .inr ⟨a.symm, by omega⟩
  ·rintro (⟨a, b⟩ | ⟨a, b⟩)
   ·exact .inl ⟨a.symm, by omega⟩
   ·exact .inr ⟨a.symm, by omega⟩
 unfold inW
 simp only [asT_t, e]
 rw [if_pos ⟨rfl, rfl⟩, a]
 rfl
theorem chkPS_none {w : Str} {r : List Str} (hn : none ∈ r.map (za9 ds)) : zc7 ds (w :: r) = none := by
 obtain ⟨x, hx, e⟩ := List.mem_map.mp hn
 match r, hx with
 | [a], hx =>
  rw [List.mem_singleton.mp hx] at e
  simp only [zc7, e, Option.map_none, ite_self]
 | [a, b], hx =>
  simp only [List.mem_cons, List.not_mem_nil, or_false] at hx
  rcases hx with rfl | rfl
  ·simp only [zc7, e, ite_self]
  ·simp only [zc7, e]
   cases za9 ds a <;> simp only [ite_self]
 | [], hx => cases hx
 | _ :: _ :: _ :: _, _ => rfl
section
variable {a w : Str} {cs r : List Str}
def cG (s : Str) (ds : List Deed) (cs : List Str) (a w : Str) (r : List Str) : IS := cE s ds cs Yy (some (.t Ycv)) (some (.t Ycl))
theorem cg_t1 : (zae asB (mBin (inW false) Yag (mVar 5)) : M Bool) Yec [] = .ok (decide (none ∈ r.map (za9 ds))) [] := za8 (binP (a := .t .non) (b := .t Ycl) rfl rfl non_any)
theorem cg_v5 : (mVar 5 : M W) Yec [] = .ok (.t Ycl) [] := rfl
theorem cg_ol : (mApp oLen Yb7 : M W) Yec [] = .ok (.t (.int (r.length : Nat))) [] := zcn (a := .t Ycl) rfl (by rw [zej, List.length_map, List.length_map])
theorem cg_t2 : (zae asB (mBin (inW true) (mApp za2 (zab (mBin ixW (mVar 4) Yd) (zab (mApp oLen Yb7) (mNil)))) (mApp za2 (zab (mApp za2 (zab Ygy (zab Yg (mNil)))) (zab (mApp za2 (zab Yfp (zab Yb8 (mNil)))) (mNil))))) : M Bool) Yec [] = .ok (!(decide (w = "even") && decide (r.length = 1) || decide (w = "same") && decide (r.length = 2))) [] := by
 have w0 : (mBin ixW (mVar 4) Yd : M W) Yec [] = .ok (.t (.str w)) [] := binP (a := .t Ycv) rfl rfl zes
 have tp : (mApp za2 (zab (mBin ixW (mVar 4) Yd) (zab (mApp oLen Yb7) (mNil))) : M W) Yec [] = .ok (.t (.tup [.str w, .int (r.length : Nat)])) [] := wpV (zct (zak (Wp.of w0 (zak (Wp.of cg_ol (zbb (zew (ts := [.str w, .int (r.length : Nat)]) rfl Yaj ⟨rfl, rfl⟩)))))))
 exact za8 (binP (b := .t Ydi) tp rfl two_in)
theorem cg_l2 : (zae asB (mBin Ys (mApp oLen Yb7) Yb8) : M Bool) Yec [] = .ok (decide (r.length = 2)) [] := za8 (binP cg_ol rfl (ev_eqi.trans (by
 have : decide (((r.length : Nat) : Int) = 2) = decide (r.length = 2) := by rw [decide_eq_decide]; omega
 simp only [Bool.false_eq_true, if_false, this])))
/-- what a turn does -/
def CP (s : Str) (ds : List Deed) (cs : List Str) (a : Str) (ok : Bool) (fl : Fl) (h : IH) : Prop := h = [] ∧ if ok = true then ∃ w4' w5', fl = .nx (cE s ds cs Yy w4' w5') else fl = .rt (.t Ycd)
theorem chk_bad {R : M Fl} (h1 : (decide (none ∈ r.map (za9 ds)) || !(decide (w = "even") && decide (r.length = 1) || decide (w = "same") && decide (r.length = 2))) = true) (h2 : zc7 ds (w :: r) = none) : Wp ((mSeq (mIf (mOr (zae asB (mBin (inW false) (mC .non) (mVar 5))) (zae asB (mBin (inW true) (mApp za2 (zab (mBin ixW (mVar 4) (mC (.int 0))) (zab (mApp oLen (zab (mVar 5) (mNil))) (mNil)))) (mApp za2 (zab (mApp za2 (zab (mC (.str "even")) (zab (mC (.int 1)) (mNil)))) (zab (mApp za2 (zab (mC (.str "same")) (zab (mC (.int 2)) (mNil)))) (mNil))))))) (mRet (mC (.bl false))) (zbh)) R : M Fl) (cG s ds cs a w r) []) (CP s ds cs a (zc7 ds (w :: r)).isSome) :=
 zam (zaw (orE cg_t1 fun _ => cg_t2) (fun _ => zay (vc_c (zd7 ⟨rfl, by rw [h2]; rfl⟩))) fun z => by rw [h1] at z; cases z)
theorem chk_one {b : Str} {n : Nat} (hw : w = "even") (e : za9 ds b = some n) : Wp ((mSeq Yc Ya : M Fl) (cG s ds cs a w [b]) []) (CP s ds cs a (zc7 ds [w, b]).isSome) := by
 have t1 := cg_t1 (s := s) (ds := ds) (cs := cs) (a := a) (w := w) (r := [b])
 have t2 := cg_t2 (s := s) (ds := ds) (cs := cs) (a := a) (w := w) (r := [b])
 have l2 := cg_l2 (s := s) (ds := ds) (cs := cs) (a := a) (w := w) (r := [b])
 rw [show decide (none ∈ [b].map (za9 ds)) = false by simp [e]] at t1
 rw [show (!(decide (w = "even") && decide ([b].length = 1) || decide (w = "same") && decide ([b].length = 2))) = false by simp [hw]] at t2
 rw [show decide ([b].length = 2) = false from rfl] at l2
 refine zam (zaw (orE (a := false) t1 fun _ => t2) Ybp fun _ => za3 (zax ?_))
 refine zam (zaw (b := false) (andE (a := false) (b := false) l2 fun z => by cases z) Ybp fun _ => za3 (zax ?_))
 refine zaw (b := false) (andE (a := false) (b := false) l2 fun z => by cases z) Ybp fun _ => za3 ⟨rfl, ?_⟩
 rw [if_pos (by simp only [zc7, hw, if_true, e]; rfl)]
 exact ⟨_, _, rfl⟩
theorem chk_two {b c : Str} {m n : Nat} (hw : w = "same") (ea : za9 ds b = some m) (eb : za9 ds c = some n) : Wp ((mSeq Yc Ya : M Fl) (cG s ds cs a w [b, c]) []) (CP s ds cs a (zc7 ds [w, b, c]).isSome) := by
 have t1 := cg_t1 (s := s) (ds := ds) (cs := cs) (a := a) (w := w) (r := [b, c])
 have t2 := cg_t2 (s := s) (ds := ds) (cs := cs) (a := a) (w := w) (r := [b, c])
 have l2 := cg_l2 (s := s) (ds := ds) (cs := cs) (a := a) (w := w) (r := [b, c])
 rw [show decide (none ∈ [b, c].map (za9 ds)) = false by simp [ea, eb]] at t1
 rw [show (!(decide (w = "even") && decide ([b, c].length = 1) || decide (w = "same") && decide ([b, c].length = 2))) = false by simp [hw]] at t2
 obtain ⟨_, m1, m2⟩ := spotS_some.mp ea
 obtain ⟨_, n1, n2⟩ := spotS_some.mp eb
 let G : IS := cG s ds cs a w [b, c]
 have v5 : (mVar 5 : M W) G [] = .ok (.t (.lst [.int (m : Nat), .int (n : Nat)])) [] := by
  refine cg_v5.trans ?_
  rw [show (([b, c].map (za9 ds)).map optN) = [optN (za9 ds b), optN (za9 ds c)] from rfl, ea, eb]
  rfl
 have i0 : (mBin ixW (mVar 5) Yd : M W) G [] = .ok (.t Yid) [] := binP v5 rfl zes
 have i1 : (mBin ixW (mVar 5) Yg : M W) G [] = .ok Yau [] := binP v5 rfl ev_ixl1
 have ge : (zae asB (mBin iGe (mBin ixW (mVar 5) Yd) (mBin ixW (mVar 5) Yg)) : M Bool) G [] = .ok (decide (n ≤ m)) [] := za8 (binP i0 i1 (by
  rw [iGe_ii]
  have : decide (((n : Nat) : Int) ≤ (m : Nat)) = decide (n ≤ m) := by rw [decide_eq_decide]; omega
  rw [this]))
 have ne : (zae asB (mBin Yv (mBin ixW (mVar 1) (mBin ixW (mVar 5) Yd)) (mBin ixW (mVar 1) (mBin ixW (mVar 5) Yg))) : M Bool) G [] = .ok (!decide (ds.getD m ("", "") = ds.getD n ("", ""))) [] :=
  za8 (binP (binP (a := .t Yfq) rfl i0 (ixdl m1)) (binP (a := .t Yfq) rfl i1 (ixdl n1)) Yjc)
 refine zam (zaw (orE (a := false) t1 fun _ => t2) Ybp fun _ => za3 (zax ?_))
 have cS : (zc7 ds [w, b, c]).isSome = decide (m < n ∧ ds.getD m ("", "") = ds.getD n ("", "")) := by
  simp only [zc7, hw, if_true, ea, eb]
  have iff : (m < n ∧ (ds.getD m ("", "")).2 = (ds.getD n ("", "")).2) ↔ (m < n ∧ ds.getD m ("", "") = ds.getD n ("", "")) := ⟨fun z => ⟨z.1, Prod.ext (m2.trans n2.symm) z.2⟩, fun z => ⟨z.1, by rw [z.2]⟩⟩
  by_cases q : m < n ∧ ds.getD m ("", "") = ds.getD n ("", "")
  ·rw [if_pos (iff.mpr q), decide_eq_true q]; rfl
  ·rw [if_neg fun z => q (iff.mp z), decide_eq_false q]; rfl
 rw [cS]
 refine zam (zaw (andE l2 fun _ => ge) (fun z => zay (vc_c (zd7 ⟨rfl, ?_⟩))) fun z => za3 (zax ?_))
 ·rw [if_neg]
  simp at z
  simp only [decide_eq_true_eq, not_and]
  omega
 ·have lt : m < n := by simp at z; omega
  refine zaw (andE l2 fun _ => ne) (fun z => zay (vc_c ⟨rfl, ?_⟩)) fun z => za3 ⟨rfl, ?_⟩
  ·have q : ¬ ds.getD m ("", "") = ds.getD n ("", "") := fun e => by
    rw [decide_eq_true e] at z
    simp at z
   rw [if_neg (by rw [decide_eq_false fun x => q x.2]; simp)]
  ·have q : ds.getD m ("", "") = ds.getD n ("", "") := Classical.byContradiction fun e => by
    rw [decide_eq_false e] at z
    simp at z
   rw [if_pos (by rw [decide_eq_true ⟨lt, q⟩])]
   exact ⟨_, _, rfl⟩
theorem chk_rest : Wp ((mSeq Yc Ya : M Fl) Yec []) (CP s ds cs a (zc7 ds (w :: r)).isSome) := by
 by_cases hn : none ∈ r.map (za9 ds)
 ·exact chk_bad (by rw [decide_eq_true hn]; rfl) (chkPS_none hn)
 ·have sm : ∀ a ∈ r, ∃ n, za9 ds a = some n := fun a ha => by
   cases e : za9 ds a with
   | some n => exact ⟨n, rfl⟩
   | none => exact absurd (List.mem_map.mpr ⟨a, ha, e⟩) hn
  clear hn
  match r, sm with
  | [], _ => exact chk_bad Y4 rfl
  | _ :: _ :: _ :: _, _ => exact chk_bad Y4 rfl
  | [b], sm =>
   obtain ⟨n, e⟩ := sm b Yj
   by_cases hw : w = "even"
   ·exact chk_one hw e
   ·exact chk_bad (by simp [hw]) (by simp [zc7, hw])
  | [b, c], sm =>
   obtain ⟨m, ea⟩ := sm b Yj
   obtain ⟨n, eb⟩ := sm c (List.mem_cons_of_mem _ Yj)
   by_cases hw : w = "same"
   ·exact chk_two hw ea eb
   ·exact chk_bad (by simp [hw]) (by simp [zc7, hw])
end
theorem chk_turn {a : Str} {cs : List Str} {w4 w5 : Option W} (al : a.length ≤ 4000) (dl : ds.length ≤ 1000) :
  Wp (zcl (cE s ds cs Yy w4 w5) []) (CP s ds cs a (chkS ds a).isSome) := by
 unfold zcl
 have sp : (mSM zbl (mVar 3) Yay : M W) (cE s ds cs Yy w4 w5) [] = .ok (.t (.lst ((Txt.split a " ").map T.str))) [] := ze5 (a := a) rfl rfl Yfd
 refine zam (zbi (Wp.of sp (zax ?_)))
 have pn := zd9 (a := a) (y := " ")
 rw [zea] at pn
 have p0 := split_ne a " "
 unfold chkS
 generalize Txt.split a " " = ps at pn p0
 match ps, pn, p0 with
 | w :: r, pn, _ =>
  rw [List.length_cons] at pn
  let P : Option W := some (.t Ycv)
  have sl : (mSl (mVar 4) (zbt Yg) zat : M W) (cE s ds cs Yy P w5) [] = .ok (.t (.lst (r.map T.str))) [] := by
   refine wpV (vc_sl (za1 (w := .t Ycv) rfl (zeg (vc_c ⟨_, rfl, zci (vc_slWl ⟨?_, rfl⟩)⟩))))
   have := cutL_from2 ((w :: r).map T.str) 1
   rw [show ((1 : Nat) : Int) = 1 from rfl] at this
   rw [this]
   rfl
  have sq := spots_is (ds := ds) (ws := r) (hp := ([] : IH)) Yb dl
  exact zam (zbi (Wp.of (zar (ws := [.t (.lst (r.map T.str)), .t Yfq]) (zbn sl (zbn rfl rfl)) sq) (zax chk_rest)))
theorem allC_iff {cs : List Str} : (allC ds Ybl).isSome = cs.all fun c => (chkS ds c).isSome := by
 induction cs with
 | nil => rfl
 | cons a r ih =>
  have u : allC ds (T.str a :: r.map T.str) = match chkS ds a, allC ds (r.map T.str) with | some c, some cs => some (c :: cs) | _, _ => none := rfl
  rw [List.map_cons, List.all_cons, ← ih, u]
  cases chkS ds a <;> cases allC ds (r.map T.str) <;> rfl
theorem chkTx_nodup {cs : List Chk} (h : ∀ c ∈ cs, chkOk ds c) : (cs.map zbe).Nodup ↔ cs.Nodup := by
 constructor
 ·intro z
  exact (List.pairwise_map.mp z).imp fun h e => h (by rw [e])
 ·intro z
  refine List.pairwise_map.mpr (List.Pairwise.imp_of_mem (fun {a b} ha hb ne e => ne ?_) z)
  have h1 := chkTx_S (h a ha)
  rw [e, chkTx_S (h b hb)] at h1
  exact (Option.some.inj h1).symm
theorem are_checks_is (hl : s.length ≤ 1900) (dl : ds.length ≤ 1000) : zdk [.t (.str s), .t Yfq] hp = .ok (.t (.bl (zei ds Yge).isSome)) hp := by
 refine wpV ?_
 refine zdc (ts := [.str s, .lst Yh]) (eta := [some Yci, some Yb1, none, none, none, none]) rfl rfl ?_
 unfold B_w_are_checks
 have sp : (mSM zbl (mVar 0) Ycb : M W) [some Yci, some Yb1, none, none, none, none] [] = .ok (.t (.lst Yge)) [] := ze5 (a := s) rfl rfl Yfd
 refine zam (zbi (Wp.of sp (zax ?_)))
 have sn := zd9 (a := s) (y := ", ")
 rw [ze0] at sn
 have sL : ∀ x ∈ Txt.split s ", ", x.length ≤ 1900 := fun x hx => Nat.le_trans (zfg hx) hl
 generalize Txt.split s ", " = cs at sn sL
 show Wp ((mSeq _ _ : M Fl) (cE s ds cs none none none) []) _
 have all : (zei ds Ybl).isSome = ((cs.all fun c => (chkS ds c).isSome) && decide cs.Nodup) := by
  rw [← allC_iff]
  unfold zei
  cases e : allC ds (cs.map T.str) with
  | none => rfl
  | some xs =>
   obtain ⟨e1, ok⟩ := allC_some e
   have e2 : cs = xs.map zbe := strs_inj (by rw [e1, List.map_map]; rfl)
   have nd := chkTx_nodup ok
   rw [← e2] at nd
   simp only [Option.isSome_some, Bool.true_and]
   by_cases q : xs.Nodup
   ·rw [if_pos q, decide_eq_true (nd.mpr q)]; rfl
   ·rw [if_neg q, decide_eq_false fun z => q (nd.mp z)]; rfl
 rw [all]
 refine zam (vc_for (vc_sq (za1 (w := .t (.lst Ybl)) rfl (vc_sqL ?_))))
 refine vc_loopR (fun vs eta h => h = [] ∧ ∃ (rest : List Str) (w3 w4 w5 : Option W), vs = (rest.map T.str).map W.t ∧ eta = cE s ds cs w3 w4 w5 ∧ (∀ x ∈ rest, x.length ≤ 1900) ∧ (cs.all fun c => (chkS ds c).isSome) = rest.all fun c => (chkS ds c).isSome)
  (fun w h => h = [] ∧ w = .t Ycd ∧ (cs.all fun c => (chkS ds c).isSome) = false) ?_ _ _ _ ⟨rfl, cs, none, none, none, rfl, rfl, sL, rfl⟩ ?_ ?_
 ·rintro w vs eta h ⟨rfl, rest, w3, w4, w5, e1, rfl, rl, al⟩
  match rest, e1 with
  | a :: rest, e1 =>
   cases e1
   refine ⟨_, rfl, (chk_turn (s := s) (a := a) (cs := cs) (w4 := w4) (w5 := w5) (by have := rl a Yj; omega) dl).mono fun fl h ⟨eh, q⟩ => ?_⟩
   subst eh
   rw [List.all_cons] at al
   by_cases c : (chkS ds a).isSome = true
   ·rw [if_pos c] at q
    obtain ⟨w4', w5', rfl⟩ := q
    rw [c, Bool.true_and] at al
    exact .inl ⟨_, rfl, rfl, rest, _, w4', w5', rfl, rfl, fun x hx => rl x Ybu, al⟩
   ·rw [if_neg c] at q
    rw [Bool.eq_false_iff.mpr c, Bool.false_and] at al
    exact .inr ⟨_, q, rfl, rfl, al⟩
 ·rintro e h ⟨rfl, rest, w3, w4, w5, e1, rfl, rl, al⟩
  match rest, e1 with
  | [], _ =>
   obtain ⟨n, en, in_⟩ := lenset_iff (F := mVar 2) (eta := cE s ds cs w3 w4 w5) (hp := []) (h1 := []) (l := cs) rfl Yb
   refine zax (zay (Wp.of (binP en (zcn (a := .t (.lst Ybl)) rfl Yap) ev_eqi) ⟨_, rfl, ?_, rfl⟩))
   rw [al]
   have : decide (((n : Nat) : Int) = (cs.length : Nat)) = decide cs.Nodup := by rw [decide_eq_decide, ← in_]; omega
   simp only [Bool.false_eq_true, if_false, this, List.all_nil, Bool.true_and]
 ·rintro x h ⟨rfl, rfl, al⟩
  refine zd7 ⟨_, rfl, ?_, rfl⟩
  rw [al]
  rfl
end
section
open TL
variable {hp : IH} {s : Str}
theorem cut7 {p : Str} : (cutS p none (some 7) = "reader ") ↔ Txt.startswith p "reader " = true := by
 have e : Txt.startswith p "reader " = (decide (("reader " : Str).length ≤ p.length) && ((tl p).take ("reader " : Str).length == tl ("reader " : Str))) := by
  unfold Txt.startswith
  rw [StrLaws.subAt_eq, List.drop_zero, Nat.zero_add]
 rw [e, zde, Bool.and_eq_true, beq_iff_eq, decide_eq_true_eq, C8.cutS_slice]
 have c : Txt.slice p none (some 7) = SX.S ((tl p).take 7) := by
  have := SX.slice_to (a := tl p) (i := 7) Yb
  exact (congrArg (fun z => Txt.slice z none (some (7 : Int))) (mk_tl p).symm).trans this
 rw [c]
 have k : tl (SX.S ((tl p).take 7)) = (tl p).take 7 := rfl
 have l7 : (tl ("reader " : Str)).length = 7 := by rw [← len_tl, zde]
 constructor
 ·intro h
  have h2 : (tl p).take 7 = tl ("reader " : Str) := by rw [← h]
  refine ⟨?_, h2⟩
  have := congrArg List.length h2
  rw [l7, List.length_take, ← len_tl] at this
  omega
 ·intro h
  refine str_eq ?_
  rw [k, h.2]
theorem rS_gap (h : (zbf s "reader ").2 = "") : zfh s = none := by
 have p : Txt.partition ("" : Str) " if " = (("" : Str), ("" : Str), ("" : Str)) := by decide +kernel
 have : kdR (.lst (([""] : List Str).map T.str)) = none := by decide +kernel
 unfold zfh
 rw [h, p]
 simp only [split_e, this]
 split <;> rfl
theorem wreader_is (hl : s.length ≤ 500) : zck [.t (.str s)] hp = .ok (.t (.bl (zfh s).isSome)) hp := by
 refine wpV ?_
 have pl := par_len s ": "
 let p := Txt.partition s ": "
 let E : Option W → Option W → Option W → Option W → Option W → Option W → Option W → IS := fun w1 w2 w3 w4 w5 w6 w7 => [some Yci, w1, w2, w3, w4, w5, w6, w7]
 refine zdc (ts := [.str s]) (eta := E none none none none none none none) rfl rfl ?_
 unfold B_w_is_reader
 have e1 : (mSM zau (mVar 0) Yic : M W) (E none none none none none none none) [] = .ok (.t (.pr [.str p.1, .str p.2.1, .str p.2.2])) [] := ze5 rfl rfl (by
  unfold zau
  simp only
  rw [if_pos ⟨by decide +kernel, by omega⟩])
 refine zam (vc_asg (Wp.of e1 ⟨E Ycr Ybv Ybw none none none none, rfl, zax ?_⟩))
 let F : IS := E Ycr Ybv Ybw none none none none
 have l1 : p.1.length ≤ 500 := by show (Txt.partition s ": ").1.length ≤ _; omega
 have l2 : p.2.2.length ≤ 500 := by show (Txt.partition s ": ").2.2.length ≤ _; omega
 have cl : ∀ lo hi, (cutS p.1 lo hi).length ≤ 500 := fun lo hi => Nat.le_trans (cutS_len p.1 lo hi) l1
 have u1 : (zae asB (mBin Ys (mVar 2) Ycg) : M Bool) F [] = .ok (decide (p.2.1 = "")) [] := za8 (binP (a := .t (.str p.2.1)) rfl rfl Ybg)
 have sl : ∀ lo hi, slW (.t (.str p.1)) lo hi [] = .ok (.t (.str (cutS p.1 lo hi))) [] := fun lo hi => by
  simp only [slW]
  rw [if_pos (show p.1.length ≤ 16777216 by omega)]
 have u2 : (zae asB (mBin Yv (mSl (mVar 1) zat (zbt (mC (.int 7)))) (mC Ycw)) : M Bool) F [] = .ok (!decide (cutS p.1 none (some 7) = "reader ")) [] := za8 (binP (a := .t (.str (cutS p.1 none (some 7)))) (wpV (vc_sl (za1 (w := .t (.str p.1)) rfl (zci (zeg (vc_c ⟨_, rfl, Wp.of (sl _ _) ⟨rfl, rfl⟩⟩)))))) rfl Ybg)
 let n := cutS p.1 (some 7) none
 have u3 : (mNot Yg9 : M Bool) F [] = .ok (!nmB n) [] := notE (by
  have a : (mSl (mVar 1) (zbt (mC (.int 7))) zat : M W) F [] = .ok Yhm [] := wpV (vc_sl (za1 (w := .t (.str p.1)) rfl (zeg (vc_c ⟨_, rfl, zci (Wp.of (sl _ _) ⟨rfl, rfl⟩)⟩))))
  rw [zdd, zar (ws := [.t (.str n)]) (zbn a rfl) (wname_is (by have := cl (some 7) none; show (cutS p.1 (some 7) none).length ≤ _; omega))]
  rfl)
 refine zam (zaw (orE u1 fun _ => orE u2 fun _ => u3) (fun h => zay (vc_c (zd7 ⟨_, rfl, ?_, rfl⟩))) fun h => za3 (zax ?_))
 ·suffices z : zfh s = none by rw [z]; rfl
  by_cases g : p.2.1 = ""
  ·refine rS_gap ?_
   have r : p.2.2 = "" := by
    rcases PyProof.Rows.partition_whole s ": " with ⟨z, _⟩ | ⟨i, z, _⟩
    ·show (Txt.partition s ": ").2.2 = ""
     rw [z]; rfl
    ·have g : (Txt.partition s ": ").2.1 = "" := g
     rw [z] at g
     exact absurd (show (": " : Str) = "" from g) Yt
   unfold zbf
   split
   ·exact r
   ·rfl
  ·rw [decide_eq_false g, Bool.false_or, Bool.or_eq_true, Bool.not_eq_true', decide_eq_false_iff_not, Bool.not_eq_true'] at h
   unfold zfh
   rw [if_neg]
   unfold zbf
   by_cases st : Txt.startswith p.1 "reader " = true
   ·rw [if_pos st]
    rcases h with h | h
    ·exact absurd (cut7.mpr st) h
    ·intro z
     have : nmB (cutS p.1 (some ((("reader " : Str).length : Nat) : Int)) none) = true := z
     rw [zde] at this
     have : nmB n = true := this
     rw [h] at this
     cases this
   ·rw [if_neg st]
    exact (by decide +kernel : ¬ nmB "" = true)
 ·rw [Bool.or_eq_false_iff, Bool.or_eq_false_iff, decide_eq_false_iff_not, Bool.not_eq_false', decide_eq_true_eq, Bool.not_eq_false'] at h
  obtain ⟨hg, hk, hn⟩ := h
  have st := cut7.mp hk
  have nS : zbf s "reader " = (n, p.2.2) := by
   unfold zbf
   rw [if_pos st, zde]
   rfl
  have pl2 := par_len p.2.2 " if "
  generalize hp2 : Txt.partition p.2.2 " if " = q at pl2
  obtain ⟨a, j, k⟩ := q
  simp only at pl2
  have rs : (zfh s).isSome = (match rdS a with | some ds => decide (j = "") || (zei ds ((Txt.split k ", ").map T.str)).isSome | none => false) := by
   unfold zfh rdS
   rw [nS]
   simp only
   rw [if_pos hn, hp2]
   simp only
   cases kdR (.lst ((Txt.split a ", ").map T.str)) with
   | none => rfl
   | some ds =>
    simp only [Option.bind_some]
    by_cases hr : hasR ds = true
    ·rw [if_pos hr, if_pos hr, Option.isSome_map]
     by_cases c : j = ""
     ·have : chkL (a, j, k) = [] := if_pos c
      rw [decide_eq_true c, this]
      rfl
     ·have : chkL (a, j, k) = Txt.split k ", " := if_neg c
      rw [decide_eq_false c, this]
      exact (Bool.false_or _).symm
    ·rw [if_neg hr, if_neg hr]
     rfl
  have e2 : (mSM zau (mVar 3) Ygz : M W) F [] = .ok (.t (.pr [.str a, .str j, .str k])) [] := ze5 (a := p.2.2) rfl rfl (by
   unfold zau
   simp only
   rw [if_pos ⟨by decide +kernel, by omega⟩, hp2])
  refine zam (vc_asg (Wp.of e2 ⟨E Ycr Ybv Ybw Yy Yhx Yhy none, rfl, zax ?_⟩))
  have e3 : (zaq zdu [] Ybb : M W) (E Ycr Ybv Ybw Yy Yhx Yhy none) [] = .ok (.t (dsLT (rdS a))) [] := zar (ws := [.t (.str a)]) rfl (wdeeds_is Yb)
  refine zam (zbi (Wp.of e3 (zax (zay ?_))))
  let G : Option (List Deed) → IS := fun D => E Ycr Ybv Ybw Yy Yhx Yhy (some (.t (dsLT D)))
  rw [rs]
  have dl : ∀ ds, rdS a = some ds → ds.length ≤ 1000 := fun ds e => by
   unfold rdS at e
   obtain ⟨ds', e1, e2⟩ := Option.bind_eq_some_iff.mp e
   split at e2
   ·cases e2
    exact kdR_len (st_split (r := a) Yb) e1
   ·cases e2
  show Wp ((mAndV _ _ : M W) (G (rdS a)) []) _
  generalize rdS a = D at dl
  cases D with
  | none => exact vc_andV (Wp.of (a := .t Ycd) (h := []) rfl ⟨false, rfl, ⟨_, rfl, rfl, rfl⟩⟩)
  | some ds =>
   have t1 : (mBin Ys (mVar 5) Ycg : M W) (G (some ds)) [] = .ok (.t (.bl (decide (j = "")))) [] := binP (a := .t (.str j)) rfl rfl Ybg
   refine vc_andV (Wp.of (a := .t (.bl true)) (h := []) rfl ⟨true, rfl, vc_orV (Wp.of t1 ⟨_, rfl, ?_⟩)⟩)
   by_cases c : j = ""
   ·simp only [decide_eq_true c, if_true, Bool.true_or]
    exact ⟨_, rfl, rfl, trivial⟩
   ·simp only [decide_eq_false c, Bool.false_eq_true, if_false, Bool.false_or]
    have ac := are_checks_is (s := k) (ds := ds) (hp := ([] : IH)) Yb (dl ds rfl)
    exact Wp.of (zar (ws := [.t (.str k), .t Yfq]) rfl ac) ⟨_, rfl, rfl, trivial⟩
end
section
open TL
variable {hp h : IH} {i j : Nat} {x : Str} {n : Str} {ds : List Deed}
/-- the room that words take -/
def lsum (ps : List Str) : Nat := (ps.map fun p => p.length + 1).sum
theorem lsum_sub {ps qs : List Str} (h : ps.Sublist qs) : lsum ps ≤ lsum qs := by
 induction h with
 | slnil => exact Nat.le_refl _
 | cons a _ ih => simp only [lsum, List.map_cons, List.sum_cons] at ih ⊢; omega
 | cons_cons a _ ih => simp only [lsum, List.map_cons, List.sum_cons] at ih ⊢; omega
theorem zfi (ps qs : List Str) : lsum (ps ++ qs) = lsum ps + lsum qs := by simp only [lsum, List.map_append, List.sum_append_nat]
theorem join_lsum : ∀ ps : List Str, (Txt.join " " ps).length ≤ lsum ps
 | [] => by rw [join_nil]; exact Nat.zero_le _
 | [a] => by rw [zbz]; simp only [lsum, List.map_cons, List.map_nil, List.sum_cons, List.sum_nil]; omega
 | a :: b :: r => by
  have := join_lsum (b :: r)
  rw [za7, zaj, zaj, zea]
  simp only [lsum, List.map_cons, List.sum_cons] at this ⊢
  omega
theorem lsum_join : ∀ ps : List Str, ps ≠ [] → lsum ps = (Txt.join " " ps).length + 1
 | [], h => absurd rfl h
 | [a], _ => by rw [zbz]; simp only [lsum, List.map_cons, List.map_nil, List.sum_cons, List.sum_nil]; omega
 | a :: b :: r, _ => by
  have := lsum_join (b :: r) Y4
  rw [za7, zaj, zaj, zea]
  simp only [lsum, List.map_cons, List.sum_cons] at this ⊢
  omega
theorem lsum_split (x : Str) : lsum (Txt.split x " ") = x.length + 1 := by
 rw [lsum_join _ (split_ne _ _), zc0]
theorem cutL_sub {A : Type} (xs : List A) (lo hi : Option Int) : (cutL xs lo hi).Sublist xs := (List.take_sublist _ _).trans (List.drop_sublist _ _)
def odd07 : List Str := ["", "reader", "read", "look", "a", "a,", "c", "if", "even", "same", "0", "1", "2,", "r:", "write", "01", "abcde"]
def mid04 : List Str := [" ", ",", ":", "\n", "q", ", "]
theorem odd_len : ∀ o ∈ odd07, o.length ≤ 10 := by decide +kernel
theorem mid_len : ∀ o ∈ mid04, o.length ≤ 10 := by decide +kernel
def E07 (w0 w2 w4 w5 : Option W) (i : Nat) (x : Str) (ps : List Str) (w7 w8 w9 w10 w11 : Option W) : IS := [w0, some (.t Yf6), w2, some (.r i), w4, w5, some Yd6, some (.t Y8), w7, w8, w9, w10, w11]
theorem join_ok {Fa : M W} {E : IS} {h1 : IH} {qs : List Str} (e : Fa E hp = .ok (.t (.lst (qs.map T.str))) h1) (l : lsum qs ≤ 1500) : (mSM zeq Yay Fa : M W) E hp = .ok (.t (.str (Txt.join " " qs))) h1 := by
 have nq : qs.length ≤ lsum qs := by
  clear e l
  induction qs with
  | nil => exact Nat.zero_le _
  | cons a r ih => simp only [lsum, List.map_cons, List.sum_cons, List.length_cons] at ih ⊢; omega
 have lq : ∀ q ∈ qs, q.length ≤ 1500 := fun q hq => by
  have := lsum_sub (List.singleton_sublist.mpr hq)
  simp only [lsum, List.map_cons, List.map_nil, List.sum_cons, List.sum_nil] at this l
  omega
 exact ze5 (a := " ") rfl e (joinS false lq (by
  rw [zea]
  have : qs.length * (1500 + 1) ≤ 1500 * 1501 := Nat.mul_le_mul Yb Yd8
  omega))
theorem sl_to {E : IS} {k m : Nat} {q : Int} {ps : List Str} (e : E[k]? = some (some (.t Y8))) (e2 : E[m]? = some (some (.t (.int q)))) : (mSl (mVar k) zat (zbt (mVar m)) : M W) E hp = .ok (.t (.lst ((cutL ps none (some q)).map T.str))) hp :=
 wpV (vc_sl (za1 e (zci (zeg (za1 e2 ⟨_, rfl, vc_slWl ⟨by rw [cutL_map], rfl⟩⟩)))))
theorem sl_from {E : IS} {k : Nat} {q : Int} {ps : List Str} {F : M W} {h1 : IH} (e : E[k]? = some (some (.t Y8))) (e2 : F E hp = .ok (.t (.int q)) h1) : (mSl (mVar k) (zbt F) zat : M W) E hp = .ok (.t (.lst ((cutL ps (some q) none).map T.str))) h1 :=
 wpV (vc_sl (za1 e (zeg (Wp.of e2 ⟨_, rfl, zci (vc_slWl ⟨by rw [cutL_map], rfl⟩)⟩))))
theorem addS {E : IS} {Fa Fb : M W} {h1 h2 : IH} {ps qs : List Str} (a : Fa E hp = .ok (.t Y8) h1) (b : Fb E h1 = .ok (.t (.lst (qs.map T.str))) h2) (l : lsum ps ≤ 1000) (l2 : lsum qs ≤ 1000) : (mBin wAdd Fa Fb : M W) E hp = .ok (.t (.lst ((ps ++ qs).map T.str))) h2 := by
 have nq : ∀ qs : List Str, qs.length ≤ lsum qs := fun qs => by
  induction qs with
  | nil => exact Nat.zero_le _
  | cons a r ih => simp only [lsum, List.map_cons, List.sum_cons, List.length_cons] at ih ⊢; omega
 have := nq ps
 have := nq qs
 exact wpV (vc_bin (Wp.of a (Wp.of b (vc_addL (xs := ps.map T.str) (ys := qs.map T.str) rfl rfl (by rw [List.length_map, List.length_map]; omega) ⟨by rw [List.map_append], rfl⟩))))
theorem addI {E : IS} {Fa Fb : M W} {h1 h2 : IH} {a b : Int} (e : Fa E hp = .ok (.t (.int a)) h1) (e2 : Fb E h1 = .ok (.t (.int b)) h2) : (mBin wAdd Fa Fb : M W) E hp = .ok (.t (.int (a + b))) h2 := by
 rw [bin_ok (h1 := h1) (h2 := h2) e e2 (r := .ok (.t (.int (a + b))) h2) rfl]
theorem pick_str {os : List Str} (d : Deal i j hp) (h0 : 0 < os.length) (h1 : os.length < 100) : ∃ (o : Str) (hp' : IH), o ∈ os ∧ zcq [.r i, .t (.lst (os.map T.str))] hp = .ok (.t (.str o)) hp' ∧ Deal i j hp' := by
 obtain ⟨t, hp', ht, e, d', _⟩ := pick_is (ts := os.map T.str) d (by rw [List.length_map]; exact h0) Yab
 obtain ⟨o, ho, rfl⟩ := List.mem_map.mp ht
 exact ⟨o, hp', ho, e, d'⟩
end
section
open TL
variable {hp h : IH} {i j : Nat} {x : Str}
theorem bent07 (d : Deal i j h) (xl : x.length ≤ 200) {w0 w2 w4 w5 w7 w8 w9 w10 w11 : Option W} :
  Wp (f_law_l1 (E07 w0 w2 w4 w5 i x (Txt.split x " ") w7 w8 w9 w10 w11) h) fun fl h' => ∃ w8 w9 w10 w11, fl = .nx (E07 w0 w2 w4 w5 i x (Txt.split x " ") w7 w8 w9 w10 w11) ∧ Deal i j h' := by
 have ls := lsum_split x
 have pn := zd9 (a := x) (y := " ")
 rw [zea] at pn
 generalize Txt.split x " " = ps at ls pn
 have l1 : ∀ lo hi, lsum (cutL ps lo hi) ≤ 201 := fun lo hi => Nat.le_trans (lsum_sub (cutL_sub ..)) Yb
 unfold f_law_l1
 let E := E07 w0 w2 w4 w5 i x ps
 obtain ⟨a, h1, e1, a0, a1, d1, _⟩ := zee (wide := (ps.length : Int) + 1) d Yb Yb
 obtain ⟨f, h2, e2, f0, f1, d2, _⟩ := zee (wide := 4) d1 Yb Yb
 have ol : ∀ {h : IH} {w7 w8 w9 w10 w11 : Option W}, (mBin wAdd (mApp oLen (zab (mVar 7) (mNil))) Yg : M W) (E w7 w8 w9 w10 w11) h = .ok (.t (.int ((ps.length : Int) + 1))) h := addI Yhr rfl
 have c1 : (zaq za0 [] Yg4 : M W) (E w7 w8 w9 w10 w11) h = .ok (.t (.int a)) h1 := zar (ws := [.r i, .t (.int ((ps.length : Int) + 1))]) (zbn rfl (zbn ol rfl)) e1
 have c2 : (zaq za0 [] (zab (mVar 3) Yhq) : M W) (E w7 w8 w9 w10 w11) h1 = .ok (.t (.int f)) h2 := zar (ws := [.r i, .t (.int 4)]) rfl e2
 refine zam (vc_par2 (zak (Wp.of c1 (zak (Wp.of c2 (zbb ⟨_, _, rfl, zax ?_⟩))))))
 let G : Option W → Option W → IS := fun w10 w11 => E w7 (some (.t (.int a))) (some (.t (.int f))) w10 w11
 show Wp ((mSeq _ _ : M Fl) (G w10 w11) h2) _
 obtain ⟨o, h3, ho, e3, d3⟩ := pick_str (os := odd07) d2 Ybz Ybz
 have o10 := odd_len o ho
 obtain ⟨b, h4, e4, b0, b1, d4, _⟩ := zee (wide := 2) d3 Yb Yb
 have p1 : (zaq zcq [] (zab (mVar 3) Yq) : M W) (G w10 w11) h2 = .ok (.t (.str o)) h3 := zar (ws := [.r i, .t Yf6]) rfl e3
 have p2 : (mApp zas (zab (zaq zcq [] (zab (mVar 3) Yq)) (mNil)) : M W) (G w10 w11) h2 = .ok (.t (.lst ([o].map T.str))) h3 := wpV (zct (zak (Wp.of p1 (zbb (zd8 (ts := [.str o]) Yaj ⟨rfl, rfl⟩)))))
 have p3 : (mBin wAdd (mVar 9) (zaq za0 [] (zab (mVar 3) (zab Yb8 (mNil)))) : M W) (G w10 w11) h3 = .ok (.t (.int (a + b))) h4 := addI rfl (zar (ws := [.r i, .t (.int 2)]) rfl e4)
 have lo : lsum [o] ≤ 11 := by simp only [lsum, List.map_cons, List.map_nil, List.sum_cons, List.sum_nil]; omega
 have q1 := addS (addS (sl_to (k := 7) (m := 9) (E := G w10 w11) (hp := h2) (ps := ps) (q := a) rfl rfl) p2 (by have := l1 none (some a); omega) Yb) (sl_from (k := 7) rfl p3) (by have := l1 none (some a); rw [zfi]; omega) (by have := l1 (some (a + b)) none; omega)
 have q2 := join_ok q1 (by have := l1 none (some a); have := l1 (some (a + b)) none; rw [zfi, zfi]; omega)
 refine zam (zbi (Wp.of q2 (zax ?_)))
 have yl := join_lsum (cutL ps none (some a) ++ [o] ++ cutL ps (some (a + b)) none)
 rw [zfi, zfi] at yl
 have yl : (Txt.join " " (cutL ps none (some a) ++ [o] ++ cutL ps (some (a + b)) none)).length ≤ 500 := by
  have := l1 none (some a)
  have := l1 (some (a + b)) none
  omega
 generalize Txt.join " " (cutL ps none (some a) ++ [o] ++ cutL ps (some (a + b)) none) = y at yl
 show Wp ((mSeq _ _ : M Fl) Yin h4) _
 -- a word less
 have s2 : Wp ((mIf (zae asB (mBin Ys (mVar 10) Yd)) Ydr (zbh) : M Fl) Yin h4) fun fl h' => ∃ y : Str, fl = .nx Yin ∧ y.length ≤ 500 ∧ Deal i j h' := by
  refine zaw (b := decide (f = 0)) (za8 (binP (a := .t (.int f)) rfl rfl Yi5)) (fun _ => ?_) fun _ => za3 ⟨y, rfl, yl, d4⟩
  have q1 := addS (sl_to (k := 7) (m := 9) (E := G Yam w11) (hp := h4) (ps := ps) (q := a) rfl rfl) (sl_from (k := 7) rfl (addI (E := G Yam w11) (Fa := mVar 9) (Fb := mC (.int 1)) rfl rfl)) (by have := l1 none (some a); omega) (by have := l1 (some (a + 1)) none; omega)
  have q2 := join_ok q1 (by have := l1 none (some a); have := l1 (some (a + 1)) none; rw [zfi]; omega)
  refine zbi (Wp.of q2 ⟨_, rfl, ?_, d4⟩)
  have yl := join_lsum (cutL ps none (some a) ++ cutL ps (some (a + 1)) none)
  rw [zfi] at yl
  have := l1 none (some a)
  have := l1 (some (a + 1)) none
  omega
 refine zam (s2.mono fun fl h5 ⟨y, e, yl, d5⟩ => ?_)
 subst e
 refine zax ?_
 -- a sign more
 have s3 : Wp ((mIf (zae asB (mBin Ys (mVar 10) Yg)) Yb6 (zbh) : M Fl) Yin h5) fun fl h' => ∃ (y : Str) (w11 : Option W), fl = .nx Yin ∧ y.length ≤ 500 ∧ Deal i j h' := by
  refine zaw (b := decide (f = 1)) (za8 (binP (a := .t (.int f)) rfl rfl Yi5)) (fun _ => ?_) fun _ => za3 ⟨y, w11, rfl, yl, d5⟩
  obtain ⟨c, h6, e6, c0, c1, d6, _⟩ := zee (wide := (x.length : Int) + 1) d5 Yb Yb
  have ol : (mBin wAdd (mApp oLen (zab (mVar 6) (mNil))) Yg : M W) Yin h5 = .ok (.t (.int ((x.length : Int) + 1))) h5 := addI (zcn (a := .t (.str x)) rfl (oLen_str Yb)) rfl
  refine zam (zbi (Wp.of (zar (ws := [.r i, .t (.int ((x.length : Int) + 1))]) (zbn rfl (zbn ol rfl)) e6) (zax ?_)))
  let G2 : IS := G Yam (some (.t (.int c)))
  show Wp ((mSet 11 _ : M Fl) G2 h6) _
  obtain ⟨o, h7, ho, e7, d7⟩ := pick_str (os := mid04) d6 Ybz Ybz
  have o10 := mid_len o ho
  have sl : ∀ {h : IH} lo hi, slW Yd6 lo hi h = .ok (.t (.str (cutS x lo hi))) h := fun lo hi => by
   simp only [slW]
   rw [if_pos (show x.length ≤ 16777216 by omega)]
  have cl : ∀ lo hi, (cutS x lo hi).length ≤ 200 := fun lo hi => Nat.le_trans (cutS_len x lo hi) xl
  have k1 : (mSl (mVar 6) zat (zbt (mVar 12)) : M W) G2 h6 = .ok (.t (.str (cutS x none (some c)))) h6 := wpV (vc_sl (za1 (w := .t (.str x)) rfl (zci (zeg (za1 rfl ⟨_, rfl, Wp.of (sl _ _) ⟨rfl, rfl⟩⟩)))))
  have k2 : (zaq zcq [] Yz : M W) G2 h6 = .ok (.t (.str o)) h7 := zar (ws := [.r i, .t (.lst (mid04.map T.str))]) (zbn rfl (zbn (wpV (zct (zak (vc_c (zak (vc_c (zak (vc_c (zak (vc_c (zak (vc_c (zak (vc_c (zbb (zd8 (ts := mid04.map T.str) Yaj ⟨rfl, rfl⟩)))))))))))))))) rfl)) e7
  have k3 : (mSl (mVar 6) (zbt (mVar 12)) zat : M W) G2 h7 = .ok (.t (.str (cutS x (some c) none))) h7 := wpV (vc_sl (za1 (w := .t (.str x)) rfl (zeg (za1 rfl ⟨_, rfl, zci (Wp.of (sl _ _) ⟨rfl, rfl⟩)⟩))))
  have b1 := cl none (some c)
  have b2 := cl (some c) none
  refine zbi (vc_bin (vc_bin (Wp.of k1 (Wp.of k2 (Wp.of (zfe Yb) (Wp.of k3 (Wp.of (zfe (by rw [zaj]; omega)) ?_)))))))
  exact ⟨_, _, rfl, by rw [zaj, zaj]; omega, d7⟩
 refine zam (s3.mono fun fl h8 ⟨y, w11, e, yl, d8⟩ => ?_)
 subst e
 refine zax ?_
 have hd := heardR_is (s := y) (hp := h8) Yb
 have hk := wreader_is (s := y) (hp := h8) Yb
 have hr := hdR_repr (s := y) (hp := h8) Yb
 have g1 : (mApp oRepr (zab (zaq zb7 [] Ygu) (mNil)) : M W) Yin h8 = .ok (.t (.str (dat (hdR y)).shown)) h8 := zcn (zar (ws := [.t (.str y)]) rfl hd) hr
 have g2 : (mIf (zae truW (zaq zck [] Ygu)) (mVar 11) Yd : M W) Yin h8 = .ok (.t (hdR y)) h8 := by
  have t : (zae truW (zaq zck [] Ygu) : M Bool) Yin h8 = .ok (zfh y).isSome h8 := by
   rw [zdd, zar (ws := [.t (.str y)]) rfl hk]
   rfl
  refine wpV (zaw t (fun c => za1 rfl ?_) fun c => vc_c ?_)
  ·unfold hdR
   rw [if_pos c]
   exact ⟨rfl, rfl⟩
  ·unfold hdR
   rw [if_neg (by rw [c]; simp)]
   exact ⟨rfl, rfl⟩
 refine zaw (b := false) (za8 (binP g1 (zcn g2 hr) (ev_eqs.trans Y4))) Ybp fun _ => za3 ?_
 exact ⟨_, _, _, _, rfl, d8⟩
end
section
open TL
variable {h : IH} {i j : Nat}
abbrev A3 : List Str := ["a", "b", "d"]
theorem a3_nam : ∀ x ∈ A3, namB x = true := by decide +kernel
theorem ce_nam : ∀ x ∈ C2, namB x = true := by decide +kernel
theorem rdr07 {x : Str} {ds : List Deed} {cs : List Chk} (hn : x ∈ ttl) (S : ScrP "read" "look" A3 C2 7 ds) (hc : ∀ c ∈ cs, chkOk ds c) (nd : cs.Nodup) (cl : cs.length ≤ 4) : RK2 (x, ds, cs) := by
 have l7 := S.len
 refine ⟨⟨nam_ok (ttl_nam x hn), fun d hd => ?_, S.nd, by show ds.length ≤ 1000; omega, S.one⟩, by show ds.length ≤ 10; omega, cl, hc, nd⟩
 rcases S.ok _ hd with ⟨e, m⟩ | ⟨e, m⟩
 ·exact ⟨by rw [e]; simp, by rw [e]; exact wrd_read, nam_ok (a3_nam _ m)⟩
 ·exact ⟨by rw [e]; simp, by rw [e]; exact wrd_look, nam_ok (ce_nam _ m)⟩
theorem lnR_len {r : RP} (R : RK2 r) (hl : r.2.1.length ≤ 7) : (lnR r).length ≤ 200 := by
 have sl := steps_len R.k.ok
 have nl := R.k.n.ln
 have cn := R.n
 have il : (" if " : Str).length = 4 := by decide +kernel
 have ck : ∀ y ∈ r.2.2.map zbe, y.length ≤ 10 := fun y hy => by
  obtain ⟨c, hc, rfl⟩ := List.mem_map.mp hy
  exact chkTx_len (R.c c hc) R.l
 have jl := join_len (s := ", ") ck
 rw [List.length_map, ze0] at jl
 unfold lnR rdrTx rdrTxC
 split
 ·rw [zaj, zaj, zaj, zde, cs_len]
  omega
 ·rw [zaj, zaj, zaj, zaj, zaj, zde, cs_len, il]
  omega
def F07 (w0 w2 w4 : Option W) (i : Nat) (w5 w6 w7 w8 w9 w10 w11 w12 : Option W) : IS := [w0, some (.t Yf6), w2, some (.r i), w4, w5, w6, w7, w8, w9, w10, w11, w12]
theorem turn07 (d : Deal i j h) {w0 w2 w4 w5 w6 w7 w8 w9 w10 w11 w12 : Option W} :
  Wp (f_law_l2 (F07 w0 w2 w4 i w5 w6 w7 w8 w9 w10 w11 w12) h) fun fl h' => ∃ w5 w6 w7 w8 w9 w10 w11 w12, fl = .nx (F07 w0 w2 w4 i w5 w6 w7 w8 w9 w10 w11 w12) ∧ Deal i j h' := by
 unfold f_law_l2
 obtain ⟨d0, h1, S0, e1, d1⟩ := glances_is (cs := A3) (ctr := C2) (m := 5) d Yt Ybz Ybz Ybz Ybz Yb Yb
 have l0 := S0.len
 have S7 : ScrP "read" "look" A3 C2 7 d0 := ⟨S0.ok, S0.nd, by omega, S0.one⟩
 obtain ⟨ds, h2, pd, e2, d2⟩ := put_is (ds := d0) (ms := List.replicate 2 (("look", "c") : Deed)) d1 (by rw [List.length_replicate]; omega)
 have S := scrp_more S7 (show d0.length + 2 ≤ 7 by omega) (x := "c") Y4 Yt pd
 have l1 := S.len
 obtain ⟨x, h3, hx, e3, d3⟩ := titles_is d2
 obtain ⟨cs, h4, e4, d4, nd, ck, cl⟩ := tests_drawn (ds := ds) d3 Yb
 have K := rdr07 hx S ck nd cl
 have e5 := reader_text_is (hp := h4) K
 have xl := lnR_len K l1
 have kS := readS_tx K Yb
 generalize hy : lnR (x, ds, cs) = y at e5 xl kS
 let E := F07 w0 w2 w4 i
 have gl : (zaq zdh [] Ybe : M W) (E w5 w6 w7 w8 w9 w10 w11 w12) h = .ok (.t (.lst (d0.map dTr))) h1 := zar (ws := [.r i, .t (.lst (A3.map T.str)), .t (.lst (C2.map T.str)), .t (.int 5)]) rfl e1
 have ml : (mBin wMul Yhl Yb8 : M W) (E w5 w6 w7 w8 w9 w10 w11 w12) h1 = .ok (.t (.lst ((List.replicate 2 (("look", "c") : Deed)).map dTr))) h1 := binP (a := .t (.lst [.tup [.str "look", .str "c"]])) (b := .t (.int (2 : Nat))) rfl rfl (rep_look Yb)
 refine zam (zbi (zfk (zak (za1 rfl (zak (Wp.of gl (zak (Wp.of ml (zbb (Wp.of e2 (zax ?_)))))))))))
 let E5 : IS := E (some Yb1) w6 w7 w8 w9 w10 w11 w12
 show Wp ((mSeq _ _ : M Fl) E5 h2) _
 have tt : (mBin ixW (zaq ze6 [] (zab (mVar 3) (zab Yg (mNil)))) Yd : M W) E5 h2 = .ok Yd6 h3 := by
  rw [bin_ok (h1 := h3) (h2 := h3) (zar (ws := [.r i, .t (.int 1)]) rfl e3) rfl zes]
 have ts : (zaq ze2 [] (zab (mVar 3) Yb7) : M W) E5 h3 = .ok Yi4 h4 := zar (ws := [.r i, .t Yfq]) rfl e4
 refine zam (zbi (zfk (zak (zct (zak (Wp.of tt (zak (za1 rfl (zak (Wp.of ts (zbb (zew (ts := [.str x, .lst Yh, .lst Ycx]) rfl Yaj (zbb (Wp.of e5 (zax ?_)))))))))))))))
 show Wp ((mSeq _ _ : M Fl) Yhf h4) _
 have hd := heardR_is (s := y) (hp := h4) Yb
 have t1 : (zae asB (mBin Yv (zaq zb7 [] (zab (mVar 6) (mNil))) (mVar 6)) : M Bool) Yhf h4 = .ok false h4 := by
  refine za8 (binP (a := .t (.str y)) ((zar (ws := [.t (.str y)]) rfl hd).trans ?_) rfl (ev_eqs.trans Y4))
  unfold hdR
  rw [kS]
  rfl
 refine zam (zaw t1 Ybp fun _ => za3 (zax ?_))
 have sp : (mSM zbl (mVar 6) Yay : M W) Yhf h4 = .ok (.t (.lst ((Txt.split y " ").map T.str))) h4 := ze5 rfl rfl Yfd
 refine zam (zbi (Wp.of sp (zax ?_)))
 refine vc_for (vc_src (zak (vc_c (zbb (Wp.rw (rng_is (n := 4) Yb) (Wp.ok ?_))))))
 refine vc_loop (G := gN 8) (S := f_law_l1) (fun ws eta h => Deal i j h ∧ ∃ w7 w8 w9 w10 w11, eta = E07 w0 w2 w4 (some Yb1) i y (Txt.split y " ") w7 w8 w9 w10 w11) ?_ _ _ _ ⟨d4, w8, w9, w10, w11, w12, rfl⟩ ?_
 ·rintro w ws eta h ⟨d, w7, w8, w9, w10, w11, rfl⟩
  exact ⟨_, rfl, (bent07 d xl (w7 := some w)).mono fun fl h2 ⟨w8, w9, w10, w11, e, d2⟩ => ⟨_, e, d2, _, _, _, _, _, rfl⟩⟩
 ·rintro e h ⟨d, w7, w8, w9, w10, w11, rfl⟩
  exact ⟨_, _, _, _, _, _, _, _, rfl, d⟩
theorem law_is {ns : List Int} (hn : ns.length ≤ 63) : ∃ hp', F_law [.t Yas] [] = .ok Ydd hp' := by
 suffices h : Wp (F_law [.t Yas] []) fun w _ => w = .t (.bl true) by
  obtain ⟨w, h1, e, rfl⟩ := h.ex
  exact ⟨h1, e⟩
 refine vc_fnM (eta := some (.t Yas) :: List.replicate 12 none) rfl rfl ?_
 unfold B_law
 let P : Option W := some (.t Yas)
 have kl : ∀ {h : IH}, oLen [.t Yas] h = .ok (.t (.int (ns.length : Nat))) h := fun {h} => by simp only [oLen, items_s, List.length_map]
 obtain ⟨m, em, hm⟩ : ∃ m : Nat, (if (1 : Int) < (if ((ns.length : Nat) : Int) < 3 then ((ns.length : Nat) : Int) else 3) then (if ((ns.length : Nat) : Int) < 3 then ((ns.length : Nat) : Int) else 3) else 1) = (m : Int) ∧ m < 4 := by
  refine ⟨(if (1 : Int) < (if ((ns.length : Nat) : Int) < 3 then ((ns.length : Nat) : Int) else 3) then (if ((ns.length : Nat) : Int) < 3 then ((ns.length : Nat) : Int) else 3) else 1).toNat, ?_, ?_⟩
  all_goals split <;> split <;> omega
 let o16 : List W := (odd07.take 16).map fun s => W.t (.str s)
 have c1 : (mSet 1 Yu : M Fl) (P :: List.replicate 12 none) [] = .ok (.nx Ygb) [some (.lst o16)] := rfl
 refine zam (Wp.of c1 (zax ?_))
 have c2 : (mDrop (zfd isL zb0 (mVar 1) (zab (mC (.str "abcde")) (mNil))) : M Fl) Ygb [some (.lst o16)] = .ok (.nx Ygb) [some (.lst (odd07.map fun s => W.t (.str s)))] := rfl
 refine zam (Wp.of c2 (zax ?_))
 refine vc_fz (w := .r 0) rfl (Wp.of (a := .t Yf6) (h := [none]) rfl ?_)
 let O : Option W := some (.t Yf6)
 show Wp ((mSeq _ _ : M Fl) (P :: O :: List.replicate 11 none) [none]) _
 refine zam (vc_for (vc_src (zak (zct (zak (vc_c (zak (zct (zak (vc_c (zak (zct (zak (za1 rfl (zbb (Wp.rw kl (Wp.ok (zbb (Wp.rw oMin2_i (Wp.ok (zbb (Wp.rw oMax2_i (Wp.ok (zbb ?_))))))))))))))))))))))))
 rw [em]
 refine Wp.rw (rng_is (n := m) Yb) (Wp.ok ?_)
 refine vc_loop (G := gN 2) (S := f_law_l3) (fun ws eta h => (∃ ks : List Nat, ws = ks.map natW ∧ ∀ k ∈ ks, k < 10) ∧ ∃ r : IS, eta = P :: O :: r ∧ r.length = 11) ?_ _ _ _ ⟨⟨List.range m, rfl, fun k hk => by have := List.mem_range.mp hk; omega⟩, List.replicate 11 none, rfl, rfl⟩ ?_
 ·rintro w ws eta h ⟨⟨ks, ew, hk⟩, r, rfl, rl⟩
  cases ks with
  | nil => simp at ew
  | cons k ks =>
   rw [List.map_cons] at ew
   simp only [List.cons.injEq] at ew
   obtain ⟨rfl, rfl⟩ := ew
   match r, rl with
   | [w2, w3, w4, w5, w6, w7, w8, w9, w10, w11, w12], _ =>
    refine ⟨_, rfl, ?_⟩
    unfold f_law_l3
    have kb := hk k Yj
    obtain ⟨a, h1, e1, d1, _⟩ := deal_is (hp := h) (b := (k : Int)) hn ⟨by omega, by omega⟩
    have ek : natW k = W.t (.int (k : Nat)) := by unfold natW; rw [Int.zero_add]
    rw [ek]
    refine zam (zbi (zfk (zak (za1 rfl (zak (za1 rfl (zbb (Wp.of e1 (zax ?_)))))))))
    refine vc_for (vc_src (zak (vc_c (zbb (Wp.rw (rng_is (n := 6) Yb) (Wp.ok ?_))))))
    refine vc_loop (G := gN 4) (S := f_law_l2) (fun ws eta h => Deal a (a - 1) h ∧ ∃ w4 w5 w6 w7 w8 w9 w10 w11 w12, eta = F07 P Ye0 w4 a w5 w6 w7 w8 w9 w10 w11 w12) ?_ _ _ _ ⟨d1, _, _, _, _, _, _, _, _, _, rfl⟩ ?_
    ·rintro w ws eta h ⟨d, w4, w5, w6, w7, w8, w9, w10, w11, w12, rfl⟩
     exact ⟨_, rfl, (turn07 d (w4 := some w)).mono fun fl h2 ⟨w5, w6, w7, w8, w9, w10, w11, w12, e, d2⟩ => ⟨_, e, d2, _, _, _, _, _, _, _, _, _, rfl⟩⟩
    ·rintro e h ⟨d, w4, w5, w6, w7, w8, w9, w10, w11, w12, rfl⟩
     exact ⟨_, rfl, ⟨ks, rfl, fun k hk' => hk k (List.mem_cons_of_mem _ hk')⟩, _, rfl, rfl⟩
 ·rintro e h ⟨-, r, rfl, rl⟩
  refine zax (zay ?_)
  have hr : ∀ (s : Str) (b : Bool), s.length ≤ 500 → (zfh s).isSome = b → ∀ {h : IH}, (zaq zb7 [] (zab (mC (.str s)) (mNil)) : M W) (P :: O :: r) h = .ok (.t (if b then .str s else .int 0)) h := fun s b hl e h => by
   rw [zar (ws := [.t (.str s)]) rfl (heardR_is hl)]
   unfold hdR
   rw [e]
  have a1 : (mBin Ys (zaq zb7 [] (zab Ycg (mNil))) Yd : M W) (P :: O :: r) h = .ok Ydd h := binP (hr "" false Yt Yt) rfl Yi5
  have a2 : (mBin Ys Yjl Yd : M W) (P :: O :: r) h = .ok Ydd h := binP (hr "reader r: read a if " false Yt Yt) rfl Yi5
  exact vc_andV (Wp.of a1 ⟨true, rfl, Wp.of a2 ⟨_, rfl, rfl⟩⟩)
end
section
variable {P : Program} {w : World} {K : PySem.W.Frag} {mg : Str → Option Value} {base : Heap} {f : Addr} {fd : FuncData} {dfs : List V} {kws : List Yfi}
abbrev DG (K : PySem.W.Frag) (x q : Str) (s : Stmt) (l : List V) (k : List Yfi) (a : Addr) (d : FuncData) : Prop := FunD K x q (defArgs s) (defBody s) (defScope s) l k a d
local macro_rules | `(tactic| simp_all_arith) => `(tactic| exact ⟨rfl, rfl, rfl, by decide +kernel, rfl, by decide +kernel, by decide +kernel⟩)
local macro_rules | `(tactic| simp_all_arith!) => `(tactic| first | exact .inl rfl | exact .inr rfl)
abbrev N_w_deal : List Str := ["_law_script", "_law_base", "_law_cells", "_law_blended", "_law_cell"]
theorem sc_w_deal : FnScope N_w_deal ["_law_script", "_law_base"] (defScope s_w_deal) := by simp_all_arith
theorem yph (F : DG K "_law_deal" "_law_deal" s_w_deal dfs kws f fd)
  (ycy : mg "int" = none)
  (yov : mg "abs" = none) :
  FnG P w K mg base Yn 1 f fd ["_law_script", "_law_base"] (spM K w F_w_deal 2) :=
 okM (k := 0) F sc_w_deal fun cdv A outer s H E hr hgd => by
  have hN := sc_w_deal.nd
  have hu := hr.units
  exact zah (by first | exact st_comp (i := 2) (own := [("_law_cell", 4)]) (T := mYes) (E := zff) rfl hN rfl rfl rfl (zd0 (zbg (zac 0) (zbr (zac 1)) (zbr (zag)))) (by first | exact blkOk_by (N := N_w_deal) (sc := defScope s_w_deal) (by decide +kernel) | exact blkOk_by (by with_unfolding_all rfl) | exact blkOk_by (by decide +kernel +revert)) (fun _ _ _ _ _ => pg_name (i := 4) hN rfl Yf) (zao 4) Y9 Yf7 zbj | exact za5 2 hN (zcc (own := [("_law_cell", 4)]) (T := mYes) (E := zff) rfl hN (zd0 (zbg (zac 0) (zbr (zac 1)) (zbr (zag)))) (by first | exact blkOk_by (N := N_w_deal) (sc := defScope s_w_deal) (by decide +kernel) | exact blkOk_by (by with_unfolding_all rfl) | exact blkOk_by (by decide +kernel +revert)) (fun _ _ _ _ _ => pg_name (i := 4) hN rfl Yf) (zao 4) Y9 Yf7 zbj)) (zah (za5 3 hN (zbm (zag) (ie_mulA (zag) (zac 1)))) (zah (st_for (B := zd6) PassesOwn.never rfl Yi7 Yca (zao 4) (zan (za5 3 hN (ie_mod (ie_bt call_int1 ok_int (zaa (zbm (zbm (ie_mulA (zac 3) (zag)) (ie_mod (ie_bt call_int1 ok_int Yd0 ycy) (zag))) (zag)) (zad)) ycy) (zag))))) (zan (zav (ie_lstL (zaa (ie_revL (zcc (own := [("_law_cell", 4)]) (T := zd5) (E := zfb) rfl hN Yi7 (by first | exact blkOk_by (N := N_w_deal) (sc := defScope s_w_deal) (by decide +kernel) | exact blkOk_by (by with_unfolding_all rfl) | exact blkOk_by (by decide +kernel +revert)) (fun _ _ _ _ _ => pg_name (i := 4) hN rfl Yf) (zao 4) (fun _ _ _ _ _ => its_one (it_ge (zac 4) (ie_pow (zag) (zag)))) (fun _ _ _ _ _ => zac 4) zbj)) (zaa (zac 3) (zad))))))))
abbrev ypv : List Str := ["_law_deal_here", "_law_wide", "_law_left"]
theorem ynz : FnScope ypv ["_law_deal_here", "_law_wide"] (defScope ymi) := by simp_all_arith
theorem ypi (F : DG K "_law_draw" "_law_draw" ymi dfs kws f fd)
  (ycy : mg "int" = none) :
  FnG P w K mg base Yn 1 f fd ["_law_deal_here", "_law_wide"] Yhg :=
 okM (k := 0) F ynz fun cdv A outer s H E hr hgd => by
  have hN := ynz.nd
  have hu := hr.units
  exact zah (st_while (B := zdi) 4096 PassesOwn.never ((zeh (zfa hu Ybi (zc6 (zad))) (zdf (zd1 hu (zal Ybi (ie_neg (zag))) (zag)))).it) (zan (st_expr (ie_pop Ybi)))) (zah (zdb (zfa hu Ybi (zc6 (zad))) (zah (za5 2 hN (ie_pop Ybi)) (zah (st_expr (zed Ybi (zaa (ie_div (zac 2) (zac 1)) (zad)))) (zan (zav (ie_mod (ie_bt call_int1 ok_int Ycj ycy) (zac 1)))))) (zbu)) (zah (st_iput (zac 0) (zag) (ie_mod (ie_bt call_int1 ok_int (zaa (zbm (ie_mulA Ybi (zag)) (zag)) (zad)) ycy) (zag))) (zan (zav (ie_mod (ie_bt call_int1 ok_int (zaa (ie_div Ybi (zag)) (zad)) ycy) (zac 1))))))
abbrev ypz : List Str := ["_law_deal_here", "_law_deeds", "_law_more", "_law_found", "_law_deed", "_law_at"]
theorem yox : FnScope ypz ["_law_deal_here", "_law_deeds", "_law_more"] (defScope ynr) := by simp_all_arith
theorem ypp (F : DG K "_law_put" "_law_put" ynr dfs kws f fd)
  (yd : mg "len" = none)
  (yet : mg "list" = none)
  {yn : Addr} {yq : FuncData} (yg : FnG P w K mg base Yn 1 yn yq ["_law_deal_here", "_law_wide"] Yhg)
  (yk : mg "_law_draw" = some Yh6) (ym : PySem.W.keepIn K Yh6 = true)
  (yh : Binds K yq ["_law_deal_here", "_law_wide"] []) :
  FnG P w K mg base Yn 2 f fd ["_law_deal_here", "_law_deeds", "_law_more"] (spM K w F_w_put 3) :=
 okM (k := 1) F yox fun cdv A outer s H E hr hgd => by
  have hN := yox.nd
  have hu := hr.units
  exact zah (za5 3 hN (ie_bt call_list_of ok_listF Yaf yet)) (zah (st_for (B := f_w_put_l1) PassesOwn.never rfl Yi7 Yca (zao 4) (zah (za5 5 hN (zap (dts := []) (dvs := []) yg Ye hgd (by rfl) yk ym yh .nil Yp zbk (zaa (zac 0) (zaa (zbm Ycs (zag)) (zad))))) (zan (za5 3 hN (zbm (zbm (zbg (zac 3) zb5 (zbr (zac 5))) (zc6 Yd0)) (zbg (zac 3) (zbr (zac 5)) zb5)))))) (zan (zav (zac 3))))
abbrev ypq : List Str := ["_law_deal_here", "_law_some", "_law_left", "_law_found"]
theorem ym5 : FnScope ypq ["_law_deal_here", "_law_some"] (defScope yk3) := by simp_all_arith
theorem yo7 (F : DG K "_law_mixed" "_law_mixed" yk3 dfs kws f fd)
  (yd : mg "len" = none)
  (yet : mg "list" = none)
  {yn : Addr} {yq : FuncData} (yg : FnG P w K mg base Yn 1 yn yq ["_law_deal_here", "_law_wide"] Yhg)
  (yk : mg "_law_draw" = some Yh6) (ym : PySem.W.keepIn K Yh6 = true)
  (yh : Binds K yq ["_law_deal_here", "_law_wide"] []) :
  FnG P w K mg base Yn 2 f fd ["_law_deal_here", "_law_some"] (spM K w zcv 2) :=
 okM (k := 1) F ym5 fun cdv A outer s H E hr hgd => by
  have hN := ym5.nd
  have hu := hr.units
  exact zah (st_par2 rfl hN (zaa (ie_bt call_list_of ok_listL Yaf yet) (zaa (ie_lstL (zad)) (zad)))) (zah (st_while (B := zdr) 4096 PassesOwn.never (zfa hu (zac 2) (zc6 (zad))) (zan (st_expr (zed (zac 3) (zaa (ie_popAt (zac 2) (zaa (zap (dts := []) (dvs := []) yg Ye hgd (by rfl) yk ym yh .nil Yp zbk (zaa (zac 0) (zaa Yh7 (zad)))) (zad))) (zad)))))) (is_fz 3 (zan (zav (zac 3)))))
abbrev ypw : List Str := ["_law_deal_here", "_law_some"]
theorem yn0 : FnScope ypw ["_law_deal_here", "_law_some"] (defScope ymj) := by simp_all_arith
theorem ypj (F : DG K "_law_pick" "_law_pick" ymj dfs kws f fd)
  (yd : mg "len" = none)
  {yn : Addr} {yq : FuncData} (yg : FnG P w K mg base Yn 1 yn yq ["_law_deal_here", "_law_wide"] Yhg)
  (yk : mg "_law_draw" = some Yh6) (ym : PySem.W.keepIn K Yh6 = true)
  (yh : Binds K yq ["_law_deal_here", "_law_wide"] []) :
  FnG P w K mg base Yn 2 f fd ["_law_deal_here", "_law_some"] (spM K w zcq 2) :=
 okM (k := 1) F yn0 fun cdv A outer s H E hr hgd => by
  have hN := yn0.nd
  have hu := hr.units
  exact zan (zav (zal (zac 1) Ydl))
abbrev yf3 : List Str := ["_law_deal_here", "_law_called", "_law_counters", "_law_most", "_law_parts", "_law_found", "_law_more", "_law_part", "_law_turn"]
theorem yla : FnScope yf3 ["_law_deal_here", "_law_called", "_law_counters", "_law_most"] (defScope ycf) := by simp_all_arith
theorem yoh (F : DG K "_law_glances" "_law_glances" ycf dfs kws f fd)
  (yd : mg "len" = none)
  (yap : mg "range" = none)
  {yff : Addr} {yjr : FuncData} (yfg : FnG P w K mg base Yn 2 yff yjr ["_law_deal_here", "_law_deeds", "_law_more"] (spM K w F_w_put 3))
  (ygs : mg "_law_put" = some (.ref yff)) (ygt : PySem.W.keepIn K (.ref yff) = true)
  (yfh : Binds K yjr ["_law_deal_here", "_law_deeds", "_law_more"] [])
  {yn : Addr} {yq : FuncData} (yg : FnG P w K mg base Yn 1 yn yq ["_law_deal_here", "_law_wide"] Yhg)
  (yk : mg "_law_draw" = some Yh6) (ym : PySem.W.keepIn K Yh6 = true)
  (yh : Binds K yq ["_law_deal_here", "_law_wide"] [])
  {yd6 : Addr} {yhk : FuncData} (ybp : FnG P w K mg base Yn 2 yd6 yhk ["_law_deal_here", "_law_some"] (spM K w zcq 2))
  (yc0 : mg "_law_pick" = some (.ref yd6)) (yc1 : PySem.W.keepIn K (.ref yd6) = true)
  (ybq : Binds K yhk ["_law_deal_here", "_law_some"] [])
  {y8 : Addr} {ybr : FuncData} (yaf : FnG P w K mg base Yn 2 y8 ybr ["_law_deal_here", "_law_some"] (spM K w zcv 2))
  (ya3 : mg "_law_mixed" = some (.ref y8)) (ya4 : PySem.W.keepIn K (.ref y8) = true)
  (yag : Binds K ybr ["_law_deal_here", "_law_some"] []) :
  FnG P w K mg base Yn 3 f fd ["_law_deal_here", "_law_called", "_law_counters", "_law_most"] (spM K w zdh 4) :=
 okM (k := 2) F yla fun cdv A outer s H E hr hgd => by
  have hN := yla.nd
  have hu := hr.units
  exact zah (za5 4 hN (zbg (zap (dts := []) (dvs := []) yaf Ye hgd (by rfl) ya3 ya4 yag .nil Yp zbk (zaa (zac 0) Yaf)) zb5 (zbr (zbm (zag) Ydl)))) (zah (za5 5 hN (zbg (zcc (own := [("_law_part", 7)]) (T := mYes) (E := zdn) rfl hN (zd0 (zac 4)) Y2 (fun _ _ _ _ _ => pg_name (i := 7) hN rfl Yf) (zao 7) Y9 (fun _ _ _ _ _ => zcr (zaa (zai) (zaa (zac 7) (zad)))) zbj) zb5 (zbr (zac 3)))) (zah (by first | exact st_comp (i := 6) (own := [("_law_turn", 8)]) (T := mYes) (E := zdm) rfl hN rfl rfl rfl (ii_rng1 (by rfl) yap (zaa (zap (dts := []) (dvs := []) yg (hr.mono (by decide)) hgd (by rfl) yk ym yh .nil (fun s => rfl) zbk (zaa (zac 0) Ybn)) (zad))) Y2 (fun _ _ _ _ _ => pg_name (i := 8) hN rfl Yf) (zao 8) Y9 Yei zbj | exact za5 6 hN (zcc (own := [("_law_turn", 8)]) (T := mYes) (E := zdm) rfl hN (ii_rng1 (by rfl) yap (zaa (zap (dts := []) (dvs := []) yg (hr.mono (by decide)) hgd (by rfl) yk ym yh .nil (fun s => rfl) zbk (zaa (zac 0) Ybn)) (zad))) Y2 (fun _ _ _ _ _ => pg_name (i := 8) hN rfl Yf) (zao 8) Y9 Yei zbj)) (zan (zav (zap (dts := []) (dvs := []) yfg Ye hgd (by rfl) ygs ygt yfh .nil Yp zbk (zaa (zac 0) (zaa (zac 5) (zaa (zbg (zac 6) zb5 (zbr (ie_sub (zac 3) Ydv))) (zad)))))))))
abbrev yfi : List Str := ["_law_tests_here", "_law_part", "_law_test"]
theorem yh9 : FnScope yfi ["_law_tests_here"] (defScope ybb) := by simp_all_arith
theorem ymk (F : DG K "_law_test_texts" "_law_test_texts" ybb dfs kws f fd)
  (yah : mg "str" = none) :
  FnG P w K mg base Yn 1 f fd ["_law_tests_here"] (spM K w zbx 1) :=
 okP (k := 0) F yh9 fun cdv A outer s H E hr hgd => by
  have hN := yh9.nd
  have hu := hr.units
  exact zan (zav (zcc (own := [("_law_test", 2)]) (T := mYes) (E := zco) rfl hN (zd0 (zac 0)) Ybx (fun _ _ _ _ _ => pg_name (i := 2) hN rfl Yf) (zao 2) Y9 (fun _ _ _ _ _ => ie_join (zai) (zcc (own := [("_law_part", 1)]) (T := mYes) (E := zcm) rfl hN Yi7 Ybx (fun _ _ _ _ _ => pg_name (i := 1) hN rfl Yf) (zao 1) Y9 (fun _ _ _ _ _ => ie_bt call_strS ok_str Yaf yah) zbj)) zbj))
abbrev yjs : List Str := ["_law_deeds", "_law_word", "_law_called"]
theorem yia : FnScope yjs ["_law_deeds"] (defScope yc4) := by simp_all_arith
theorem yml (F : DG K "_law_deed_texts" "_law_deed_texts" yc4 dfs kws f fd) :
  FnG P w K mg base Yn 1 f fd ["_law_deeds"] (spM K w zcb 1) :=
 okP (k := 0) F yia fun cdv A outer s H E hr hgd => by
  have hN := yia.nd
  have hu := hr.units
  exact zan (zav (zcc (own := [("_law_word", 1), ("_law_called", 2)]) (T := mYes) (E := zcj) rfl hN (zd0 (zac 0)) (by first | exact blkOk_by (N := yjs) (sc := defScope yc4) (by decide +kernel) | exact blkOk_by (by with_unfolding_all rfl) | exact blkOk_by (by decide +kernel +revert)) (fun _ _ _ _ _ => pg_tup rfl (pgs_cons (pg_name (i := 1) hN rfl Yf) (pgs_cons Yda (pgs_nil)))) (tg_tup (zbd (zao 1) (zbd (zao 2) (ze8)))) Y9 (fun _ _ _ _ _ => zbm (zbm (zac 1) (zai)) (zac 2)) zbj))
abbrev ym6 : List Str := ["_law_reader", "_law_tail"]
theorem yhl : FnScope ym6 ["_law_reader"] (defScope yeo) := by simp_all_arith
theorem yl2 (F : DG K "_law_reader_text" "_law_reader_text" yeo dfs kws f fd)
  {yfj : Addr} {yjt : FuncData} (yeu : FnG P w K mg base Yn 1 yfj yjt ["_law_deeds"] (spM K w zcb 1))
  (yfk : mg "_law_deed_texts" = some (.ref yfj)) (yfl : PySem.W.keepIn K (.ref yfj) = true)
  (yev : Binds K yjt ["_law_deeds"] [])
  {yfm : Addr} {yju : FuncData} (yew : FnG P w K mg base Yn 1 yfm yju ["_law_tests_here"] (spM K w zbx 1))
  (yfn : mg "_law_test_texts" = some (.ref yfm)) (yfo : PySem.W.keepIn K (.ref yfm) = true)
  (yex : Binds K yju ["_law_tests_here"] []) :
  FnG P w K mg base Yn 2 f fd ["_law_reader"] (spM K w zcf 1) :=
 okP (k := 1) F yhl fun cdv A outer s H E hr hgd => by
  have hN := yhl.nd
  have hu := hr.units
  exact zah (za5 1 hN (ie_if (zfa hu Ybi (zc6 (zad))) (zbm (zai) (ie_join (zai) (zap (dts := []) (dvs := []) yew Ye hgd (by rfl) yfn yfo yex .nil Yp zbc (zaa Ybi (zad))))) (zai))) (zan (zav (zbm (zbm (zbm (zbm (zai) Ybi) (zai)) (ie_join (zai) (zap (dts := []) (dvs := []) yeu Ye hgd (by rfl) yfk yfl yev .nil Yp zbc (zaa Ybi (zad))))) (zac 1))))
abbrev ypk : List Str := ["_law_deal_here", "_law_size"]
theorem yl7 : FnScope ypk ["_law_deal_here", "_law_size"] (defScope yj5) := by simp_all_arith
theorem yoy (F : DG K "_law_titles" "_law_titles" yj5 dfs kws f fd)
  {y8 : Addr} {ybr : FuncData} (yaf : FnG P w K mg base Yn 2 y8 ybr ["_law_deal_here", "_law_some"] (spM K w zcv 2))
  (ya3 : mg "_law_mixed" = some (.ref y8)) (ya4 : PySem.W.keepIn K (.ref y8) = true)
  (yag : Binds K ybr ["_law_deal_here", "_law_some"] []) :
  FnG P w K mg base Yn 3 f fd ["_law_deal_here", "_law_size"] (spM K w ze6 2) :=
 okM (k := 2) F yl7 fun cdv A outer s H E hr hgd => by
  have hN := yl7.nd
  have hu := hr.units
  exact zan (zav (zbg (zap (dts := []) (dvs := []) yaf Ye hgd (by rfl) ya3 ya4 yag .nil Yp zbk (zaa (zac 0) (zaa (zc6 (zaa (zai) Ya2)) (zad)))) zb5 (zbr (zac 1))))
abbrev yn1 : List Str := ["_law_deal_here", "_law_deeds", "_law_spots_here", "_law_found", "_law_at", "_law_late", "_law_deed"]
theorem ym7 : FnScope yn1 ["_law_deal_here", "_law_deeds"] (defScope yhw) := by simp_all_arith
theorem yo8 (F : DG K "_law_tests" "_law_tests" yhw dfs kws f fd)
  (yik : mg "enumerate" = none)
  {y8 : Addr} {ybr : FuncData} (yaf : FnG P w K mg base Yn 2 y8 ybr ["_law_deal_here", "_law_some"] (spM K w zcv 2))
  (ya3 : mg "_law_mixed" = some (.ref y8)) (ya4 : PySem.W.keepIn K (.ref y8) = true)
  (yag : Binds K ybr ["_law_deal_here", "_law_some"] [])
  {yn : Addr} {yq : FuncData} (yg : FnG P w K mg base Yn 1 yn yq ["_law_deal_here", "_law_wide"] Yhg)
  (yk : mg "_law_draw" = some Yh6) (ym : PySem.W.keepIn K Yh6 = true)
  (yh : Binds K yq ["_law_deal_here", "_law_wide"] []) :
  FnG P w K mg base Yn 3 f fd ["_law_deal_here", "_law_deeds"] (spM K w ze2 2) :=
 okM (k := 2) F ym7 fun cdv A outer s H E hr hgd => by
  have hN := ym7.nd
  have hu := hr.units
  exact zah (st_par2 rfl hN (zaa (zcc (own := [("_law_at", 4), ("_law_deed", 6)]) (T := zds) (E := zdq) rfl hN (ii_en (by rfl) yik Yaf) (by first | exact blkOk_by (N := yn1) (sc := defScope yhw) (by decide +kernel) | exact blkOk_by (by with_unfolding_all rfl) | exact blkOk_by (by decide +kernel +revert)) (fun _ _ _ _ _ => pg_tup rfl (pgs_cons Yca (pgs_cons (pg_name (i := 6) hN rfl Yf) (pgs_nil)))) (tg_tup (zbd (zao 4) (zbd (zao 6) (ze8)))) (fun _ _ _ _ _ => its_one (zd1 hu (zal (zac 6) (zag)) (zai))) (fun _ _ _ _ _ => zac 4) zbj) (zaa (ie_lstL (zad)) (zad)))) (zah (st_for (B := zem) PassesOwn.never rfl Yi7 Yca (zao 4) (zah (zdb (zd1 hu Yf8 (zag)) (zan (st_expr (zed (zac 3) (zaa (zcr (zaa (zai) Yd0)) (zad))))) (zbu)) (zan (st_for (B := zc1) PassesOwn.never rfl Yi7 (pg_name (i := 5) hN rfl Yf) (zao 5) (zan (zdb ((zeh (it_gt (zac 5) (zac 4)) (zeh (zd1 hu (zal (zac 1) (zac 5)) (zal (zac 1) (zac 4))) (zdf (it_gt Yf8 (zag))))).it) (zan (st_expr (zed (zac 3) (zaa (zcr (zaa (zai) (zaa (zac 4) (zaa (zac 5) (zad))))) (zad))))) (zbu))))))) (is_fz 3 (zan (zav (zbg (zap (dts := []) (dvs := []) yaf Ye hgd (by rfl) ya3 ya4 yag .nil Yp zbk (zaa (zac 0) (zaa (zac 3) (zad)))) zb5 (zbr (zag)))))))
abbrev yoz : List Str := ["self", "steps", "checks"]
theorem yks : FnScope yoz ["self"] (defScope ygu) := by simp_all_arith
theorem yns (F : DG K "__str__" "Reader.__str__" ygu dfs kws f fd)
  (yd : mg "len" = none)
  (ycb : ∀ c ∈ (["Reader"] : List Str), FldOk K c "name")
  (yax : ∀ c ∈ (["Reader"] : List Str), FldOk K c "checks")
  (ycj : ∀ c ∈ (["Reader"] : List Str), FldOk K c "steps") :
  FnG P w K mg base Yn 1 f fd ["self"] (spM K w zbp 1) :=
 okP (k := 0) F yks fun cdv A outer s H E hr hgd => by
  have hN := yks.nd
  have hu := hr.units
  exact zah (st_par2 rfl hN (zaa (ie_join (zai) (ie_fld ycj (zac 0))) (zaa (ie_join (zai) (ie_fld yax (zac 0))) (zad)))) (zah (zdb (zd1 hu (zb8 call_len zb3 (zaa (ie_fld yax (zac 0)) (zad)) yd) (zag)) (zan (zav (ie_joined (zet (zai) (zet (ie_fmt (ie_fld ycb (zac 0))) (zet (zai) (zet (ie_fmt (zac 1)) (ij_nil)))))))) (zbu)) (zan (zav (ie_joined (zet (zai) (zet (ie_fmt (ie_fld ycb (zac 0))) (zet (zai) (zet (ie_fmt (zac 1)) (zet (zai) (zet (ie_fmt (zac 2)) (ij_nil)))))))))))
abbrev ypl : List Str := ["text", "word", "head", "gap", "rest"]
theorem yl8 : FnScope ypl ["text", "word"] (defScope yj6) := by simp_all_arith
theorem yo0 (F : DG K "named_in" "named_in" yj6 dfs kws f fd)
  (yd : mg "len" = none)
  {t_NAMED : Tok} (ynt : mg "NAMED" = some (.str ": " t_NAMED)) :
  FnG P w K mg base Yn 1 f fd ["text", "word"] (spM K w zd3 2) :=
 okP (k := 0) F yl8 fun cdv A outer s H E hr hgd => by
  have hN := yl8.nd
  have hu := hr.units
  exact zah (st_asg (zel (zac 0) (zfc ynt)) (pg_any rfl (pgs_cons Yda (pgs_cons Ye3 (pgs_cons Yca (pgs_nil))))) (tg_any (zbd (zao 2) (zbd (zao 3) (zbd (zao 4) (ze8)))))) (zan (zav (ie_if (it_tru (ie_startswith (zac 2) (zac 1))) (zcr (zaa (zbg (zac 2) (zbr (zb8 call_len zb3 Yaf yd)) zb5) Yd0)) (zcr Yep))))
abbrev yn2 : List Str := ["value", "letter"]
theorem ym8 : FnScope yn2 ["value"] (defScope yhx) := by simp_all_arith
theorem yo9 (F : DG K "is_name" "is_name" yhx dfs kws f fd)
  (yl1 : mg "all" = none)
  (yj : mg "isinstance" = none)
  (yah : mg "str" = none)
  (yd : mg "len" = none)
  {t_MOST_LETTERS : Tok} (yfp : mg "MOST_LETTERS" = some (.int (4) t_MOST_LETTERS))
  {t_LETTERS : Tok} (ylb : mg "LETTERS" = some (.str "abcdefghijklmnopqrstuvwxyz" t_LETTERS))
  (hT : IsTab K zez)
  {ye9 : Addr} {o_BARRED : Obj} {us_BARRED : List Value} {yj7 : Nat} (ymm : mg "BARRED" = some (.ref ye9)) (lk_BARRED : K.lookup ye9 = some o_BARRED) (yea : o_BARRED.cls = .type "tuple") (yeb : o_BARRED.dict = none) (oa_BARRED : o_BARRED.data = .seq us_BARRED.toArray yj7) (or_BARRED : Vals Ygt us_BARRED) (oz_BARRED : us_BARRED.length ≤ 1000) :
  FnG P w K mg base Yn 1 f fd ["value"] (spM K w zbw 1) :=
 okP (k := 0) F ym8 fun cdv A outer s H E hr hgd => by
  have hN := ym8.nd
  have hu := hr.units
  exact zah (zdb ((iw_or Ya7 (iw_or (it_in hu (zac 0) (ie_globT ymm lk_BARRED yea yeb oa_BARRED or_BARRED oz_BARRED)) (iw_or1 (ze4 (it_chain op_le ok_opC op_le ok_opC (zag) Ydw (ie_glob (v := .int (4)) (by rfl) yfp ⟨_, rfl⟩ (fun s => by simp [Rw, Rf]))))))).it) Yd1 (zbu)) (zan (zav (zb8 (cr_all rfl) ok_all (zaa (zcc (own := [("letter", 1)]) (T := mYes) (E := zek) rfl hN (ii_str (zac 0)) (by first | exact blkOk_by (N := yn2) (sc := defScope yhx) (by decide +kernel) | exact blkOk_by (by with_unfolding_all rfl) | exact blkOk_by (by decide +kernel +revert)) (fun _ _ _ _ _ => pg_name (i := 1) hN rfl Yf) (zao 1) Y9 (fun _ _ _ _ _ => ie_inS (zac 1) (zfc ylb)) zbj) (zad)) yl1)))
abbrev yoi : List Str := ["value"]
theorem yjv : FnScope yoi ["value"] (defScope yf7) := by simp_all_arith
theorem ym9 (F : DG K "is_sequence" "is_sequence" yf7 dfs kws f fd)
  (yj : mg "isinstance" = none)
  (yaq : mg "tuple" = none)
  (yet : mg "list" = none)
  (hT : IsTab K zez) :
  FnG P w K mg base Yn 1 f fd ["value"] (spM K w za6 1) :=
 okP (k := 0) F yjv fun cdv A outer s H E hr hgd => by
  have hN := yjv.nd
  have hu := hr.units
  exact zan (zav (zb8 call_isiA (ok_isi hT) (zaa (zac 0) (zaa (zcr (zaa (ie_ty yet (by with_unfolding_all rfl)) (zaa (ie_ty yaq (by with_unfolding_all rfl)) (zad)))) (zad))) yj))
abbrev ypr : List Str := ["value", "words", "parts"]
theorem yna : FnScope ypr ["value", "words"] (defScope yk4) := by simp_all_arith
theorem ypa (F : DG K "deed_in" "deed_in" yk4 dfs kws f fd)
  (yd : mg "len" = none)
  (yj : mg "isinstance" = none)
  (yah : mg "str" = none)
  {yc2 : Addr} {yf6 : FuncData} (ydu : FnG P w K mg base Yn 1 yc2 yf6 ["value"] (spM K w zbw 1))
  (yek : mg "is_name" = some (.ref yc2)) (yel : PySem.W.keepIn K (.ref yc2) = true)
  (ydv : Binds K yf6 ["value"] [])
  (hT : IsTab K zez) :
  FnG P w K mg base Yn 2 f fd ["value", "words"] (spM K w zex 2) :=
 okP (k := 1) F yna fun cdv A outer s H E hr hgd => by
  have hN := yna.nd
  have hu := hr.units
  exact zah (zdb Ya7 Yc8 (zbu)) (zah (za5 2 hN (zdy (zac 0) (zai))) (zah (zdb ((iw_or (zfa hu Yh7 (zag)) (iw_or (it_nin hu Ygf (zac 1)) (iw_or1 (ze4 (it_tru (zap (dts := []) (dvs := []) ydu Ye hgd (by rfl) yek yel ydv .nil Yp zbc (zaa Ygf (zad)))))))).it) Yc8 (zbu)) (zan (zav (zcr (zaa Ygf (zaa Ygf (zad))))))))
abbrev yey : List Str := ["value", "words", "found", "parts", "step", "deed"]
theorem yl9 : FnScope yey ["value", "words"] (defScope ybs) := by simp_all_arith
theorem yo1 (F : DG K "deeds_in" "deeds_in" ybs dfs kws f fd)
  (yd : mg "len" = none)
  (ygk : mg "set" = none)
  (yaq : mg "tuple" = none)
  {ylc : Addr} {yn3 : FuncData} (ygl : FnG P w K mg base Yn 2 ylc yn3 ["value", "words"] (spM K w zex 2))
  (yib : mg "deed_in" = some (.ref ylc)) (yic : PySem.W.keepIn K (.ref ylc) = true)
  (ygm : Binds K yn3 ["value", "words"] [])
  {yad : Addr} {yce : FuncData} (yar : FnG P w K mg base Yn 1 yad yce ["value"] (spM K w za6 1))
  (ya0 : mg "is_sequence" = some (.ref yad)) (ya1 : PySem.W.keepIn K (.ref yad) = true)
  (yas : Binds K yce ["value"] []) :
  FnG P w K mg base Yn 3 f fd ["value", "words"] (spM K w zca 2) :=
 okP (k := 2) F yl9 fun cdv A outer s H E hr hgd => by
  have hN := yl9.nd
  have hu := hr.units
  exact zah Yc1 (zah (by first | exact st_comp (i := 2) (own := [("step", 4)]) (T := mYes) (E := zb6) rfl hN rfl rfl rfl (zd0 (zac 0)) (by first | exact blkOk_by (N := yey) (sc := defScope ybs) (by decide +kernel) | exact blkOk_by (by with_unfolding_all rfl) | exact blkOk_by (by decide +kernel +revert)) (fun _ _ _ _ _ => pg_name (i := 4) hN rfl Yf) (zao 4) Y9 Yed zbj | exact za5 2 hN (zcc (own := [("step", 4)]) (T := mYes) (E := zb6) rfl hN (zd0 (zac 0)) (by first | exact blkOk_by (N := yey) (sc := defScope ybs) (by decide +kernel) | exact blkOk_by (by with_unfolding_all rfl) | exact blkOk_by (by decide +kernel +revert)) (fun _ _ _ _ _ => pg_name (i := 4) hN rfl Yf) (zao 4) Y9 Yed zbj)) (zah (by first | exact st_comp (i := 3) (own := [("deed", 5)]) (T := zbo) (E := zbv) rfl hN rfl rfl rfl (zd0 (zac 2)) (by first | exact blkOk_by (N := yey) (sc := defScope ybs) (by decide +kernel) | exact blkOk_by (by with_unfolding_all rfl) | exact blkOk_by (by decide +kernel +revert)) (fun _ _ _ _ _ => pg_name (i := 5) hN rfl Yf) (zao 5) Ydx (fun _ _ _ _ _ => zal (zac 5) (zag)) zbj | exact za5 3 hN (zcc (own := [("deed", 5)]) (T := zbo) (E := zbv) rfl hN (zd0 (zac 2)) (by first | exact blkOk_by (N := yey) (sc := defScope ybs) (by decide +kernel) | exact blkOk_by (by with_unfolding_all rfl) | exact blkOk_by (by decide +kernel +revert)) (fun _ _ _ _ _ => pg_name (i := 5) hN rfl Yf) (zao 5) Ydx (fun _ _ _ _ _ => zal (zac 5) (zag)) zbj)) (zan (zav (ie_if ((iw_or (it_in hu (zby) (zac 2)) (iw_or1 (zfa hu (ie_lenSet rfl yd ygk (zac 3)) Ycs))).it) (zby) Yjd)))))
abbrev yma : List Str := ["word", "digits", "sign"]
theorem yle : FnScope yma ["word", "digits"] (defScope yf0) := by simp_all_arith
theorem yoj (F : DG K "number_in" "number_in" yf0 dfs kws f fd)
  (ycy : mg "int" = none)
  (yd : mg "len" = none)
  (yl1 : mg "all" = none)
  {t_DIGITS : Tok} (ymn : mg "DIGITS" = some (.str "0123456789" t_DIGITS)) :
  FnG P w K mg base Yn 1 f fd ["word", "digits"] (spM K w zeb 2) :=
 okP (k := 0) F yle fun cdv A outer s H E hr hgd => by
  have hN := yle.nd
  have hu := hr.units
  exact zah (zdb ((iw_or (ze4 (it_chain op_le ok_opC op_le ok_opC (zag) Ydw (zac 1))) (iw_or1 (ze4 (it_tru (zb8 (cr_all rfl) ok_all (zaa (zcc (own := [("sign", 2)]) (T := mYes) (E := zb9) rfl hN (ii_str (zac 0)) (by first | exact blkOk_by (N := yma) (sc := defScope yf0) (by decide +kernel) | exact blkOk_by (by with_unfolding_all rfl) | exact blkOk_by (by decide +kernel +revert)) (fun _ _ _ _ _ => pg_name (i := 2) hN rfl Yf) (zao 2) Y9 (fun _ _ _ _ _ => ie_inS (zac 2) (zfc ymn)) zbj) (zad)) yl1))))).it) Yc8 (zbu)) (zan (zav (ie_if ((zeh (zd1 hu Ybi (zai)) (zdf (zfa hu (zac 0) (zai)))).it) (zby) (ie_bt call_int_str ok_intS (zaa (zac 0) (zad)) ycy))))
abbrev yps : List Str := ["word", "deeds", "at"]
theorem ynb : FnScope yps ["word", "deeds"] (defScope yk5) := by simp_all_arith
theorem ypb (F : DG K "spot_in" "spot_in" yk5 dfs kws f fd)
  (yd : mg "len" = none)
  {t_MOST_DIGITS : Tok} (yga : mg "MOST_DIGITS" = some (.int (9) t_MOST_DIGITS))
  {yil : Addr} {ymb : FuncData} (yhm : FnG P w K mg base Yn 1 yil ymb ["word", "digits"] (spM K w zeb 2))
  (yim : mg "number_in" = some (.ref yil)) (yin : PySem.W.keepIn K (.ref yil) = true)
  (yhn : Binds K ymb ["word", "digits"] []) :
  FnG P w K mg base Yn 2 f fd ["word", "deeds"] (spM K w F_spot_in 2) :=
 okP (k := 1) F ynb fun cdv A outer s H E hr hgd => by
  have hN := ynb.nd
  have hu := hr.units
  exact zah (za5 2 hN (zap (dts := []) (dvs := []) yhm Ye hgd (by rfl) yim yin yhn .nil Yp zbc (zaa (zac 0) (zaa (ie_glob (v := .int (9)) (by rfl) yga ⟨_, rfl⟩ (fun s => by simp [Rw, Rf])) (zad))))) (zan (zav (ie_if ((zeh (it_notN (zac 2) (zby)) (zeh (it_ltA (zac 2) (zb8 call_len zb3 Yaf yd)) (zdf (zd1 hu (zal (zal (zac 1) (zac 2)) (zag)) (zai))))).it) (zac 2) (zby))))
abbrev ylf : List Str := ["value", "deeds", "parts", "spots", "part"]
theorem ync : FnScope ylf ["value", "deeds"] (defScope yf4) := by simp_all_arith
theorem ypc (F : DG K "test_in" "test_in" yf4 dfs kws f fd)
  (yd : mg "len" = none)
  (yj : mg "isinstance" = none)
  (yah : mg "str" = none)
  {ylg : Addr} {yn4 : FuncData} (ygn : FnG P w K mg base Yn 2 ylg yn4 ["word", "deeds"] (spM K w F_spot_in 2))
  (yid : mg "spot_in" = some (.ref ylg)) (yie : PySem.W.keepIn K (.ref ylg) = true)
  (ygo : Binds K yn4 ["word", "deeds"] [])
  (hT : IsTab K zez) :
  FnG P w K mg base Yn 3 f fd ["value", "deeds"] (spM K w F_test_in 2) :=
 okP (k := 2) F ync fun cdv A outer s H E hr hgd => by
  have hN := ync.nd
  have hu := hr.units
  exact zah (zdb Ya7 Yc8 (zbu)) (zah (za5 2 hN (zdy (zac 0) (zai))) (zah (by first | exact st_comp (i := 3) (own := [("part", 4)]) (T := mYes) (E := zdp) rfl hN rfl rfl rfl (zd0 (zbg (zac 2) (zbr (zag)) zb5)) (by first | exact blkOk_by (N := ylf) (sc := defScope yf4) (by decide +kernel) | exact blkOk_by (by with_unfolding_all rfl) | exact blkOk_by (by decide +kernel +revert)) (fun _ _ _ _ _ => pg_name (i := 4) hN rfl Yf) (zao 4) Y9 Yee zbj | exact za5 3 hN (zcc (own := [("part", 4)]) (T := mYes) (E := zdp) rfl hN (zd0 (zbg (zac 2) (zbr (zag)) zb5)) (by first | exact blkOk_by (N := ylf) (sc := defScope yf4) (by decide +kernel) | exact blkOk_by (by with_unfolding_all rfl) | exact blkOk_by (by decide +kernel +revert)) (fun _ _ _ _ _ => pg_name (i := 4) hN rfl Yf) (zao 4) Y9 Yee zbj)) (zah (zdb (it_in hu (zby) (zac 3)) Yc8 (zbu)) (zah (zdb ((zeh (zd1 hu Ygf (zai)) (zdf (zd1 hu Ycs (zag)))).it) (zan (zav (zcr (zaa (zai) (zaa Yba (zad)))))) (zbu)) (zah (zdb ((iw_or (zfa hu Ygf (zai)) (iw_or (zfa hu Ycs (zag)) (iw_or1 (it_ge Yba Yba)))).it) Yc8 (zbu)) (zan (zav (ie_if (zd1 hu (zal (zal (zac 1) Yba) (zag)) (zal (zal (zac 1) Yba) (zag))) (zcr (zaa (zai) (zaa Yba (zaa Yba (zad))))) (zby)))))))))
abbrev yj8 : List Str := ["value", "deeds", "found", "check"]
theorem ymc : FnScope yj8 ["value", "deeds"] (defScope yep) := by simp_all_arith
theorem yo2 (F : DG K "tests_in" "tests_in" yep dfs kws f fd)
  (yd : mg "len" = none)
  (ygk : mg "set" = none)
  (yaq : mg "tuple" = none)
  {ylh : Addr} {yn5 : FuncData} (ygp : FnG P w K mg base Yn 3 ylh yn5 ["value", "deeds"] (spM K w F_test_in 2))
  (yif : mg "test_in" = some (.ref ylh)) (yig : PySem.W.keepIn K (.ref ylh) = true)
  (ygq : Binds K yn5 ["value", "deeds"] [])
  {yad : Addr} {yce : FuncData} (yar : FnG P w K mg base Yn 1 yad yce ["value"] (spM K w za6 1))
  (ya0 : mg "is_sequence" = some (.ref yad)) (ya1 : PySem.W.keepIn K (.ref yad) = true)
  (yas : Binds K yce ["value"] []) :
  FnG P w K mg base Yn 4 f fd ["value", "deeds"] (spM K w zcp 2) :=
 okP (k := 3) F ymc fun cdv A outer s H E hr hgd => by
  have hN := ymc.nd
  have hu := hr.units
  exact zah Yc1 (zah (by first | exact st_comp (i := 2) (own := [("check", 3)]) (T := mYes) (E := zc4) rfl hN rfl rfl rfl (zd0 (zac 0)) (by first | exact blkOk_by (N := yj8) (sc := defScope yep) (by decide +kernel) | exact blkOk_by (by with_unfolding_all rfl) | exact blkOk_by (by decide +kernel +revert)) (fun _ _ _ _ _ => pg_name (i := 3) hN rfl Yf) (zao 3) Y9 Yef zbj | exact za5 2 hN (zcc (own := [("check", 3)]) (T := mYes) (E := zc4) rfl hN (zd0 (zac 0)) (by first | exact blkOk_by (N := yj8) (sc := defScope yep) (by decide +kernel) | exact blkOk_by (by with_unfolding_all rfl) | exact blkOk_by (by decide +kernel +revert)) (fun _ _ _ _ _ => pg_name (i := 3) hN rfl Yf) (zao 3) Y9 Yef zbj)) (zan (zav (ie_if ((iw_or (it_in hu (zby) (zac 2)) (iw_or1 (zfa hu (ie_lenSetGr rfl hu yd ygk (zac 2)) Yh7))).it) (zby) Yjd))))
abbrev ykt : List Str := ["self", "name", "steps", "checks", "deeds", "tests", "word", "part"]
theorem yjw : FnScope ykt ["self", "name", "steps", "checks"] (defScope yi) := by simp_all_arith
theorem ynd (F : DG K "__init__" "Reader.__init__" yi dfs kws f fd)
  (yaq : mg "tuple" = none)
  {yj9 : Addr} {yne : FuncData} (yio : FnG P w K mg base Yn 4 yj9 yne ["value", "deeds"] (spM K w zcp 2))
  (yka : mg "tests_in" = some (.ref yj9)) (ykb : PySem.W.keepIn K (.ref yj9) = true)
  (yip : Binds K yne ["value", "deeds"] [])
  {ykc : Addr} {ynf : FuncData} (yiq : FnG P w K mg base Yn 3 ykc ynf ["value", "words"] (spM K w zca 2))
  (ykd : mg "deeds_in" = some (.ref ykc)) (yke : PySem.W.keepIn K (.ref ykc) = true)
  (yir : Binds K ynf ["value", "words"] [])
  {yc2 : Addr} {yf6 : FuncData} (ydu : FnG P w K mg base Yn 1 yc2 yf6 ["value"] (spM K w zbw 1))
  (yek : mg "is_name" = some (.ref yc2)) (yel : PySem.W.keepIn K (.ref yc2) = true)
  (ydv : Binds K yf6 ["value"] [])
  (yis : ∀ c ∈ (["Reader"] : List Str), FldOk K c "tests")
  (yit : ∀ c ∈ (["Reader"] : List Str), FldOk K c "deeds")
  (yax : ∀ c ∈ (["Reader"] : List Str), FldOk K c "checks")
  (ycj : ∀ c ∈ (["Reader"] : List Str), FldOk K c "steps")
  (ycb : ∀ c ∈ (["Reader"] : List Str), FldOk K c "name")
  {yb yp : Addr} {yez : FuncData} (yc : XF P w K mg base "InvalidReader" yb yp yez ["self", "word"] "word")
  {yak : Addr} {o_READER_WORDS : Obj} {us_READER_WORDS : List Value} {ydo : Nat} (yfq : mg "READER_WORDS" = some (.ref yak)) (lk_READER_WORDS : K.lookup yak = some o_READER_WORDS) (y9 : o_READER_WORDS.cls = .type "tuple") (yaa : o_READER_WORDS.dict = none) (oa_READER_WORDS : o_READER_WORDS.data = .seq us_READER_WORDS.toArray ydo) (or_READER_WORDS : Vals ((["read", "look"] : List Str).map V.str) us_READER_WORDS) (oz_READER_WORDS : us_READER_WORDS.length ≤ 1000) :
  FnG P w K mg base (L2N.CX P w) 5 f fd ["self", "name", "steps", "checks"] (spX K w za4 4) :=
 okX (k := 4) F yjw fun cdv A outer s H E hr hgd => by
  have hN := yjw.nd
  have hu := hr.units
  exact zah (zdb (ze4 (it_tru (zap (dts := []) (dvs := []) ydu Ye hgd (by rfl) yek yel ydv .nil Yp zbc Yaf))) Yb3 (zbu)) (zah (za5 4 hN (zap (dts := []) (dvs := []) yiq Ye hgd (by rfl) ykd yke yir .nil Yp zbc (zaa (zac 2) (zaa (ie_globT yfq lk_READER_WORDS y9 yaa oa_READER_WORDS or_READER_WORDS oz_READER_WORDS) (zad))))) (zah (zdb ((iw_or (it_isN (zac 4) (zby)) (iw_or1 (it_nin hu (zai) (zcc (own := [("word", 6), ("part", 7)]) (T := mYes) (E := zba) rfl hN (zd0 (zac 4)) (by first | exact blkOk_by (N := ykt) (sc := defScope yi) (by decide +kernel) | exact blkOk_by (by with_unfolding_all rfl) | exact blkOk_by (by decide +kernel +revert)) (fun _ _ _ _ _ => pg_tup rfl (pgs_cons (pg_name (i := 6) hN rfl Yf) (pgs_cons (pg_name (i := 7) hN rfl Yf) (pgs_nil)))) (tg_tup (zbd (zao 6) (zbd (zao 7) (ze8)))) Y9 (fun _ _ _ _ _ => zac 6) zbj)))).it) Yb3 (zbu)) (zah (za5 5 hN (zap (dts := []) (dvs := []) yio Ye hgd (by rfl) yka ykb yip .nil Yp zbc (zaa (zac 3) Yd0))) (zah (zdb (it_isN (zac 5) (zby)) Yb3 (zbu)) (zah (st_fld ycb (zac 0) (zac 1)) (zah (st_fld ycj (zac 0) Yjd) (zah (st_fld yax (zac 0) (ie_bt call_tupS ok_tup (zaa (zac 3) (zad)) yaq)) (zah (st_fld yit (zac 0) (zac 4)) (zan (st_fld yis (zac 0) (zac 5)))))))))))
abbrev yok : List Str := ["cls", "text", "name", "rest", "steps", "gap", "checks", "error"]
theorem yjx : FnScope yok ["cls", "text"] (defScope yf8) := by simp_all_arith
theorem yng (F : DG K "read" "Reader.read" yf8 dfs kws f fd)
  {ykf : Addr} {ynh : FuncData} (yiu : FnG P w K mg base Yn 1 ykf ynh ["text", "word"] (spM K w zd3 2))
  (ykg : mg "named_in" = some (.ref ykf)) (ykh : PySem.W.keepIn K (.ref ykf) = true)
  (yiv : Binds K ynh ["text", "word"] [])
  {yf : Addr} (ycc : ClsF K mg "Reader" yf)
  {yku : Addr} {ykv : FuncData} (yfr : FnG P w K mg base (L2N.CX P w) 5 yku ykv ["self", "name", "steps", "checks"] (spX K w za4 4))
  {yb yp : Addr} {yez : FuncData} (yc : XF P w K mg base "InvalidReader" yb yp yez ["self", "word"] "word")
  {t_BESIDE : Tok} (yki : mg "BESIDE" = some (.str ", " t_BESIDE))
  (ymo : Mk K yf yku)
  {ya yr : Addr} {ygb : FuncData} (ye : XF P w K mg base "InvalidText" ya yr ygb ["self", "at"] "at")
  {t_IF : Tok} (ypx : mg "IF" = some (.str " if " t_IF))
  {t_READER : Tok} (ymp : mg "READER" = some (.str "reader " t_READER))
  (yfs : Binds K ykv ["self", "name", "steps", "checks"] []) :
  FnG P w K mg base Yn 7 f fd ["cls", "text"] (spX K w zd2 2) :=
 okX (k := 6) F yjx fun cdv A outer s H E hr hgd => by
  have hN := yjx.nd
  have hu := hr.units
  exact zah (st_asg (zap (dts := []) (dvs := []) yiu Ye hgd (by rfl) ykg ykh yiv .nil Yp zbc (zaa (zac 1) (zaa (zfc ymp) (zad)))) (pg_any rfl (pgs_cons Yda (pgs_cons Ye3 (pgs_nil)))) (tg_any (zbd (zao 2) (zbd (zao 3) (ze8))))) (zah (st_asg (zel (zac 3) (zfc ypx)) Yel (tg_any (zbd (zao 4) (zbd (zao 5) (zbd (zao 6) (ze8)))))) (zah (zdb ((zeh (zfa hu (zac 5) (zai)) (zdf (zd1 hu (zac 6) (zai)))).it) (zan (st_raise rfl (takesN (L2.takes_of rfl rfl rfl rfl)) (xc_cold ye.T ye.iC ye.tI ye.cn ye.ok Ye ye.bd rfl ye.mg Ybn))) (zbu)) (zan (st_tryFrom (B := zdv) (F := zcx) rfl rfl hN rfl rfl ⟨rfl, by decide, .inl yc.mg⟩ (L2H.passesAt_of rfl) (L2.takes_of rfl rfl rfl rfl) yc.hit yc.sub (fun W pn xe tkB hpB => zan (zav (ie_frzI (ie_makeL (i := 0) ymo ycc.cn yfr Ye hgd rfl Ygm yfs .nil (fun s => by rfl) fnX_len (fun σ => L2N.passAt tkB σ) (zaa (zac 2) (zaa (zdy (zac 4) (zfc yki)) (zaa (ie_if (zfa hu (zac 5) (zai)) (zdy (zac 6) (zfc yki)) (zcr (zad))) (zad)))))))) (fun a oe pn xe hot => xc_hot ye.T ye.iC ye.tI ye.cn ye.hot (L2H.roomH_mark Ye _) hot ye.bd rfl ye.mg Ybn)))))
abbrev ypt : List Str := ["_law_text", "_law_found", "e"]
theorem yni : FnScope ypt ["_law_text"] (defScope yk6) := by simp_all_arith
theorem ypd (F : DG K "_law_heard" "_law_heard" yk6 dfs kws f fd)
  (yah : mg "str" = none)
  (yj : mg "isinstance" = none)
  {yf : Addr} (ycc : ClsF K mg "Reader" yf)
  {ykw : Addr} {ykx : FuncData} (yft : FnG P w K mg base Yn 7 ykw ykx ["cls", "text"] (spX K w zd2 2))
  {yli : Addr} {ylj : FuncData} (ygc : FnG P w K mg base Yn 1 yli ylj ["self"] (spM K w zbp 1))
  {mc_Reader : Value} {ydt : Addr} (r_Reader : ClX.CRead K yf mc_Reader) (cm_Reader_read : ClX.CMet K yf mc_Reader "read" ydt ykw)
  (ygd : Meth K yf "__str__" yli)
  {ya yr : Addr} {ygb : FuncData} (ye : XF P w K mg base "InvalidText" ya yr ygb ["self", "at"] "at")
  (y0 : XcF K ya)
  {yb : Addr} (yo : CN K "InvalidReader" yb) (yd7 : mg "InvalidReader" = some Yf4)
  (y7 : PySem.W.kitOne K Yds Yf4 = some false)
  {yt : Addr} (y1 : CN K "RecordError" yt) (yfu : mg "RecordError" = some (.ref yt))
  (yae : PySem.W.kitOne K Yds (.ref yt) = some true)
  (ydy : PySem.W.findIn K Yds "at" = some none)
  (yge : Binds K ykx ["cls", "text"] [])
  (yho : Binds K ylj ["self"] []) :
  FnG P w K mg base Yn 9 f fd ["_law_text"] (spM K w zb7 1) :=
 okP (k := 8) F yni fun cdv A outer s H E hr hgd => by
  have hN := yni.nd
  have hu := hr.units
  exact zah (za5 1 hN (zby)) (zah (st_tryAs (i := 2) (B := f_w_heard_l1) rfl rfl hN rfl rfl takes_nox (fun W pn xe tkB hpB => zan (za5 1 hN (ie_bt (cr_strO (alts := [("Reader", zbp)]) ⟨.mk' ycc.cn ygd ygc Ye yho zbc, True.intro⟩ hgd) ok_strO (zaa (ie_cmeth (dts := []) (dvs := []) ycc.cn r_Reader cm_Reader_read yft Ye hgd yge .nil Yp fnX_len (fun σ => L2.passAt tkB σ) (ie_cls ycc.cn ycc.mg) (zaa (zac 0) (zad))) (zad)) yah))) (.cons (S := f_w_heard_l2) ⟨rfl, by decide, .inl ye.mg⟩ ye.hit (fun a oe cls d pn hz hf => xss_set 1 Ybz hN (xe_if ((xw_and (xt_val (xe_isi (t := .cls "RecordError") ye.cn y0 hz hf rfl (cv_cls y1 yae) (ie_cls y1 yfu) yj)) (xw_and1 (xt_not (xt_val (xe_isi (t := .cls "InvalidReader") ye.cn y0 hz hf rfl (cv_cls yo y7) (ie_cls yo yd7) yj))))).t) (xe_fld ye.cn y0 ydy hz hf) (xe_of (zai))) (xss_nil)) .nil)) (zan (zav (zac 1))))
abbrev ymd : List Str := ["_law_word", "_law_letter"]
theorem ylk : FnScope ymd ["_law_word"] (defScope yf1) := by simp_all_arith
theorem yol (F : DG K "_law_is_name" "_law_is_name" yf1 dfs kws f fd)
  (yd : mg "len" = none) :
  FnG P w K mg base Yn 1 f fd ["_law_word"] (spM K w zb4 1) :=
 okP (k := 0) F ylk fun cdv A outer s H E hr hgd => by
  have hN := ylk.nd
  have hu := hr.units
  exact zah (zdb ((iw_or (it_in hu (zac 0) (zcr (zaa (zai) Ya2))) (iw_or1 (ze4 (it_chain op_ltA ok_lt op_ltA ok_lt (zag) Ydw (zag))))).it) Yd1 (zbu)) (zan (zav (ie_eq hu (zcc (own := [("_law_letter", 1)]) (T := zcw) (E := zdl) rfl hN (ii_str (zac 0)) (by first | exact blkOk_by (N := ymd) (sc := defScope yf1) (by decide +kernel) | exact blkOk_by (by with_unfolding_all rfl) | exact blkOk_by (by decide +kernel +revert)) (fun _ _ _ _ _ => pg_name (i := 1) hN rfl Yf) (zao 1) (fun _ _ _ _ _ => its_one (it_ninS (zac 1) (zai))) (fun _ _ _ _ _ => zac 1) zbj) (zc6 (zad)))))
abbrev yll : List Str := ["_law_text", "_law_found", "_law_step", "_law_words", "_law_word", "_law_called"]
theorem yky : FnScope yll ["_law_text"] (defScope yeq) := by simp_all_arith
theorem ynu (F : DG K "_law_deeds_in" "_law_deeds_in" yeq dfs kws f fd)
  (yd : mg "len" = none)
  {ya5 : Addr} {ydz : FuncData} (ybn : FnG P w K mg base Yn 1 ya5 ydz ["_law_word"] (spM K w zb4 1))
  (yck : mg "_law_is_name" = some (.ref ya5)) (ycl : PySem.W.keepIn K (.ref ya5) = true)
  (ybo : Binds K ydz ["_law_word"] []) :
  FnG P w K mg base Yn 2 f fd ["_law_text"] (spM K w zdu 1) :=
 okP (k := 1) F yky fun cdv A outer s H E hr hgd => by
  have hN := yky.nd
  have hu := hr.units
  exact zah (za5 1 hN (ie_lstL (zad))) (zah (st_for (B := zc5) PassesOwn.never rfl (zd0 (zdy (zac 0) (zai))) Yda (zao 2) (zah (za5 3 hN (zdy (zac 2) (zai))) (zah (zdb ((iw_or (zfa hu Ycs (zag)) (iw_or (it_nin hu Yba (zcr Yep)) (iw_or1 (ze4 (it_tru (zap (dts := []) (dvs := []) ybn Ye hgd (by rfl) yck ycl ybo .nil Yp zbc (zaa Yba (zad)))))))).it) Yc8 (zbu)) (zah (zdb ((zeh (zd1 hu Yba (zai)) (zdf (it_in hu (zcr (zaa Yba (zaa Yba (zad)))) (zac 1)))).it) Yc8 (zbu)) (zan (st_expr (zed (zac 1) (zaa (zcr (zaa Yba (zaa Yba (zad)))) (zad))))))))) (is_fz 1 (zan (zav (ie_if (zfa hu (zcc (own := [("_law_word", 4), ("_law_called", 5)]) (T := zb1) (E := zce) rfl hN (zd0 (zac 1)) (by first | exact blkOk_by (N := yll) (sc := defScope yeq) (by decide +kernel) | exact blkOk_by (by with_unfolding_all rfl) | exact blkOk_by (by decide +kernel +revert)) (fun _ _ _ _ _ => pg_tup rfl (pgs_cons Yca (pgs_cons (pg_name (i := 5) hN rfl Yf) (pgs_nil)))) (tg_tup (zbd (zao 4) (zbd (zao 5) (ze8)))) (fun _ _ _ _ _ => its_one (zd1 hu (zac 4) (zai))) (fun _ _ _ _ _ => zag) zbj) (zc6 (zad))) (zac 1) (zby))))))
abbrev ylm : List Str := ["_law_words", "_law_deeds", "_law_found", "_law_word", "_law_fits_here", "_law_at"]
theorem ynj : FnScope ylm ["_law_words", "_law_deeds"] (defScope yf5) := by simp_all_arith
theorem ype (F : DG K "_law_spots" "_law_spots" yf5 dfs kws f fd)
  (yap : mg "range" = none)
  (yd : mg "len" = none)
  (yah : mg "str" = none) :
  FnG P w K mg base Yn 1 f fd ["_law_words", "_law_deeds"] (spM K w F_w_spots 2) :=
 okP (k := 0) F ynj fun cdv A outer s H E hr hgd => by
  have hN := ynj.nd
  have hu := hr.units
  exact zah (za5 2 hN (ie_lstL (zad))) (zah (st_for (B := zep) PassesOwn.never rfl (zd0 (zac 0)) Ye3 (zao 3) (zah (by first | exact st_comp (i := 4) (own := [("_law_at", 5)]) (T := zcz) (E := zdo) rfl hN rfl rfl rfl (ii_rng1 (by rfl) yap (zaa (zb8 call_len zb3 (zaa (zac 1) (zad)) yd) (zad))) (by first | exact blkOk_by (N := ylm) (sc := defScope yf5) (by decide +kernel) | exact blkOk_by (by with_unfolding_all rfl) | exact blkOk_by (by decide +kernel +revert)) (fun _ _ _ _ _ => pg_name (i := 5) hN rfl Yf) (zao 5) Ycm (fun _ _ _ _ _ => zac 5) zbj | exact za5 4 hN (zcc (own := [("_law_at", 5)]) (T := zcz) (E := zdo) rfl hN (ii_rng1 (by rfl) yap (zaa (zb8 call_len zb3 (zaa (zac 1) (zad)) yd) (zad))) (by first | exact blkOk_by (N := ylm) (sc := defScope yf5) (by decide +kernel) | exact blkOk_by (by with_unfolding_all rfl) | exact blkOk_by (by decide +kernel +revert)) (fun _ _ _ _ _ => pg_name (i := 5) hN rfl Yf) (zao 5) Ycm (fun _ _ _ _ _ => zac 5) zbj)) (zan (st_expr (zed (zac 2) (zaa (ie_if (zfa hu (zac 4) (zc6 (zad))) (zal (zac 4) (zag)) (zby)) (zad))))))) (is_fz 2 (zan (zav (zac 2)))))
abbrev ynv : List Str := ["_law_text", "_law_deeds", "_law_checks", "_law_check", "_law_words", "_law_spots_here"]
theorem yih : FnScope ynv ["_law_text", "_law_deeds"] (defScope ye5) := by simp_all_arith
theorem ymq (F : DG K "_law_are_checks" "_law_are_checks" ye5 dfs kws f fd)
  (yd : mg "len" = none)
  (ygk : mg "set" = none)
  {yln : Addr} {yn6 : FuncData} (ykj : FnG P w K mg base Yn 1 yln yn6 ["_law_words", "_law_deeds"] (spM K w F_w_spots 2))
  (ylo : mg "_law_spots" = some (.ref yln)) (ylp : PySem.W.keepIn K (.ref yln) = true)
  (ykk : Binds K yn6 ["_law_words", "_law_deeds"] []) :
  FnG P w K mg base Yn 2 f fd ["_law_text", "_law_deeds"] (spM K w zdk 2) :=
 okP (k := 1) F yih fun cdv A outer s H E hr hgd => by
  have hN := yih.nd
  have hu := hr.units
  exact zah (za5 2 hN (zdy (zac 0) (zai))) (zah (st_for (B := zcl) PassesOwn.never rfl Yi7 Ye3 (zao 3) (zah (za5 4 hN (zdy (zac 3) (zai))) (zah (za5 5 hN (zap (dts := []) (dvs := []) ykj Ye hgd (by rfl) ylo ylp ykk .nil Yp zbc (zaa (zbg (zac 4) (zbr (zag)) zb5) Yaf))) (zah (zdb ((iw_or (it_in hu (zby) (zac 5)) (iw_or1 (it_nin hu (zcr (zaa (zal (zac 4) (zag)) (zaa Ydv (zad)))) (zcr (zaa (zcr (zaa (zai) Ybn)) (zaa (zcr (zaa (zai) Ybn)) (zad))))))).it) Yd1 (zbu)) (zah (zdb ((zeh (zd1 hu Ydv (zag)) (zdf (it_ge (zal (zac 5) (zag)) (zal (zac 5) (zag))))).it) Yd1 (zbu)) (zan (zdb ((zeh (zd1 hu Ydv (zag)) (zdf (zfa hu (zal (zac 1) (zal (zac 5) (zag))) (zal (zac 1) (zal (zac 5) (zag)))))).it) Yd1 (zbu)))))))) (zan (zav (ie_eq hu (ie_lenSet rfl yd ygk (zac 2)) Yh7))))
abbrev yom : List Str := ["_law_text", "_law_head", "_law_gap", "_law_rest", "_law_steps", "_law_join", "_law_checks", "_law_deeds"]
theorem yjy : FnScope yom ["_law_text"] (defScope yf9) := by simp_all_arith
theorem ynk (F : DG K "_law_is_reader" "_law_is_reader" yf9 dfs kws f fd)
  {yfv : Addr} {yjz : FuncData} (ye0 : FnG P w K mg base Yn 2 yfv yjz ["_law_text", "_law_deeds"] (spM K w zdk 2))
  (yfw : mg "_law_are_checks" = some (.ref yfv)) (yfx : PySem.W.keepIn K (.ref yfv) = true)
  (ye1 : Binds K yjz ["_law_text", "_law_deeds"] [])
  {yhp : Addr} {ylq : FuncData} (ygf : FnG P w K mg base Yn 2 yhp ylq ["_law_text"] (spM K w zdu 1))
  (yhq : mg "_law_deeds_in" = some (.ref yhp)) (yhr : PySem.W.keepIn K (.ref yhp) = true)
  (ygg : Binds K ylq ["_law_text"] [])
  {ya5 : Addr} {ydz : FuncData} (ybn : FnG P w K mg base Yn 1 ya5 ydz ["_law_word"] (spM K w zb4 1))
  (yck : mg "_law_is_name" = some (.ref ya5)) (ycl : PySem.W.keepIn K (.ref ya5) = true)
  (ybo : Binds K ydz ["_law_word"] []) :
  FnG P w K mg base Yn 3 f fd ["_law_text"] (spM K w zck 1) :=
 okP (k := 2) F yjy fun cdv A outer s H E hr hgd => by
  have hN := yjy.nd
  have hu := hr.units
  exact zah (st_asg (zel (zac 0) (zai)) (pg_any rfl (pgs_cons (pg_name (i := 1) hN rfl Yf) (pgs_cons Yda (pgs_cons Ye3 (pgs_nil))))) (tg_any (zbd (zao 1) (zbd (zao 2) (zbd (zao 3) (ze8)))))) (zah (zdb ((iw_or (zd1 hu (zac 2) (zai)) (iw_or (zfa hu (zbg (zac 1) zb5 (zbr (zag))) (zai)) (iw_or1 (ze4 (it_tru (zap (dts := []) (dvs := []) ybn Ye hgd (by rfl) yck ycl ybo .nil Yp zbc (zaa (zbg (zac 1) (zbr (zag)) zb5) (zad)))))))).it) Yd1 (zbu)) (zah (st_asg (zel (zac 3) (zai)) Yel (tg_any (zbd (zao 4) (zbd (zao 5) (zbd (zao 6) (ze8)))))) (zah (za5 7 hN (zap (dts := []) (dvs := []) ygf Ye hgd (by rfl) yhq yhr ygg .nil Yp zbc Yd0)) (zan (zav (ie_and (ie_notN (zac 7) (zby)) (ie_one (ie_or (ie_eq hu (zac 5) (zai)) (ie_one (zap (dts := []) (dvs := []) ye0 Ye hgd (by rfl) yfw yfx ye1 .nil Yp zbc (zaa (zac 6) (zaa (zac 7) (zad)))))))))))))
abbrev yp1 : List Str := ["_law_script", "_law_odd", "_law_spot", "_law_deal_here", "_law_turn", "_law_deeds", "_law_text", "_law_words", "_law_again", "_law_at", "_law_form", "_law_bent", "_law_place"]
theorem ypu : FnScope yp1 ["_law_script"] (defScope ypg) := by simp_all_arith
theorem yp0 (F : DG K "law" "law" ypg dfs kws f fd)
  (yap : mg "range" = none)
  (ypm : mg "max" = none)
  (ypn : mg "min" = none)
  (yd : mg "len" = none)
  (ynl : mg "repr" = none)
  {ylr : Addr} {yn7 : FuncData} (ydw : FnG P w K mg base Yn 9 ylr yn7 ["_law_text"] (spM K w zb7 1))
  (yem : mg "_law_heard" = some (.ref ylr)) (yen : PySem.W.keepIn K (.ref ylr) = true)
  (ydx : Binds K yn7 ["_law_text"] [])
  {ygh : Addr} {ykz : FuncData} (yfy : FnG P w K mg base Yn 3 ygh ykz ["_law_text"] (spM K w zck 1))
  (ygi : mg "_law_is_reader" = some (.ref ygh)) (ygj : PySem.W.keepIn K (.ref ygh) = true)
  (yfz : Binds K ykz ["_law_text"] [])
  {yd6 : Addr} {yhk : FuncData} (ybp : FnG P w K mg base Yn 2 yd6 yhk ["_law_deal_here", "_law_some"] (spM K w zcq 2))
  (yc0 : mg "_law_pick" = some (.ref yd6)) (yc1 : PySem.W.keepIn K (.ref yd6) = true)
  (ybq : Binds K yhk ["_law_deal_here", "_law_some"] [])
  {yn : Addr} {yq : FuncData} (yg : FnG P w K mg base Yn 1 yn yq ["_law_deal_here", "_law_wide"] Yhg)
  (yk : mg "_law_draw" = some Yh6) (ym : PySem.W.keepIn K Yh6 = true)
  (yh : Binds K yq ["_law_deal_here", "_law_wide"] [])
  {yls : Addr} {yn8 : FuncData} (ykl : FnG P w K mg base Yn 3 yls yn8 ["_law_deal_here", "_law_deeds"] (spM K w ze2 2))
  (ylt : mg "_law_tests" = some (.ref yls)) (ylu : PySem.W.keepIn K (.ref yls) = true)
  (ykm : Binds K yn8 ["_law_deal_here", "_law_deeds"] [])
  {ykn : Addr} {ynm : FuncData} (yiw : FnG P w K mg base Yn 3 ykn ynm ["_law_deal_here", "_law_size"] (spM K w ze6 2))
  (yko : mg "_law_titles" = some (.ref ykn)) (ykp : PySem.W.keepIn K (.ref ykn) = true)
  (yix : Binds K ynm ["_law_deal_here", "_law_size"] [])
  {ye2 : Addr} {yii : FuncData} (yd8 : FnG P w K mg base Yn 2 ye2 yii ["_law_reader"] (spM K w zcf 1))
  (ye3 : mg "_law_reader_text" = some (.ref ye2)) (ye4 : PySem.W.keepIn K (.ref ye2) = true)
  (yd9 : Binds K yii ["_law_reader"] [])
  {yiy : Addr} {yme : FuncData} (yhs : FnG P w K mg base Yn 3 yiy yme ["_law_deal_here", "_law_called", "_law_counters", "_law_most"] (spM K w zdh 4))
  (yiz : mg "_law_glances" = some (.ref yiy)) (yi0 : PySem.W.keepIn K (.ref yiy) = true)
  (yht : Binds K yme ["_law_deal_here", "_law_called", "_law_counters", "_law_most"] [])
  {yff : Addr} {yjr : FuncData} (yfg : FnG P w K mg base Yn 2 yff yjr ["_law_deal_here", "_law_deeds", "_law_more"] (spM K w F_w_put 3))
  (ygs : mg "_law_put" = some (.ref yff)) (ygt : PySem.W.keepIn K (.ref yff) = true)
  (yfh : Binds K yjr ["_law_deal_here", "_law_deeds", "_law_more"] [])
  {ymr : Addr} {yo3 : FuncData} (ylv : FnG P w K mg base Yn 1 ymr yo3 ["_law_script", "_law_base"] (spM K w F_w_deal 2))
  (yms : mg "_law_deal" = some (.ref ymr)) (ymt : PySem.W.keepIn K (.ref ymr) = true)
  (ylw : Binds K yo3 ["_law_script", "_law_base"] []) :
  FnG P w K mg base Yn 10 f fd ["_law_script"] (spM K w F_law 1) :=
 okM (k := 9) F ypu fun cdv A outer s H E hr hgd => by
  have hN := ypu.nd
  have hu := hr.units
  exact zah (za5 1 hN (ie_lstL (zaa (zai) (zaa (zai) (zaa (zai) (zaa (zai) (zaa (zai) (zaa (zai) (zaa (zai) (zaa (zai) (zaa (zai) (zaa (zai) Ya2)))))))))))) (zah (st_expr (zed (zac 1) (zaa (zai) (zad)))) (is_fz 1 (zah (st_for (B := f_law_l3) PassesOwn.never rfl (ii_rng1 (by rfl) yap (zaa (zb8 (call_max2 rfl) ok_max2 (zaa (zag) (zaa (zb8 (call_min2 rfl) ok_min2 (zaa (zag) (zaa Ydw (zad))) ypn) (zad))) ypm) (zad))) Yda (zao 2) (zah (za5 3 hN (zap (dts := []) (dvs := []) ylv Ye hgd (by rfl) yms ymt ylw .nil Yp zbk (zaa (zac 0) Ycj))) (zan (st_for (B := f_law_l2) PassesOwn.never rfl (ii_rng1 (by rfl) yap Ybn) Yca (zao 4) (zah (za5 5 hN (zap (dts := []) (dvs := []) yfg Ye hgd (by rfl) ygs ygt yfh .nil Yp zbk (zaa (zac 3) (zaa (zap (dts := []) (dvs := []) yhs Ye hgd (by rfl) yiz yi0 yht .nil Yp zbk (zaa (zac 3) (zaa (zc6 (zaa (zai) Yep)) (zaa (zc6 Yep) Ybn)))) (zaa (ie_mulA (zc6 (zaa (zcr Yep) (zad))) (zag)) (zad)))))) (zah (za5 6 hN (zap (dts := []) (dvs := []) yd8 Ye hgd (by rfl) ye3 ye4 yd9 .nil Yp zbc (zaa (zcr (zaa (zal (zap (dts := []) (dvs := []) yiw Ye hgd (by rfl) yko ykp yix .nil Yp zbk (zaa (zac 3) Ybn)) (zag)) (zaa (zac 5) (zaa (zap (dts := []) (dvs := []) ykl Ye hgd (by rfl) ylt ylu ykm .nil Yp zbk (zaa (zac 3) (zaa (zac 5) (zad)))) (zad))))) (zad)))) (zah (zdb (zfa hu (zap (dts := []) (dvs := []) ydw Ye hgd (by rfl) yem yen ydx .nil Yp zbc (zaa (zac 6) (zad))) (zac 6)) Yd1 (zbu)) (zah (za5 7 hN (zdy (zac 6) (zai))) (zan (st_for (B := f_law_l1) PassesOwn.never rfl (ii_rng1 (by rfl) yap Ybn) (pg_name (i := 8) hN rfl Yf) (zao 8) (zah (st_par2 rfl hN (zaa (zap (dts := []) (dvs := []) yg Ye hgd (by rfl) yk ym yh .nil Yp zbk (zaa (zac 3) (zaa (zbm (zb8 call_len zb3 (zaa (zac 7) (zad)) yd) (zag)) (zad)))) (zaa Yf9 (zad)))) (zah (za5 11 hN (ie_join (zai) (zbm (zbm (zbg (zac 7) zb5 (zbr (zac 9))) (zc6 (zaa (zap (dts := []) (dvs := []) ybp Ye hgd (by rfl) yc0 yc1 ybq .nil Yp zbk (zaa (zac 3) Yaf)) (zad)))) (zbg (zac 7) (zbr (zbm (zac 9) Yf9)) zb5)))) (zah (zdb (zd1 hu (zac 10) (zag)) (zan (za5 11 hN (ie_join (zai) (zbm (zbg (zac 7) zb5 (zbr (zac 9))) (zbg (zac 7) (zbr (zbm (zac 9) (zag))) zb5))))) (zbu)) (zah (zdb (zd1 hu (zac 10) (zag)) (zah (za5 12 hN (zap (dts := []) (dvs := []) yg Ye hgd (by rfl) yk ym yh .nil Yp zbk (zaa (zac 3) (zaa (zbm (zb8 call_len zb3 (zaa (zac 6) (zad)) yd) (zag)) (zad))))) (zan (za5 11 hN (zbm (zbm (zbg (zac 6) zb5 (zbr (zac 12))) (zap (dts := []) (dvs := []) ybp Ye hgd (by rfl) yc0 yc1 ybq .nil Yp zbk (zaa (zac 3) (zaa (zc6 Ya2) (zad))))) (zbg (zac 6) (zbr (zac 12)) zb5))))) (zbu)) (zan (zdb (zfa hu (zb8 (call_reprD hgd hu) ok_repr (zaa (zap (dts := []) (dvs := []) ydw Ye hgd (by rfl) yem yen ydx .nil Yp zbc (zaa (zac 11) (zad))) (zad)) ynl) (zb8 (call_reprD hgd hu) ok_repr (zaa (ie_if (it_tru (zap (dts := []) (dvs := []) yfy Ye hgd (by rfl) ygi ygj yfz .nil Yp zbc (zaa (zac 11) (zad)))) (zac 11) (zag)) (zad)) ynl)) Yd1 (zbu))))))))))))))))) (zan (zav (ie_and Yeg (ie_one Yeg)))))))
end
theorem all_mk : AllMk F_law := by
 intro l w K h mg fa KX G hfa yf y2 yhy yhz yh0 yh1 yh2 yh3 yh4 yh5 yc5 ybt ycm ycn yco ih it ia_Reader im_Reader yb yo ygv ygw ygx ygy yd3 ygz yg0 yg1 yg2 yg3 yg4 yg5 yg6 yg7 yg8 ybu ybv ya6 yat y5 ybw yp yau yav yg9 ybx yby ybz yb0 yha yb1 y6 yaw yhb yb2 yb3 yhc yhd yd4 yhe yd5 yhf yb4 yb5 yb6 yhg yhh yhi yb7 yb8 yb9 yca ya7 ya8 ya9 ya ybc yi1 yi2 yi3 yi4 ye6 yi5 yi6 yi7 y0 yi8 yi9 yja yjb yjc yjd yc6 yc7 ycp yai ybd yc8 yr ybe ybf yje yc9 yda ydb ydc yjf ydd yaj ybg yjg yde ydf yjh yji ye7 yjj ye8 yjk ydg ydh ydi yjl yjm yjn ydj ydk ydl ydm ya2 ycq ycr ycs yct ycu ycv ycw yba yt y1 ycx ydn yu yx yy yz xsup xany xtop v_MOST_LETTERS w_MOST_LETTERS v_MOST_DIGITS w_MOST_DIGITS v_NAMED w_NAMED v_LETTERS w_LETTERS v_DIGITS w_DIGITS v_BESIDE w_BESIDE v_IF w_IF v_READER w_READER ye9 o_BARRED us_BARRED yj7 w_BARRED lk_BARRED yea yeb oa_BARRED or_BARRED oz_BARRED yak o_READER_WORDS us_READER_WORDS ydo w_READER_WORDS lk_READER_WORDS y9 yaa oa_READER_WORDS or_READER_WORDS oz_READER_WORDS yon yoo yop ymu ylz yoq yf2 yor yer yl0 yos yot you ymv ad_w_deal ynw yfa ad_w_draw ynx yfb ad_w_put yow ygr ad_w_mixed ymw yec ad_w_pick yny yfc ad_w_glances yk7 ycg ad_w_test_texts yh6 yal ad_w_deed_texts yh7 yam ad_w_reader_text yhj yab ad_w_titles yl3 ydp ad_w_tests ymx yed ad_Reader_str ykq ycz ad_named_in yl4 ydq ad_is_name ymy yee ad_is_sequence yjo yay ad_deed_in ymz yef ad_deeds_in yl5 ydr ad_number_in yk8 ych ad_spot_in ym0 yeg ad_test_in ym1 yeh ad_tests_in yl6 yds ad_Reader_init yfd ybh ybi ybj yan ybk yfe ybl sl_Reader_init yac to_Reader_init tn_Reader_init at_Reader_init fn_Reader_init yd0 yd1 yd2 e_Reader_init eo_Reader_init en_Reader_init t_Reader_init u_Reader_init el_Reader_init ec_Reader_init ed_Reader_init ea_Reader_init ydt ad_Reader_read cm_Reader_read yjp ycd ad_w_heard ym2 yei ad_w_is_name yk9 yci ad_w_deeds_in ykr ybm ad_w_spots ym3 yej ad_w_are_checks yh8 yao ad_w_is_reader yjq yaz ad_law ypo ym4
 have e0 := hfa.symm.trans (PySem.W.mg_of KX G ym4.1)
 obtain rfl : fa = ad_law := by cases e0; rfl
 have yc3 : Cls K yf := ⟨yhy, yhz, yh0, yh1⟩
 have ycc : ClsF K mg "Reader" yf := ⟨y2, PySem.W.mg_of KX G y2, yc3⟩
 have ycb : ∀ c ∈ (["Reader"] : List Str), FldOk K c "name" := by
  intro c hc
  simp only [List.mem_cons, List.not_mem_nil, or_false] at hc
  subst hc
  ·exact ⟨_, y2, yc3, yc5⟩
 have yax : ∀ c ∈ (["Reader"] : List Str), FldOk K c "checks" := by
  intro c hc
  simp only [List.mem_cons, List.not_mem_nil, or_false] at hc
  subst hc
  ·exact ⟨_, y2, yc3, ybt⟩
 have ycj : ∀ c ∈ (["Reader"] : List Str), FldOk K c "steps" := by
  intro c hc
  simp only [List.mem_cons, List.not_mem_nil, or_false] at hc
  subst hc
  ·exact ⟨_, y2, yc3, ycm⟩
 have yis : ∀ c ∈ (["Reader"] : List Str), FldOk K c "tests" := by
  intro c hc
  simp only [List.mem_cons, List.not_mem_nil, or_false] at hc
  subst hc
  ·exact ⟨_, y2, yc3, ycn⟩
 have yit : ∀ c ∈ (["Reader"] : List Str), FldOk K c "deeds" := by
  intro c hc
  simp only [List.mem_cons, List.not_mem_nil, or_false] at hc
  subst hc
  ·exact ⟨_, y2, yc3, yco⟩
 have hT : IsTab K zez := by
  refine ⟨fun t c b tv cv h ht hc => ?_, fun c d b C h n => ?_⟩
  ·unfold zez at h
   split at h
   ·cases ht
    cases hc
    exact kit_ty h
   ·split at h
    ·rename_i a a2 e
     cases h
     obtain ⟨rfl, e⟩ := e
     obtain ⟨C1, rfl, n1⟩ := ht
     obtain ⟨C2, rfl, n2⟩ := hc
     cases n1.inj n2
     rcases e with rfl
     ·cases n1.inj y2
      simp [PySem.W.kitOne]
    ·cases h
   ·cases h
  ·rcases d with d | d
   ·exact absurd h (by simp [zez])
   ·simp only [zez] at h
    split at h
    ·rename_i e
     obtain ⟨rfl, e⟩ := e
     rcases e with rfl
     ·cases n.inj y2
      exact ⟨yc3, ia_Reader, ih, it, im_Reader⟩
    ·cases h
 have yhu : OexC K yb := ⟨⟨_, _, _, _, _, _, _, _, _, _, _, _, _, _, _, ybu, ybv⟩, ya6, yat, y5, ybw⟩
 have yhv : XIni l.prog K yb yp "InvalidReader.__init__" "word" (defArgs (inClass (topS 2) 0)) (defBody (inClass (topS 2) 0)) (defScope (inClass (topS 2) 0)) Yw := ⟨yhu, ⟨_, _, _, _, _, _, _, _, _, _, _, _, _, _, _, _, _, _, _, rfl, yb2, yb3, yb4, yb5, yb6, yb7⟩, yau, yav, yb8, yb9, yca, xsup, xany, ya7, xtop⟩
 have yc : ∀ base : Heap, XF l.prog w K mg base "InvalidReader" yb yp Yw ["self", "word"] "word" := fun base => ⟨yhu, yau, yav, yo, xini_ok yhv ⟨rfl, rfl, rfl, rfl, rfl, rfl, rfl, rfl, rfl, by decide +kernel, by decide, by decide⟩ (fun env => rfl), xini_hot yhv ⟨rfl, rfl, rfl, rfl, rfl, rfl, rfl, rfl, rfl, by decide +kernel, by decide, by decide⟩ (fun env => rfl), PySem.W.mg_of KX G yo, .all fun us hl => match us, hl with | [_, _], _ => rfl, exm_self yat ya8 y5 ya9⟩
 have yj0 : OexC K ya := ⟨⟨_, _, _, _, _, _, _, _, _, _, _, _, _, _, _, yc6, yc7⟩, ycp, yai, ybd, yc8⟩
 have yj1 : XIni l.prog K ya yr "InvalidText.__init__" "at" (defArgs (inClass (topS 3) 0)) (defBody (inClass (topS 3) 0)) (defScope (inClass (topS 3) 0)) Yx := ⟨yj0, ⟨_, _, _, _, _, _, _, _, _, _, _, _, _, _, _, _, _, _, _, rfl, yde, ydf, ydg, ydh, ydi, ydj⟩, ybe, ybf, ydk, ydl, ydm, xsup, xany, ya2, xtop⟩
 have ye : ∀ base : Heap, XF l.prog w K mg base "InvalidText" ya yr Yx ["self", "at"] "at" := fun base => ⟨yj0, ybe, ybf, ybc, xini_ok yj1 ⟨rfl, rfl, rfl, rfl, rfl, rfl, rfl, rfl, rfl, by decide +kernel, by decide, by decide⟩ (fun env => rfl), xini_hot yj1 ⟨rfl, rfl, rfl, rfl, rfl, rfl, rfl, rfl, rfl, by decide +kernel, by decide, by decide⟩ (fun env => rfl), PySem.W.mg_of KX G ybc, .all fun us hl => match us, hl with | [_, _], _ => rfl, exm_self yai ycq ybd ycr⟩
 have y0 : XcF K ya := ⟨ycs, yct, yai, ycu, ycv, ih, it, ycw⟩
 have ydy := ya2
 have yd7 := PySem.W.mg_of KX G yo
 have yfu := PySem.W.mg_of KX G y1
 have y7 := kt_ofb yba y5 yu (ne_ofb yx)
 have yae := kt_ofb ycx ydn yy (ne_ofb yz)
 have yfp := PySem.W.mg_of KX G w_MOST_LETTERS
 have yga := PySem.W.mg_of KX G w_MOST_DIGITS
 have ynt := PySem.W.mg_of KX G w_NAMED
 have ylb := PySem.W.mg_of KX G w_LETTERS
 have ymn := PySem.W.mg_of KX G w_DIGITS
 have yki := PySem.W.mg_of KX G w_BESIDE
 have ypx := PySem.W.mg_of KX G w_IF
 have ymp := PySem.W.mg_of KX G w_READER
 have ymm := PySem.W.mg_of KX G w_BARRED
 have yfq := PySem.W.mg_of KX G w_READER_WORDS
 have ycy := PySem.W.mg_none_of KX G yon
 have yov := PySem.W.mg_none_of KX G yoo
 have yd := PySem.W.mg_none_of KX G yop
 have yet := PySem.W.mg_none_of KX G ymu
 have yap := PySem.W.mg_none_of KX G ylz
 have yah := PySem.W.mg_none_of KX G yoq
 have yik := PySem.W.mg_none_of KX G yf2
 have yl1 := PySem.W.mg_none_of KX G yor
 have yj := PySem.W.mg_none_of KX G yer
 have yaq := PySem.W.mg_none_of KX G yl0
 have ygk := PySem.W.mg_none_of KX G yos
 have ypm := PySem.W.mg_none_of KX G yot
 have ypn := PySem.W.mg_none_of KX G you
 have ynl := PySem.W.mg_none_of KX G ymv
 have yms := PySem.W.mg_of KX G yfa.1
 have ymt := yfa.2.kp
 have yo4 := yfa.2
 have yk := PySem.W.mg_of KX G yfb.1
 have ym := yfb.2.kp
 have yo5 := yfb.2
 have ygs := PySem.W.mg_of KX G ygr.1
 have ygt := ygr.2.kp
 have ypf := ygr.2
 have ya3 := PySem.W.mg_of KX G yec.1
 have ya4 := yec.2.kp
 have yn9 := yec.2
 have yc0 := PySem.W.mg_of KX G yfc.1
 have yc1 := yfc.2.kp
 have yo6 := yfc.2
 have yiz := PySem.W.mg_of KX G ycg.1
 have yi0 := ycg.2.kp
 have ymf := ycg.2
 have yfn := PySem.W.mg_of KX G yal.1
 have yfo := yal.2.kp
 have yj2 := yal.2
 have yfk := PySem.W.mg_of KX G yam.1
 have yfl := yam.2.kp
 have yj3 := yam.2
 have ye3 := PySem.W.mg_of KX G yab.1
 have ye4 := yab.2.kp
 have yij := yab.2
 have yko := PySem.W.mg_of KX G ydp.1
 have ykp := ydp.2.kp
 have ynn := ydp.2
 have ylt := PySem.W.mg_of KX G yed.1
 have ylu := yed.2.kp
 have yoa := yed.2
 have ygd := ycz.me
 have ylx := ycz.2.2
 have ykg := PySem.W.mg_of KX G ydq.1
 have ykh := ydq.2.kp
 have yno := ydq.2
 have yek := PySem.W.mg_of KX G yee.1
 have yel := yee.2.kp
 have yob := yee.2
 have ya0 := PySem.W.mg_of KX G yay.1
 have ya1 := yay.2.kp
 have yk0 := yay.2
 have yib := PySem.W.mg_of KX G yef.1
 have yic := yef.2.kp
 have yoc := yef.2
 have ykd := PySem.W.mg_of KX G ydr.1
 have yke := ydr.2.kp
 have ynp := ydr.2
 have yim := PySem.W.mg_of KX G ych.1
 have yin := ych.2.kp
 have ymg := ych.2
 have yid := PySem.W.mg_of KX G yeg.1
 have yie := yeg.2.kp
 have yod := yeg.2
 have yif := PySem.W.mg_of KX G yeh.1
 have yig := yeh.2.kp
 have yoe := yeh.2
 have yka := PySem.W.mg_of KX G yds.1
 have ykb := yds.2.kp
 have ynq := yds.2
 have ymo : Mk K yf ad_Reader_init := ⟨yh2, at_Reader_init, fn_Reader_init, yh3⟩
 have dt_Reader_init : ∀ s, RwL K s (([.tup []] : List T).map W.t) [V.ref e_Reader_init] := fun s => ⟨V.ref e_Reader_init, [], rfl, by simp only [Rw, Rf]; exact ⟨e_Reader_init, [], rfl, .inr ⟨eo_Reader_init, #[], en_Reader_init, el_Reader_init, ec_Reader_init, ed_Reader_init, ea_Reader_init, by simp, .nil⟩, rfl⟩, rfl⟩
 have yk1 : FunD K "__init__" "Reader.__init__" (defArgs yi) (defBody yi) (defScope yi) [V.ref e_Reader_init] [] ad_Reader_init Yaw := ⟨⟨yfd, yfe, (.ref yac), ybh, ybi, ybj, ybl, yan, ybk, sl_Reader_init, rfl, yd0, yd1, .inr ⟨by simp, yac, to_Reader_init, [.ref e_Reader_init], tn_Reader_init, rfl, t_Reader_init, u_Reader_init, .cons rfl .nil⟩, .inl rfl⟩, yd2⟩
 have r_Reader : ClX.CRead K yf Yd7 := ⟨yh4, yh5⟩
 have yem := PySem.W.mg_of KX G yei.1
 have yen := yei.2.kp
 have yof := yei.2
 have yck := PySem.W.mg_of KX G yci.1
 have ycl := yci.2.kp
 have ymh := yci.2
 have yhq := PySem.W.mg_of KX G ybm.1
 have yhr := ybm.2.kp
 have yly := ybm.2
 have ylo := PySem.W.mg_of KX G yej.1
 have ylp := yej.2.kp
 have yog := yej.2
 have yfw := PySem.W.mg_of KX G yao.1
 have yfx := yao.2.kp
 have yj4 := yao.2
 have ygi := PySem.W.mg_of KX G yaz.1
 have ygj := yaz.2.kp
 have yk2 := yaz.2
 have ypy := ym4.2
 have yh := yo5.bindsN (ps := ["_law_deal_here", "_law_wide"]) fun _ _ _ _ _ _ us hl => match us, hl with | [_, _], _ => rfl
 have yfh := ypf.bindsN (ps := ["_law_deal_here", "_law_deeds", "_law_more"]) fun _ _ _ _ _ _ us hl => match us, hl with | [_, _, _], _ => rfl
 have ybq := yo6.bindsN (ps := ["_law_deal_here", "_law_some"]) fun _ _ _ _ _ _ us hl => match us, hl with | [_, _], _ => rfl
 have yag := yn9.bindsN (ps := ["_law_deal_here", "_law_some"]) fun _ _ _ _ _ _ us hl => match us, hl with | [_, _], _ => rfl
 have yev := yj3.bindsN (ps := ["_law_deeds"]) fun _ _ _ _ _ _ us hl => match us, hl with | [_], _ => rfl
 have yex := yj2.bindsN (ps := ["_law_tests_here"]) fun _ _ _ _ _ _ us hl => match us, hl with | [_], _ => rfl
 have ydv := yob.bindsN (ps := ["value"]) fun _ _ _ _ _ _ us hl => match us, hl with | [_], _ => rfl
 have ygm := yoc.bindsN (ps := ["value", "words"]) fun _ _ _ _ _ _ us hl => match us, hl with | [_, _], _ => rfl
 have yas := yk0.bindsN (ps := ["value"]) fun _ _ _ _ _ _ us hl => match us, hl with | [_], _ => rfl
 have yhn := ymg.bindsN (ps := ["word", "digits"]) fun _ _ _ _ _ _ us hl => match us, hl with | [_, _], _ => rfl
 have ygo := yod.bindsN (ps := ["word", "deeds"]) fun _ _ _ _ _ _ us hl => match us, hl with | [_, _], _ => rfl
 have ygq := yoe.bindsN (ps := ["value", "deeds"]) fun _ _ _ _ _ _ us hl => match us, hl with | [_, _], _ => rfl
 have yip := ynq.bindsN (ps := ["value", "deeds"]) fun _ _ _ _ _ _ us hl => match us, hl with | [_, _], _ => rfl
 have yir := ynp.bindsN (ps := ["value", "words"]) fun _ _ _ _ _ _ us hl => match us, hl with | [_, _], _ => rfl
 have yiv := yno.bindsN (ps := ["text", "word"]) fun _ _ _ _ _ _ us hl => match us, hl with | [_, _], _ => rfl
 have yfs : Binds K Yaw ["self", "name", "steps", "checks"] [] := by
  obtain ⟨ds, r, b⟩ := yk1.binds1 (ps := ["self", "name", "steps", "checks"]) 4 1 Y4 Y4 fun T kV doc pm an cdv ct us its hu hi => match us, hu, its, hi with | [_, _, _, _], _, [_], _ => ⟨_, rfl, rfl⟩
  cases r
  exact b
 have yge := ycd.bindsN (ps := ["cls", "text"]) fun _ _ _ _ _ _ us hl => match us, hl with | [_, _], _ => rfl
 have yho := ylx.bindsN (ps := ["self"]) fun _ _ _ _ _ _ us hl => match us, hl with | [_], _ => rfl
 have ybo := ymh.bindsN (ps := ["_law_word"]) fun _ _ _ _ _ _ us hl => match us, hl with | [_], _ => rfl
 have ykk := yog.bindsN (ps := ["_law_words", "_law_deeds"]) fun _ _ _ _ _ _ us hl => match us, hl with | [_, _], _ => rfl
 have ye1 := yj4.bindsN (ps := ["_law_text", "_law_deeds"]) fun _ _ _ _ _ _ us hl => match us, hl with | [_, _], _ => rfl
 have ygg := yly.bindsN (ps := ["_law_text"]) fun _ _ _ _ _ _ us hl => match us, hl with | [_], _ => rfl
 have ydx := yof.bindsN (ps := ["_law_text"]) fun _ _ _ _ _ _ us hl => match us, hl with | [_], _ => rfl
 have yfz := yk2.bindsN (ps := ["_law_text"]) fun _ _ _ _ _ _ us hl => match us, hl with | [_], _ => rfl
 have ykm := yoa.bindsN (ps := ["_law_deal_here", "_law_deeds"]) fun _ _ _ _ _ _ us hl => match us, hl with | [_, _], _ => rfl
 have yix := ynn.bindsN (ps := ["_law_deal_here", "_law_size"]) fun _ _ _ _ _ _ us hl => match us, hl with | [_, _], _ => rfl
 have yd9 := yij.bindsN (ps := ["_law_reader"]) fun _ _ _ _ _ _ us hl => match us, hl with | [_], _ => rfl
 have yht := ymf.bindsN (ps := ["_law_deal_here", "_law_called", "_law_counters", "_law_most"]) fun _ _ _ _ _ _ us hl => match us, hl with | [_, _, _, _], _ => rfl
 have ylw := yo4.bindsN (ps := ["_law_script", "_law_base"]) fun _ _ _ _ _ _ us hl => match us, hl with | [_, _], _ => rfl
 have ylv := fun base : Heap => yph (P := l.prog) (w := w) (mg := mg) (base := base) yo4 ycy yov
 have yg := fun base : Heap => ypi (P := l.prog) (w := w) (mg := mg) (base := base) yo5 ycy
 have yfg := fun base : Heap => ypp (P := l.prog) (w := w) (mg := mg) (base := base) ypf yd yet (yg base) yk ym yh
 have yaf := fun base : Heap => yo7 (P := l.prog) (w := w) (mg := mg) (base := base) yn9 yd yet (yg base) yk ym yh
 have ybp := fun base : Heap => ypj (P := l.prog) (w := w) (mg := mg) (base := base) yo6 yd (yg base) yk ym yh
 have yhs := fun base : Heap => yoh (P := l.prog) (w := w) (mg := mg) (base := base) ymf yd yap (yfg base) ygs ygt yfh (yg base) yk ym yh (ybp base) yc0 yc1 ybq (yaf base) ya3 ya4 yag
 have yew := fun base : Heap => ymk (P := l.prog) (w := w) (mg := mg) (base := base) yj2 yah
 have yeu := fun base : Heap => yml (P := l.prog) (w := w) (mg := mg) (base := base) yj3
 have yd8 := fun base : Heap => yl2 (P := l.prog) (w := w) (mg := mg) (base := base) yij (yeu base) yfk yfl yev (yew base) yfn yfo yex
 have yiw := fun base : Heap => yoy (P := l.prog) (w := w) (mg := mg) (base := base) ynn (yaf base) ya3 ya4 yag
 have ykl := fun base : Heap => yo8 (P := l.prog) (w := w) (mg := mg) (base := base) yoa yik (yaf base) ya3 ya4 yag (yg base) yk ym yh
 have ygc := fun base : Heap => yns (P := l.prog) (w := w) (mg := mg) (base := base) ylx yd ycb yax ycj
 have yiu := fun base : Heap => yo0 (P := l.prog) (w := w) (mg := mg) (base := base) yno yd ynt
 have ydu := fun base : Heap => yo9 (P := l.prog) (w := w) (mg := mg) (base := base) yob yl1 yj yah yd yfp ylb hT ymm lk_BARRED yea yeb oa_BARRED or_BARRED oz_BARRED
 have yar := fun base : Heap => ym9 (P := l.prog) (w := w) (mg := mg) (base := base) yk0 yj yaq yet hT
 have ygl := fun base : Heap => ypa (P := l.prog) (w := w) (mg := mg) (base := base) yoc yd yj yah (ydu base) yek yel ydv hT
 have yiq := fun base : Heap => yo1 (P := l.prog) (w := w) (mg := mg) (base := base) ynp yd ygk yaq (ygl base) yib yic ygm (yar base) ya0 ya1 yas
 have yhm := fun base : Heap => yoj (P := l.prog) (w := w) (mg := mg) (base := base) ymg ycy yd yl1 ymn
 have ygn := fun base : Heap => ypb (P := l.prog) (w := w) (mg := mg) (base := base) yod yd yga (yhm base) yim yin yhn
 have ygp := fun base : Heap => ypc (P := l.prog) (w := w) (mg := mg) (base := base) yoe yd yj yah (ygn base) yid yie ygo hT
 have yio := fun base : Heap => yo2 (P := l.prog) (w := w) (mg := mg) (base := base) ynq yd ygk yaq (ygp base) yif yig ygq (yar base) ya0 ya1 yas
 have yfr := fun base : Heap => ynd (P := l.prog) (w := w) (mg := mg) (base := base) yk1 yaq (yio base) yka ykb yip (yiq base) ykd yke yir (ydu base) yek yel ydv yis yit yax ycj ycb (yc base) yfq lk_READER_WORDS y9 yaa oa_READER_WORDS or_READER_WORDS oz_READER_WORDS
 have yft := fun base : Heap => yng (P := l.prog) (w := w) (mg := mg) (base := base) ycd (yiu base) ykg ykh yiv ycc (yfr base) (yc base) yki ymo (ye base) ypx ymp yfs
 have ydw := fun base : Heap => ypd (P := l.prog) (w := w) (mg := mg) (base := base) yof yah yj ycc (yft base) (ygc base) r_Reader cm_Reader_read ygd (ye base) y0 yo yd7 y7 y1 yfu yae ydy yge yho
 have ybn := fun base : Heap => yol (P := l.prog) (w := w) (mg := mg) (base := base) ymh yd
 have ygf := fun base : Heap => ynu (P := l.prog) (w := w) (mg := mg) (base := base) yly yd (ybn base) yck ycl ybo
 have ykj := fun base : Heap => ype (P := l.prog) (w := w) (mg := mg) (base := base) yog yap yd yah
 have ye0 := fun base : Heap => ymq (P := l.prog) (w := w) (mg := mg) (base := base) yj4 yd ygk (ykj base) ylo ylp ykk
 have yfy := fun base : Heap => ynk (P := l.prog) (w := w) (mg := mg) (base := base) yk2 (ye0 base) yfw yfx ye1 (ygf base) yhq yhr ygg (ybn base) yck ycl ybo
 exact ⟨_, fun s v => ypy.bindsA (ps := ["_law_script"]) (fun _ _ _ _ _ _ us hl => match us, hl with | [_], _ => rfl) s [v] rfl, fun base _ _ => yp0 ypy yap ypm ypn yd ynl (ydw base) yem yen ydx (yfy base) ygi ygj yfz (ybp base) yc0 yc1 ybq (yg base) yk ym yh (ykl base) ylt ylu ykm (yiw base) yko ykp yix (yd8 base) ye3 ye4 yd9 (yhs base) yiz yi0 yht (yfg base) ygs ygt yfh (ylv base) yms ymt ylw⟩
end D
theorem PySem.Challenge.cw_untorn_k07_texts_of_readers_holds : PySem.Challenge.rw_untorn_k07_texts_of_readers.Holds :=
 D.early D.all_mk fun h => D.law_is h
