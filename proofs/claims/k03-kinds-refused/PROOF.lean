import PyProof.Rows.All
import PySem.Challenge.RW_untorn_k03_kinds_refused
import KE.OsRunLaw
import HandS.Head0
import HandS.Head1
import HandS.Head2
import KE.KDictKeyed
import Wide.All
import OpenK.AllK
import Wide.FinOn
import HandS.ForMost
import HandS.Zip
import HandS.Style
import HandS.Star
import KE.DataEq
import KE.GoesEnum
import KE.GoesMore
import HandS.WordsExc
import HandS.Defaults
import HandS.Conv
import HandS.Wide
import HandS.TupAny
import HandS.RaiseMore
import HandS.Strs
import KE.KIndexOf
import HandS.SortInts
import HandS.Dict
import HandS.TryOnly
import HandS.List
import PyProof.ReprRoads
import HandS.Sort
import HandS.WideMore
import KE.SortKeyHeap
import HandS.SortKw
import PyProof.TupleOfSeq
import HandS.DictEq
import KE.KDictPairs
import KE.KDictZip
import PyProof.StrLawsRepr
import HandS.Property
import HandS.ClsMeth
import HandS.ExcInit
import HandS.ExcInitHot
import KE.KExcSuper
import HandS.CallSlots
import HandS.ExcCtx
import HandS.CallLocal
import HandS.SuiteRaise
import HandS.RaiseFrom
import HandS.ExcField
import HandS.ExcIs
import HandS.IsInst
import HandS.Text
import HandS.FStr
import PyProof.Rows.SetFrom
import HandS.SetKeys
import HandS.DictComp
import PyProof.InstSpecial
import HandS.TupSets
import HandS.TupMul
import HandS.Codes
import KE.SortData
import HandS.SetFor
import HandS.SetBool
import HandS.More
import HandS.SetTxt0
import PyProof.Rows.SortShellAny
import KE.KDictDisplayH
import PyProof.DictTable
import KE.KCallOwn
import HandS.ListItems
import HandS.OwnEq
import PyProof.InstNe
import KE.LtData
import KE.KDictSum
import KE.KDictCopyH
import HandS.TryMany
import KE.KExcIs
set_option Elab.async false
set_option linter.all false
set_option maxRecDepth 100000
set_option maxHeartbeats 4000000
set_option autoImplicit false
set_option hygiene false
local macro_rules | `($x:ident) => do
 let .str .anonymous s := x.getId | Lean.Macro.throwUnsupported
 if s.front != 'Y' then Lean.Macro.throwUnsupported
 match s with
 | "Ya" => `((.Call (.Attribute (.Call (.Name "super" p0) [] [] p1) "__init__" p2) [.Constant (.str txt) j p3] [] p4))
 | "Yb" => `((hr.mono (by decide)))
 | "Yc" => `((by omega))
 | "Yd" => `((mIf (mOr (zaj asB (mBin (eqW true) (mApp oLen (zab (mVar 2) (mNil))) (mC (.int 2)))) (mOr (zaj asB (mBin (inW true) (mBin ixW (mVar 2) (mC (.int 0))) (mVar 1))) (mNot (zaj truW (zan zaz [] (zab (mBin ixW (mVar 2) (mC (.int 1))) (mNil))))))) (mRet (mC .non)) (zcl)))
 | "Ye" => `((Aft.refl s))
 | "Yf" => `((by simp [Rw, Rf]))
 | "Yg" => `((zab (mC .non) (zab (mC (.str "write a")) (zab (mC (.int 3)) (zab (mApp zce (mNil)) (zab (mApp zak (mNil)) (zab (mBin ixW (mVar 1) (mC (.int 0))) (mNil))))))))
 | "Yh" => `((mC (.str "write a")))
 | "Yi" => `((fun s => rfl))
 | "Yj" => `((mC (.int 0)))
 | "Yk" => `((mApp newL (zab (mC (.str "kind")) (zab (mC (.str "if")) (zab (mC (.str "look")) (zab (mC (.str "")) (zab (mC (.str "abcde")) (zab (mC (.str "A")) (zab (mC .non) (zab (mC (.int 3)) (zab (mC (.bl true)) (zab (mApp zce (zab (mC (.str "w")) (mNil))) (zab (mApp zak (zab (mC (.str "w")) (mNil))) (zab (mC (.str "w ")) (zab (mC (.str "same")) (zab (mC (.str "bump")) (zab (mC (.str "even")) (mNil))))))))))))))))))
 | "Yl" => `((ts.map W.t))
 | "Ym" => `((by decide +kernel))
 | "Yn" => `((L2.CX P w))
 | "Yo" => `((PySem.W.ksFn "__init__" "InvalidKind.__init__" (defArgs (inClass (topS 2) 0)) (defBody (inClass (topS 2) 0)) (defScope (inClass (topS 2) 0)) .none ybm ybn ybo ybq (.ref yal) ybp yay))
 | "Yp" => `((zab (mVar 1) (mNil)))
 | "Yq" => `((by first | exact blkOk_by (N := ydl) (sc := defScope ybi) (by decide +kernel) | exact blkOk_by (by with_unfolding_all rfl) | exact blkOk_by (by decide +kernel +revert)))
 | "Yr" => `((getMethod ov "__init__" (do return (← importBound (.Call (.Name "super" p0) [] [] p1) env).getD true)))
 | "Ys" => `((by simp_all_arith!))
 | "Yt" => `((mC (.int 1)))
 | "Yu" => `((zab (mVar 4) (mNil)))
 | "Yv" => `((some (.lst (([] : List Int).map wI))))
 | "Yw" => `((.t (.lst ts)))
 | "Yx" => `((NestedKey × Addr × V))
 | _ => Lean.Macro.throwUnsupported
local macro_rules | `($x:ident) => do
 let .str .anonymous s := x.getId | Lean.Macro.throwUnsupported
 if s.front != 'Y' then Lean.Macro.throwUnsupported
 match s with
 | "Yy" => `((.t (.lst (ds.map dTr))))
 | "Yz" => `((ds.map fun d => .str (dTx d)))
 | "Y0" => `((zaa (zaf) (zad)))
 | "Y1" => `((X.suite a ((a, oe) :: pn)))
 | "Y2" => `((hp.set j (some (.lst (ys.map wI)))))
 | "Y3" => `((.tup ((w0 :: ws).map T.str)))
 | "Y4" => `((some (.lst [.r j, .t (.int ((st * 48271 + 43) % 2147483647))])))
 | "Y5" => `((zab (zan zaw [] (zab (mVar 0) (zab (mVar 2) (mNil)))) (mNil)))
 | "Y6" => `((.builtin "object.__class__"))
 | "Y7" => `((.scr (ns.map T.int)))
 | "Y8" => `((.Call (.Name x p) (e :: es) [] pos))
 | "Y9" => `((PySem.W.fnOf x q (defArgs s) (defBody s) (defScope s) .none kV dc pm an cd ct))
 | "Yaa" => `((model X.prog X.w))
 | "Yab" => `((X.blk s H scope (compEnvC scope cl C X.env) fp))
 | "Yac" => `((zaj truW (mApp (oIsi isTab) (zab (mVar 0) (zab (mC (.ty "str")) (mNil))))))
 | "Yad" => `((.t (.int i)))
 | "Yae" => `((.t (.tup ts)))
 | "Yaf" => `((hp.set j (some (.lst (g2.map wI)))))
 | "Yag" => `((.tup (ws.map T.str)))
 | "Yah" => `((.t (.int wide)))
 | "Yai" => `((by simp; omega))
 | "Yaj" => `((fun _ _ _ _ _ => zca))
 | "Yak" => `((Value × (Addr → Value → Option Addr → TS)))
 | "Yal" => `((by simp))
 | _ => Lean.Macro.throwUnsupported
local macro_rules | `($x:ident) => do
 let .str .anonymous s := x.getId | Lean.Macro.throwUnsupported
 if s.front != 'Y' then Lean.Macro.throwUnsupported
 match s with
 | "Yam" => `((.t (.lst (ps.map T.str))))
 | "Yan" => `((List.mem_cons_self ..))
 | "Yao" => `((NestedKey × Addr × Value))
 | "Yap" => `((A.deeper (envOfC qual (defScope st) s.heap.objs.size f cdv)))
 | "Yaq" => `((.lst (tx03 ds)))
 | "Yar" => `((by first | exact blkOk_by (N := yha) (sc := defScope yd8) (by decide +kernel) | exact blkOk_by (by with_unfolding_all rfl) | exact blkOk_by (by decide +kernel +revert)))
 | "Yas" => `((hp.objs.size + 1))
 | "Yat" => `((zan F_w_any [] (zab (mVar 2) (zab (mC (.int 6)) (mNil)))))
 | "Yau" => `((defScope st))
 | "Yav" => `((zaa (zac 1) (zad)))
 | "Yaw" => `((.t .non))
 | "Yax" => `((s.heap.objs.size + 1))
 | "Yay" => `((mSrc rng1 (zab (zan zat [] (zab (mVar 0) (zab (mC (.int 3)) (mNil)))) (mNil))))
 | "Yaz" => `((by decide))
 | "Ya0" => `((.Call (.Name "super" p0) [] [] p1))
 | "Ya1" => `((zaa (zai (dts := []) (dvs := []) yp Yb hgd (by rfl) y5 y6 yq .nil Yi zar (zaa (zac 0) (zaa (zac 2) (zad)))) (zad)))
 | "Ya2" => `((zab (mBin wAdd (mBin wAdd (mSl (mVar 1) zay (zbn (mVar 3))) (mApp zak Y5)) (mSl (mVar 1) (zbn (mVar 3)) zay)) (zab (mBin wAdd (mVar 1) (mApp zak (zab Yh (zab Yh (mNil))))) (mNil))))
 | "Ya3" => `((mBin (isN true) (zan zam [] (zab (mVar 5) (zab (mBin wAdd (mBin wMul (mApp zak (zab (mC (.str "bump c")) (mNil))) (mC (.int 2))) (mApp zak (zab Yh (mNil)))) (mNil)))) (mC .non)))
 | "Ya4" => `((mBin ixW (mVar 0) Yj))
 | "Ya5" => `((mRet (mApp zce (zab (mBin ixW (mVar 2) Yj) (zab (mBin ixW (mVar 2) Yt) (mNil))))))
 | "Ya6" => `((fun _ _ _ _ _ => zai (dts := []) (dvs := []) ybg (hr.mono (Nat.le_refl _)) hgd (by rfl) yc9 yda ycd .nil Yi hG (zaa (zac 0) (zaa (ie_sub (zac 1) (zag)) (zad)))))
 | "Ya7" => `((zab (mVar 2) (zab (mApp zak (zab (mC (.str "a")) (zab (mC (.str "b")) (mNil)))) (zab (mApp zak (zab (mC (.str "c")) (mNil))) (zab (mC (.int 4)) (mNil))))))
 | "Ya8" => `((Nat.le_of_ble_eq_true rfl))
 | "Ya9" => `((zaa (zaf) (zaa (zaf) (zaa (zaf) (zaa (zaf) (zaa (zaf) (zaa (zaf) Y0)))))))
 | _ => Lean.Macro.throwUnsupported
local macro_rules | `($x:ident) => do
 let .str .anonymous s := x.getId | Lean.Macro.throwUnsupported
 if s.front != 'Y' then Lean.Macro.throwUnsupported
 match s with
 | "Yba" => `((.t (.int j)))
 | "Ybb" => `((mBin (eqW true) (zan zam [] (zab (mVar 5) (zab (mApp oTup (zab (mApp zak (zab Yat (zab Yh (mNil)))) (mNil))) (mNil)))) (mC (.str "steps"))))
 | "Ybc" => `((.bl false))
 | "Ybd" => `((fun xs H Q => ∃ p ys, xs = [.ref p] ∧ (SqL K H p ys ∨ SqT K H p ys) ∧ ∀ l, H l = none → Q (.ref l) (upd H l (.lst ys))))
 | "Ybe" => `((starEach es X.env))
 | "Ybf" => `((PySem.HandSPX.excO C hp.objs.size))
 | "Ybg" => `((zab (zan zaw [] (zab (mVar 0) (zab (mApp zak Yg) (mNil)))) (mNil)))
 | "Ybh" => `((zaa (zac 4) (zad)))
 | "Ybi" => `((e :: es))
 | "Ybj" => `((.ref ya))
 | "Ybk" => `((mBin (isN true) (zan zam [] (zab (mC (.str "w")) (zab (mApp zak (zab Yh (zab (mC (.str "bump a")) (mNil)))) (mNil)))) (mC .non)))
 | "Ybl" => `((some (.t (.lst Fd))))
 | "Ybm" => `((zaa (zag) (zad)))
 | "Ybn" => `((mBin (eqW false) (mBin ixW (mVar 5) Yj) (mBin ixW (mVar 1) Yj)))
 | "Ybo" => `((fun _ _ _ _ _ => its_one ((iw_and (it_notN (zac 5) (zb2)) (iw_and1 (it_eq hu (za0 (zac 5) (zag)) (za0 (zac 1) (zag))))).it)))
 | "Ybp" => `((zai (dts := []) (dvs := []) yc Yb hgd (by rfl) yf yg yd .nil Yi zar (zaa (zac 0) (zaa (zcw call_len ok_len Yav yk) (zad)))))
 | "Ybq" => `((mC .non))
 | "Ybr" => `((pe_var (X := X.suite a ((a, oe) :: pn)) (i := i) hN hv hd hcd))
 | "Ybs" => `((by with_unfolding_all rfl))
 | "Ybt" => `((mApp oLen (zab (mVar 3) (mNil))))
 | "Ybu" => `((zab (zan zbs [] (zab (mVar 2) Yu)) (mNil)))
 | "Ybv" => `((by rw [oLen_l, List.length_map]))
 | "Ybw" => `((fun fl h1 => Wp (thenF (mRet (mVar 2)) fl h1) fun fl _ => ∃ t, fl = .rt (.t t) ∧ (W.t t = .t (hKd nm st) ∧ hp = hp)))
 | "Ybx" => `((eqW true))
 | _ => Lean.Macro.throwUnsupported
local macro_rules | `($x:ident) => do
 let .str .anonymous s := x.getId | Lean.Macro.throwUnsupported
 if s.front != 'Y' then Lean.Macro.throwUnsupported
 match s with
 | "Yby" => `((w0 :: ws))
 | "Ybz" => `((starEach [.Constant (.str txt) j p3] env))
 | "Yb0" => `((.int (k : Nat)))
 | "Yb1" => `((mBin (inW false) (mVar 0) (mC (.tup ((["if", "bump", "even", "kind", "look", "read", "same"] : List Str).map T.str)))))
 | "Yb2" => `((some (.lst ((ys ++ [y / wide]).map wI))))
 | "Yb3" => `((((zb4 ks).length : Nat) : Int))
 | "Yb4" => `((.lst ((bb.map dTx).map T.str)))
 | "Yb5" => `((za0 (zac 0) (zag)))
 | "Yb6" => `((by simp only [List.length_cons]; omega))
 | "Yb7" => `((fun v H2 => v = .non ∧ Q (.ref x) H2))
 | "Yb8" => `((mMakeX "Kind" zas [] (zab (mVar 0) Yp)))
 | "Yb9" => `((.r hp.length))
 | "Yca" => `((ns.map V.int))
 | "Ycb" => `((zaq (st_raise rfl (L2N.takes_of rfl rfl rfl rfl) (xc_cold yb.T yb.iC yb.tI yb.cn yb.ok Yb yb.bd rfl yb.mg Y0))))
 | "Ycc" => `((.nx eta))
 | "Ycd" => `((zab (mVar 0) (mNil)))
 | "Yce" => `((ds.map dTr))
 | "Ycf" => `((zan zam [] (zab (mC (.str "w")) (zab (mApp zak (zab Yh (zab (mC (.str "bump a")) (zab Yh (mNil))))) (mNil)))))
 | "Ycg" => `((fun _ _ _ _ _ => zai (dts := []) (dvs := []) ydm Yb hgd (by rfl) ydv ydw ydn .nil Yi zbg (zaa (zac 4) Yav)))
 | "Ych" => `((("self" : Str), Value.ref e))
 | "Yci" => `((q.mono fun _ _ q => Wp.ok q))
 | "Ycj" => `((zan zat [] (zab (mVar 0) (zab (mApp oLen Yp) (mNil)))))
 | "Yck" => `((cxOf CX P w K mg base N qual Yau f cdv A outer s H E))
 | "Ycl" => `((fun _ _ _ => False))
 | _ => Lean.Macro.throwUnsupported
local macro_rules | `($x:ident) => do
 let .str .anonymous s := x.getId | Lean.Macro.throwUnsupported
 if s.front != 'Y' then Lean.Macro.throwUnsupported
 match s with
 | "Ycm" => `((fun r s' => r = .ok (.ret (.bool true)) ∧ OldK s1.heap s'.heap ∧ s'.os = s1.os ∧ AllBare s'.gens))
 | "Ycn" => `((mApp oInt (zab (mBin wAdd (mBin wMul (mBin ixW (mVar 0) Yt) (mC (.int 48271))) (mC (.int 43))) (mNil))))
 | "Yco" => `((Sum.inr : Str → Key))
 | "Ycp" => `((zaa (zai (dts := []) (dvs := []) ydx Yb hgd (by rfl) yfb yfc ydy .nil Yi zar (zaa (zac 2) Ybh)) (zad)))
 | "Ycq" => `((by rw [p_test, zao (ws := [.t nm]) rfl (isname_T h fun x e => Nat.le_trans (hl x e) Yaz), hn]; rfl))
 | "Ycr" => `((RwL.of_trees.mp l))
 | "Ycs" => `((t_const fun s => by simp [Rw, Rf]))
 | "Yct" => `((List Key × T))
 | "Ycu" => `((.lst (xs.map dTr)))
 | "Ycv" => `((zaq (za2 (ie_bl))))
 | "Ycw" => `((.ListComp elt [⟨tg, iter, ifs, 0⟩] scope pos))
 | "Ycx" => `((fun _ _ => rfl))
 | "Ycy" => `((F eta hp))
 | "Ycz" => `((Addr × Obj))
 | "Yc0" => `((.t (.bl b)))
 | "Yc1" => `((.lst ts))
 | "Yc2" => `((zab (mVar 2) (mNil)))
 | "Yc3" => `((fun e => by cases e))
 | "Yc4" => `((Option Value))
 | "Yc5" => `((it_not (it_tru (zcw call_isiA (ok_isi hT) (zaa (zac 0) (zaa (ie_ty yf3 Ybs) (zad))) yh))))
 | "Yc6" => `((eta.set i (some a)))
 | "Yc7" => `((List Key × V))
 | "Yc8" => `((Key × W))
 | "Yc9" => `((.bl true))
 | _ => Lean.Macro.throwUnsupported
local macro_rules | `($x:ident) => do
 let .str .anonymous s := x.getId | Lean.Macro.throwUnsupported
 if s.front != 'Y' then Lean.Macro.throwUnsupported
 match s with
 | "Yda" => `((ws.map some ++ List.replicate (nn - n) none))
 | "Ydb" => `((some (.builtin "getset_descriptor.__get__")))
 | "Ydc" => `(((ds.map dTx).map T.str))
 | "Ydd" => `((tx03 ds ++ [.str "write a", .str "write a"]))
 | "Yde" => `((fun _ _ _ _ _ => zcw call_abs ok_abs (zaa (ie_bt call_int1 ok_int Ybh ycq) (zad)) yhz))
 | "Ydf" => `((zb1 zak (mSq (mSl (mVar 0) (zbn (mVar 1)) (zbn (mC (.int 62))))) (gN 4) mYes zcv [4]))
 | "Ydg" => `((zcw call_len ok_len (zaa (zac 3) (zad)) yk))
 | "Ydh" => `((fun x e => by cases e; omega))
 | "Ydi" => `((fun _ => wq_raise rfl ⟨rfl, rfl, rfl⟩))
 | "Ydj" => `((zab (mVar 2) (zab (mC (.tup ((["write", "bump"] : List Str).map T.str))) (mNil))))
 | "Ydk" => `((fun _ (a b : Bool) => a = b))
 | "Ydl" => `((fun _ (x y : Bool) => x = y))
 | "Ydm" => `((zaj asB (mBin Ybx Ya4 (mApp zak (mNil)))))
 | "Ydn" => `((Str × V))
 | "Ydo" => `((eval o X.env))
 | "Ydp" => `((.ref cda))
 | "Ydq" => `(("self" : Str))
 | "Ydr" => `((mSq (mVar 2)))
 | "Yds" => `((.str (dTx d)))
 | "Ydt" => `((PySem.W.fnOf x x (defArgs s) (defBody s) (defScope s) .none kV dc pm an cd ct))
 | "Ydu" => `(((["if", "bump", "even", "kind", "look", "read", "same"] : List Str).map V.str))
 | "Ydv" => `((PySem.W.kxs_mw "ValueError.__init__" e))
 | "Ydw" => `((mBin (isN true) (zan zam [] (zab (mVar 5) (zab (mApp oTup Yu) (mNil)))) Ybq))
 | "Ydx" => `((i _ _ _ hw))
 | _ => Lean.Macro.throwUnsupported
local macro_rules | `($x:ident) => do
 let .str .anonymous s := x.getId | Lean.Macro.throwUnsupported
 if s.front != 'Y' then Lean.Macro.throwUnsupported
 match s with
 | "Ydy" => `((Nat.le_refl _))
 | "Ydz" => `((eqW false))
 | "Yd0" => `((cutL ts lo hi))
 | "Yd1" => `((some (.builtin "ValueError.__init__")))
 | "Yd2" => `((some (.ref a)))
 | "Yd3" => `((List.mem_cons_of_mem _ hb))
 | "Yd4" => `((mRet (mC Ybc)))
 | "Yd5" => `((.lst (cs.map T.int)))
 | "Yd6" => `((.lst (cs.map T.str)))
 | "Yd7" => `((fun z => by cases z))
 | "Yd8" => `((spM K w zat 2))
 | "Yd9" => `((Str × W))
 | "Yea" => `((.t (.str a)))
 | "Yeb" => `((.ExceptHandler (some (.Name x np)) (some n) (b₀ :: suite) pos' :: hds))
 | "Yec" => `((m (.r s.hp.length :: (ws ++ dts.map W.t)) (s.hp ++ [some (.ins c [])])))
 | "Yed" => `((eta.set i (some w)))
 | "Yee" => `((by rw [wipe_length]; simpa using hl))
 | "Yef" => `((zaj asB (mBin Ybx (zan zam [] (zab (mVar 7) Ybu)) (mC (.str "name")))))
 | "Yeg" => `((zaj asB (mBin Ybx (zan zam [] (zab (mVar 7) Yu)) (mC (.str "name")))))
 | "Yeh" => `((.ins C dx []))
 | "Yei" => `((.r h1.length :: (ws ++ ds.map W.t)))
 | "Yej" => `((.ref ye))
 | "Yek" => `((zaa (zaf) Y0))
 | "Yel" => `(((List.range (j - i).toNat).map fun k => W.t (.int (i + (k : Nat)))))
 | _ => Lean.Macro.throwUnsupported
local macro_rules | `($x:ident) => do
 let .str .anonymous s := x.getId | Lean.Macro.throwUnsupported
 if s.front != 'Y' then Lean.Macro.throwUnsupported
 match s with
 | "Yem" => `((eta.set i none))
 | "Yen" => `((by simpa using hl))
 | "Yeo" => `((.frz o (.lst Yca)))
 | "Yep" => `((fun _ (a b : Option Int) => a = b))
 | "Yeq" => `((mC (.str "steps")))
 | "Yer" => `((.lst (ms.map dTr)))
 | "Yes" => `((zaa (zac 2) (zad)))
 | "Yet" => `((xs.map W.t))
 | "Yeu" => `((defBody st))
 | "Yev" => `((E O Q none))
 | "Yew" => `((.Call (.Name "len" p) [.Call (.Name "set" p2) [a] [] q] [] pos))
 | "Yex" => `((.Name x pos))
 | "Yey" => `((fun e p => e.set p.1 (some p.2)))
 | "Yez" => `((L2.CX X.prog X.w))
 | "Ye0" => `((s3.addF p' (.lst (cutV xs l u))))
 | "Ye1" => `((.type "function"))
 | "Ye2" => `((.ref x :: (vs ++ dvs)))
 | "Ye3" => `((.builtin "isinstance"))
 | "Ye4" => `((.type "BaseException"))
 | "Ye5" => `((mMeth isL zcb Ya4 (zab (mBin iDiv (mVar 2) (mVar 1)) (mNil))))
 | "Ye6" => `((.int (if i < 0 then -i else i)))
 | "Ye7" => `((q.mono fun _ _ q => Wp.bind (q.mono fun _ _ q => Wp.bind q)))
 | "Ye8" => `((zaj asB (mChain iLe iLe Yt (mApp oLen Ycd) (mC (.int (4))))))
 | "Ye9" => `((.t (.bl (if neg then !decide (i = j) else decide (i = j)))))
 | _ => Lean.Macro.throwUnsupported
local macro_rules | `($x:ident) => do
 let .str .anonymous s := x.getId | Lean.Macro.throwUnsupported
 if s.front != 'Y' then Lean.Macro.throwUnsupported
 match s with
 | "Yfa" => `((.t (.lst (xs ++ ys))))
 | "Yfb" => `((.t (.bl (if neg then !decide (b = c) else decide (b = c)))))
 | "Yfc" => `((.ins c (putA f v fs)))
 | "Yfd" => `((zbn (mBin iSub (mVar 3) (mApp oLen (zab (mVar 5) (mNil))))))
 | _ => Lean.Macro.throwUnsupported
set_option hygiene true
namespace Mir
open PySem PySem.Spec L2
open PyProof.Rows hiding St
/-- a frozen value as a tree -/
inductive T where
 | non | bl (b : Bool) | int (i : Int) | str (s : Str) | ty (n : String)
 | tup (xs : List T) | lst (xs : List T) | scr (xs : List T) | pr (xs : List T)
 | dic (ks : List Key) (vs : List T) | ins (c : Str) (ns : List Str) (vs : List T)
 | cls (c : Str) | dit (ks : List (List Key)) (vs : List T) | exc (c : Str) (ns : List Str) (vs : List T)
/-- a value: a tree, or a live cell -/
inductive W where
 | t (x : T) | r (i : Nat)
inductive Cell where
 | lst (xs : List W)
 | dic (kvs : List (Key × W))
 | ins (c : Str) (fs : List (Str × W))
 | dit (kvs : List (T × W))
 | tpl (ws : List W)
 /-- a dict keyed by nested tuples, locked for good -/
 | dil (kvs : List (T × W))
def Cell.alive : Cell → Prop
 | .dil _ => False
 | _ => True
abbrev IH := List (Option Cell)
structure Ex where
 cls : Str
 fs : List Yd9
inductive Res (A : Type) where
 | ok (a : A) (h : IH) | er (e : Ex) (eta : List (Option W)) (h : IH) | bad
abbrev IS := List (Option W)
abbrev M (A : Type) := IS → IH → Res A
def Res.bind {A B : Type} (r : Res A) (k : A → IH → Res B) : Res B := match r with
 | .ok a h => k a h
 | .er e eta h => .er e eta h
 | .bad => .bad
/-- the state of the relation -/
structure S4 where
 rho : List Addr
 fz : Addr → Prop
 hp : IH
 H : Hp
def KTup (K : PySem.W.Frag) (a : Addr) (xs : List V) : Prop :=
 ∃ (o : Obj) (its : Array Value) (n : Nat), K.lookup a = some o ∧ o.cls = .type "tuple" ∧ o.dict = none ∧ o.data = .seq its n ∧ its.size ≤ sizeLine ∧ Vals xs its.toList
def KLst (K : PySem.W.Frag) (a : Addr) (xs : List V) : Prop :=
 ∃ (o : Obj) (its : Array Value) (n : Nat), K.lookup a = some o ∧ o.cls = .type "list" ∧ o.dict = none ∧ o.data = .seq its n ∧ its.size ≤ sizeLine ∧ Vals xs its.toList
def FTup (K : PySem.W.Frag) (fz : Addr → Prop) (H : Hp) (a : Addr) (xs : List V) : Prop := (fz a ∧ ∃ o : Obj, H a = some (.frz o (.tup xs)) ∧ o.dict = none) ∨ KTup K a xs
/-- a pair that a walk lays -/
def FPr (fz : Addr → Prop) (H : Hp) (a : Addr) (xs : List V) : Prop := fz a ∧ H a = some (.tup xs)
/-- a dict whose keys are tuples -/
def FDit (fz : Addr → Prop) (H : Hp) (a : Addr) (kvs : List Yc7) : Prop := fz a ∧ H a = some (.dT kvs)
def FLst (fz : Addr → Prop) (H : Hp) (a : Addr) (xs : List V) : Prop := fz a ∧ H a = some (.lst xs)
def FDic (fz : Addr → Prop) (H : Hp) (a : Addr) (kvs : List (Key × V)) : Prop := fz a ∧ ∃ o, H a = some (.frz o (.dK kvs))
def FScr (K : PySem.W.Frag) (fz : Addr → Prop) (H : Hp) (a : Addr) (xs : List V) : Prop := (fz a ∧ ∃ o, H a = some (.frz o (.lst xs))) ∨ KLst K a xs
/-- the class that the module's name c holds -/
def CN (K : PySem.W.Frag) (c : Str) (C : Addr) : Prop := PySem.W.nsIn K mainGlobals c = some (some (.ref C))
/-- a frozen instance -/
def FIns (fz : Addr → Prop) (H : Hp) (a C : Addr) (fs : List Ydn) : Prop := fz a ∧ ∃ dx, H a = some (.ins C dx fs)
mutual
def Rf (K : PySem.W.Frag) (fz : Addr → Prop) (H : Hp) : T → V → Prop
 | .non, v => v = .non
 | .bl b, v => v = .bl b
 | .int i, v => v = .int i
 | .str s, v => v = .str s
 | .ty n, v => v = .ty n
 | .tup xs, v => ∃ a vs, v = .ref a ∧ FTup K fz H a vs ∧ RfL K fz H xs vs
 | .lst xs, v => ∃ a vs, v = .ref a ∧ FLst fz H a vs ∧ RfL K fz H xs vs
 | .scr xs, v => ∃ a vs, v = .ref a ∧ FScr K fz H a vs ∧ RfL K fz H xs vs
 | .pr xs, v => ∃ a vs, v = .ref a ∧ FPr fz H a vs ∧ RfL K fz H xs vs
 | .dic ks xs, v => ∃ a vs, v = .ref a ∧ FDic fz H a (ks.zip vs) ∧ ks.length = xs.length ∧ RfL K fz H xs vs
 | .cls c, v => ∃ C, v = .ref C ∧ CN K c C
 | .dit ks xs, v => ∃ a vs, v = .ref a ∧ FDit fz H a (ks.zip vs) ∧ ks.length = xs.length ∧ RfL K fz H xs vs
 | .exc _ _ _, _ => False
 | .ins c ns xs, v => ∃ a C vs, v = .ref a ∧ CN K c C ∧ FIns fz H a C (ns.zip vs) ∧ ns.length = xs.length ∧ RfL K fz H xs vs
def RfL (K : PySem.W.Frag) (fz : Addr → Prop) (H : Hp) : List T → List V → Prop
 | [], vs => vs = []
 | x :: xs, vs => ∃ v r, vs = v :: r ∧ Rf K fz H x v ∧ RfL K fz H xs r
end
def Rw (K : PySem.W.Frag) (s : S4) : W → V → Prop
 | .t x, v => Rf K s.fz s.H x v
 | .r i, v => ∃ a, s.rho[i]? = some a ∧ v = .ref a
def RwL (K : PySem.W.Frag) (s : S4) : List W → List V → Prop
 | [], vs => vs = []
 | x :: xs, vs => ∃ v r, vs = v :: r ∧ Rw K s x v ∧ RwL K s xs r
def RwK (K : PySem.W.Frag) (s : S4) : List Yc8 → List (Key × V) → Prop
 | [], vs => vs = []
 | x :: xs, vs => ∃ v r, vs = (x.1, v) :: r ∧ Rw K s x.2 v ∧ RwK K s xs r
def RwF (K : PySem.W.Frag) (s : S4) : List Yd9 → List Ydn → Prop
 | [], vs => vs = []
 | x :: xs, vs => ∃ v r, vs = (x.1, v) :: r ∧ Rw K s x.2 v ∧ RwF K s xs r
mutual
/-- a tree as a key -/
def nkT : T → Option NestedKey
 | .non => some .none
 | .bl b => some (.num (if b = true then 1 else 0))
 | .int i => some (.num i)
 | .str s => some (.text s)
 | .tup xs => (nkTL xs).map .tup
 | .ty _ => none | .lst _ => none | .scr _ => none | .pr _ => none | .dic _ _ => none | .ins _ _ _ => none | .cls _ => none | .dit _ _ => none | .exc _ _ _ => none
def nkTL : List T → Option (List NestedKey)
 | [] => some []
 | x :: xs => match nkT x, nkTL xs with | some k, some ks => some (k :: ks) | _, _ => none
end
/-- a dict whose keys are nested tuples: its entries, by the world's hash -/
def DitO (ω : World) (a : Addr) (xs : List Yx) : HO := .ext fun h => xs.length ≤ sizeLine ∧ (a == sysModules) = false ∧
 ∃ ys : List Yao, Paired (fun (p : NestedKey × Addr × V) (q : NestedKey × Addr × Value) => p.1 = q.1 ∧ p.2.1 = q.2.1 ∧ RelV p.2.2 q.2.2) xs ys ∧ (ys.map (·.1)).Nodup ∧
 ∃ o es ep, h.get? a = some o ∧ o.ExactDict ∧ o.data = .dict es ep ∧ es.toList = ys.map fun y => (⟨y.1.hash ω, .ref y.2.1, y.2.2⟩ : DictEntry)
def RwD (K : PySem.W.Frag) (s : S4) : List (T × W) → List Yx → Prop
 | [], vs => vs = []
 | x :: xs, vs => ∃ k b v r, vs = (k, b, v) :: r ∧ nkT x.1 = some k ∧ k.depth ≤ 8 ∧ Rf K s.fz s.H x.1 (.ref b) ∧ Rw K s x.2 v ∧ RwD K s xs r
def CellOk (K : PySem.W.Frag) (ω : World) (s : S4) (a : Addr) : Cell → Option HO → Prop
 | .lst ws, o => ∃ vs, o = some (.lst vs) ∧ RwL K s ws vs
 | .dic kvs, o => ∃ vs, o = some (.dK vs) ∧ RwK K s kvs vs
 | .ins c fs, o => ∃ C dx vs, o = some (.ins C dx vs) ∧ CN K c C ∧ RwF K s fs vs
 | .dit kvs, o => ∃ xs, o = some (DitO ω a xs) ∧ RwD K s kvs xs
 | .tpl ws, o => ∃ ob vs, o = some (.frz ob (.tup vs)) ∧ ob.dict = none ∧ RwL K s ws vs
 | .dil kvs, o => ∃ ob xs, o = some (.frz ob (DitO ω a xs)) ∧ RwD K s kvs xs
def Live (s : S4) (a : Addr) : Prop := ∃ (i : Nat) (c : Cell), (s.hp[i]? = some (some c) ∧ c.alive) ∧ s.rho[i]? = some a
structure Rel (K : PySem.W.Frag) (ω : World) (s : S4) : Prop where
 len : s.rho.length = s.hp.length
 nd : s.rho.Nodup
 trk : ∀ a ∈ s.rho, s.H a ≠ none
 ftrk : ∀ a, s.fz a → s.H a ≠ none
 fz : ∀ a, Live s a → ¬ s.fz a
 cell : ∀ (i : Nat) (c : Cell) (a : Addr), s.hp[i]? = some (some c) → s.rho[i]? = some a → CellOk K ω s a c (s.H a)
structure Aft (s s' : S4) : Prop where
 pre : ∃ ex, s'.rho = s.rho ++ ex ∧ ∀ a ∈ ex, s.H a = none
 fz : ∀ a, s.fz a → s'.fz a
 keep : ∀ a o, s.H a = some o → ¬ Live s a → s'.H a = some o
 fnew : ∀ a, s'.fz a → s.fz a ∨ s.H a = none ∨ Live s a
 live : ∀ a, Live s' a → Live s a ∨ s.H a = none
 trk : ∀ a, s.H a ≠ none → s'.H a ≠ none
theorem Aft.refl (s : S4) : Aft s s := ⟨⟨[], by simp, by simp⟩, fun _ h => h, fun _ _ h _ => h, fun _ h => .inl h, fun _ h => .inl h, fun _ h => h⟩
theorem Aft.trans {s s1 s2 : S4} (a : Aft s s1) (b : Aft s1 s2) : Aft s s2 := by
 have none_of : ∀ x, s1.H x = none → s.H x = none := fun x h => by
  cases q : s.H x with
  | none => rfl
  | some o => exact absurd h (a.trk x (by rw [q]; intro z; cases z))
 refine ⟨?_, fun x h => b.fz x (a.fz x h), fun x o h nl => ?_, fun x h => ?_, fun x h => ?_, fun x h => b.trk x (a.trk x h)⟩
 ·obtain ⟨e1, p1, q1⟩ := a.pre
  obtain ⟨e2, p2, q2⟩ := b.pre
  refine ⟨e1 ++ e2, by rw [p2, p1, List.append_assoc], fun x hx => ?_⟩
  rcases List.mem_append.mp hx with hx | hx
  ·exact q1 x hx
  ·exact none_of x (q2 x hx)
 ·refine b.keep x o (a.keep x o h nl) fun l => ?_
  rcases a.live x l with l | l
  ·exact nl l
  ·rw [l] at h; cases h
 ·rcases b.fnew x h with h | h | h
  ·exact a.fnew x h
  ·exact .inr (.inl (none_of x h))
  ·rcases a.live x h with h | h
   ·exact .inr (.inr h)
   ·exact .inr (.inl h)
 ·rcases b.live x h with h | h
  ·exact a.live x h
  ·exact .inr (none_of x h)
section
variable {K : PySem.W.Frag} {ω : World} {s s' : S4}
theorem FTup.aft {a : Addr} {xs : List V} (h : FTup K s.fz s.H a xs) (A : Aft s s') (R : Rel K ω s) : FTup K s'.fz s'.H a xs := by
 rcases h with ⟨f, o, h, d⟩ | h
 ·exact .inl ⟨A.fz a f, o, A.keep a _ h fun l => R.fz a l f, d⟩
 ·exact .inr h
theorem FPr.aft {a : Addr} {xs : List V} (h : FPr s.fz s.H a xs) (A : Aft s s') (R : Rel K ω s) : FPr s'.fz s'.H a xs := by
 obtain ⟨f, h⟩ := h
 exact ⟨A.fz a f, A.keep a _ h fun l => R.fz a l f⟩
theorem FDit.aft {a : Addr} {xs : List Yc7} (h : FDit s.fz s.H a xs) (A : Aft s s') (R : Rel K ω s) : FDit s'.fz s'.H a xs := by
 obtain ⟨f, h⟩ := h
 exact ⟨A.fz a f, A.keep a _ h fun l => R.fz a l f⟩
theorem FLst.aft {a : Addr} {xs : List V} (h : FLst s.fz s.H a xs) (A : Aft s s') (R : Rel K ω s) : FLst s'.fz s'.H a xs :=
 ⟨A.fz a h.1, A.keep a _ h.2 fun l => R.fz a l h.1⟩
theorem FDic.aft {a : Addr} {xs : List (Key × V)} (h : FDic s.fz s.H a xs) (A : Aft s s') (R : Rel K ω s) : FDic s'.fz s'.H a xs :=
 let ⟨o, e⟩ := h.2; ⟨A.fz a h.1, o, A.keep a _ e fun l => R.fz a l h.1⟩
theorem FIns.aft {a C : Addr} {fs : List Ydn} (h : FIns s.fz s.H a C fs) (A : Aft s s') (R : Rel K ω s) : FIns s'.fz s'.H a C fs :=
 let ⟨dx, e⟩ := h.2; ⟨A.fz a h.1, dx, A.keep a _ e fun l => R.fz a l h.1⟩
theorem FScr.aft {a : Addr} {xs : List V} (h : FScr K s.fz s.H a xs) (A : Aft s s') (R : Rel K ω s) : FScr K s'.fz s'.H a xs :=
 h.imp (fun h => let ⟨o, e⟩ := h.2; ⟨A.fz a h.1, o, A.keep a _ e fun l => R.fz a l h.1⟩) id
mutual
theorem Rf.aft (A : Aft s s') (R : Rel K ω s) : ∀ (x : T) (v : V), Rf K s.fz s.H x v → Rf K s'.fz s'.H x v
 | .non, _, h => by simpa [Rf] using h
 | .bl _, _, h => by simpa [Rf] using h
 | .int _, _, h => by simpa [Rf] using h
 | .str _, _, h => by simpa [Rf] using h
 | .ty _, _, h => by simpa [Rf] using h
 | .cls _, _, h => by simpa [Rf] using h
 | .exc _ _ _, _, h => by simp [Rf] at h
 | .tup xs, v, h => by
  simp only [Rf] at h ⊢
  obtain ⟨a, vs, e, t, l⟩ := h
  exact ⟨a, vs, e, t.aft A R, RfL.aft A R xs vs l⟩
 | .lst xs, v, h => by
  simp only [Rf] at h ⊢
  obtain ⟨a, vs, e, t, l⟩ := h
  exact ⟨a, vs, e, t.aft A R, RfL.aft A R xs vs l⟩
 | .scr xs, v, h => by
  simp only [Rf] at h ⊢
  obtain ⟨a, vs, e, t, l⟩ := h
  exact ⟨a, vs, e, t.aft A R, RfL.aft A R xs vs l⟩
 | .pr xs, v, h => by
  simp only [Rf] at h ⊢
  obtain ⟨a, vs, e, t, l⟩ := h
  exact ⟨a, vs, e, t.aft A R, RfL.aft A R xs vs l⟩
 | .dic ks xs, v, h => by
  simp only [Rf] at h ⊢
  obtain ⟨a, vs, e, t, n, l⟩ := h
  exact ⟨a, vs, e, t.aft A R, n, RfL.aft A R xs vs l⟩
 | .dit ks xs, v, h => by
  simp only [Rf] at h ⊢
  obtain ⟨a, vs, e, t, n, l⟩ := h
  exact ⟨a, vs, e, t.aft A R, n, RfL.aft A R xs vs l⟩
 | .ins c ns xs, v, h => by
  simp only [Rf] at h ⊢
  obtain ⟨a, C, vs, e, cn, t, n, l⟩ := h
  exact ⟨a, C, vs, e, cn, t.aft A R, n, RfL.aft A R xs vs l⟩
theorem RfL.aft (A : Aft s s') (R : Rel K ω s) : ∀ (xs : List T) (vs : List V), RfL K s.fz s.H xs vs → RfL K s'.fz s'.H xs vs
 | [], _, h => by simpa [RfL] using h
 | x :: xs, vs, h => by
  simp only [RfL] at h ⊢
  obtain ⟨v, r, e, a, b⟩ := h
  exact ⟨v, r, e, Rf.aft A R x v a, RfL.aft A R xs r b⟩
end
theorem Rw.aft {w : W} {v : V} (h : Rw K s w v) (A : Aft s s') (R : Rel K ω s) : Rw K s' w v := by
 cases w with
 | t x => exact Rf.aft A R x v h
 | r i =>
  obtain ⟨a, e1, e2⟩ := h
  obtain ⟨ex, p, _⟩ := A.pre
  exact ⟨a, by rw [p, List.getElem?_append_left (List.getElem?_eq_some_iff.mp e1).1]; exact e1, e2⟩
theorem RwL.aft (A : Aft s s') (R : Rel K ω s) : ∀ (ws : List W) (vs : List V), RwL K s ws vs → RwL K s' ws vs
 | [], _, h => h
 | x :: xs, vs, h => by
  obtain ⟨v, r, e, a, b⟩ := h
  exact ⟨v, r, e, a.aft A R, RwL.aft A R xs r b⟩
theorem RwK.aft (A : Aft s s') (R : Rel K ω s) : ∀ (ws : List (Key × W)) (vs : List (Key × V)), RwK K s ws vs → RwK K s' ws vs
 | [], _, h => h
 | x :: xs, vs, h => by
  obtain ⟨v, r, e, a, b⟩ := h
  exact ⟨v, r, e, a.aft A R, RwK.aft A R xs r b⟩
theorem RwF.aft (A : Aft s s') (R : Rel K ω s) : ∀ (ws : List (Str × W)) (vs : List (Str × V)), RwF K s ws vs → RwF K s' ws vs
 | [], _, h => h
 | x :: xs, vs, h => by
  obtain ⟨v, r, e, a, b⟩ := h
  exact ⟨v, r, e, a.aft A R, RwF.aft A R xs r b⟩
theorem RwD.aft (A : Aft s s') (R : Rel K ω s) : ∀ (ws : List (T × W)) (vs : List (NestedKey × Addr × V)), RwD K s ws vs → RwD K s' ws vs
 | [], _, h => h
 | x :: xs, vs, h => by
  obtain ⟨k, b, v, r, e, h1, h2, h3, h4, h5⟩ := h
  exact ⟨k, b, v, r, e, h1, h2, Rf.aft A R _ _ h3, h4.aft A R, RwD.aft A R xs r h5⟩
theorem CellOk.aft {a : Addr} {c : Cell} {o : Option HO} (h : CellOk K ω s a c o) (A : Aft s s') (R : Rel K ω s) : CellOk K ω s' a c o := by
 cases c with
 | lst ws => obtain ⟨vs, e, l⟩ := h; exact ⟨vs, e, RwL.aft A R ws vs l⟩
 | dic kvs => obtain ⟨vs, e, l⟩ := h; exact ⟨vs, e, RwK.aft A R kvs vs l⟩
 | ins c fs => obtain ⟨C, dx, vs, e, cn, l⟩ := h; exact ⟨C, dx, vs, e, cn, RwF.aft A R fs vs l⟩
 | dit kvs => obtain ⟨vs, e, l⟩ := h; exact ⟨vs, e, RwD.aft A R kvs vs l⟩
 | tpl ws => obtain ⟨ob, vs, e, d, l⟩ := h; exact ⟨ob, vs, e, d, RwL.aft A R ws vs l⟩
 | dil kvs => obtain ⟨ob, vs, e, l⟩ := h; exact ⟨ob, vs, e, RwD.aft A R kvs vs l⟩
theorem RwL.length : ∀ {ws : List W} {vs : List V}, RwL K s ws vs → ws.length = vs.length
 | [], _, h => by rw [show _ = [] from h]; rfl
 | x :: xs, vs, h => by
  obtain ⟨v, r, e, a, b⟩ := h
  rw [e, List.length_cons, List.length_cons, RwL.length b]
theorem RfL.length : ∀ {ws : List T} {vs : List V}, RfL K s.fz s.H ws vs → ws.length = vs.length
 | [], _, h => by simp only [RfL] at h; rw [h]; rfl
 | x :: xs, vs, h => by
  simp only [RfL] at h
  obtain ⟨v, r, e, a, b⟩ := h
  rw [e, List.length_cons, List.length_cons, RfL.length b]
theorem RwL.get : ∀ {ws : List W} {vs : List V} {i : Nat} {w : W}, RwL K s ws vs → ws[i]? = some w → ∃ v, vs[i]? = some v ∧ Rw K s w v
 | [], _, _, _, _, h => by simp at h
 | x :: xs, vs, 0, w, h, e => by
  obtain ⟨v, r, e', a, b⟩ := h
  simp at e
  subst e
  exact ⟨v, by rw [e']; rfl, a⟩
 | x :: xs, vs, i + 1, w, h, e => by
  obtain ⟨v, r, e', a, b⟩ := h
  obtain ⟨v', h1, h2⟩ := RwL.get (i := i) (w := w) b (by simpa using e)
  exact ⟨v', by rw [e']; simpa using h1, h2⟩
theorem RfL.get : ∀ {ws : List T} {vs : List V} {i : Nat} {w : T}, RfL K s.fz s.H ws vs → ws[i]? = some w → ∃ v, vs[i]? = some v ∧ Rf K s.fz s.H w v
 | [], _, _, _, _, h => by simp at h
 | x :: xs, vs, 0, w, h, e => by
  simp only [RfL] at h
  obtain ⟨v, r, e', a, b⟩ := h
  simp at e
  subst e
  exact ⟨v, by rw [e']; rfl, a⟩
 | x :: xs, vs, i + 1, w, h, e => by
  simp only [RfL] at h
  obtain ⟨v, r, e', a, b⟩ := h
  obtain ⟨v', h1, h2⟩ := RfL.get (i := i) (w := w) b (by simpa using e)
  exact ⟨v', by rw [e']; simpa using h1, h2⟩
/-- trees among values -/
theorem RwL.of_trees : ∀ {ts : List T} {vs : List V}, RwL K s Yl vs ↔ RfL K s.fz s.H ts vs
 | [], vs => by simp [RwL, RfL]
 | x :: xs, vs => by
  simp only [List.map_cons, RwL, RfL, Rw]
  constructor
  ·rintro ⟨v, r, e, a, b⟩; exact ⟨v, r, e, a, RwL.of_trees.mp b⟩
  ·rintro ⟨v, r, e, a, b⟩; exact ⟨v, r, e, a, RwL.of_trees.mpr b⟩
theorem RwL.append : ∀ {ws ws' : List W} {vs vs' : List V}, RwL K s ws vs → RwL K s ws' vs' → RwL K s (ws ++ ws') (vs ++ vs')
 | [], _, _, _, h, h' => by rw [show _ = [] from h]; exact h'
 | x :: xs, _, vs, _, h, h' => by
  obtain ⟨v, r, e, a, b⟩ := h
  rw [e]
  exact ⟨v, _, rfl, a, RwL.append b h'⟩
theorem FTup.sq {fz : Addr → Prop} {H : Hp} {a : Addr} {xs : List V} (h : FTup K fz H a xs) : SqT K H a xs := by
 rcases h with ⟨_, o, h, _⟩ | ⟨o, its, n, h1, h2, _, h3⟩
 ·exact .inl (.inr ⟨o, h⟩)
 ·exact .inr ⟨o, its, n, h1, h2, h3⟩
theorem FPr.sq {K : PySem.W.Frag} {fz : Addr → Prop} {H : Hp} {a : Addr} {xs : List V} (h : FPr fz H a xs) : SqT K H a xs := .inl (.inl h.2)
theorem FLst.sq {K : PySem.W.Frag} {fz : Addr → Prop} {H : Hp} {a : Addr} {xs : List V} (h : FLst fz H a xs) : SqL K H a xs := .inl (.inl h.2)
theorem FScr.sq {K : PySem.W.Frag} {fz : Addr → Prop} {H : Hp} {a : Addr} {xs : List V} (h : FScr K fz H a xs) : SqL K H a xs := h.elim (fun h => let ⟨o, e⟩ := h.2; .inl (.inr ⟨o, e⟩)) .inr
end
def Sl (K : PySem.W.Frag) (s : S4) (eta : IS) (σ : St) : Prop :=
 eta.length = σ.length ∧ ∀ (i : Nat) (w : W), eta[i]? = some (some w) → ∃ v, σ[i]? = some (some v) ∧ Rw K s w v
theorem Sl.aft {K : PySem.W.Frag} {ω : World} {s s' : S4} {eta : IS} {σ : St} (h : Sl K s eta σ) (A : Aft s s') (R : Rel K ω s) : Sl K s' eta σ :=
 ⟨h.1, fun i w e => let ⟨v, a, b⟩ := h.2 i w e; ⟨v, a, b.aft A R⟩⟩
theorem Sl.set {K : PySem.W.Frag} {s : S4} {eta : IS} {σ : St} {w : W} {v : V} (h : Sl K s eta σ) (i : Nat) (r : Rw K s w v) : Sl K s Yed (σ.set i (some v)) := by
 refine ⟨by simp [h.1], fun j u e => ?_⟩
 by_cases hj : i = j
 ·subst hj
  by_cases hl : i < eta.length
  ·rw [List.getElem?_set_self hl] at e
   cases e
   exact ⟨v, by rw [List.getElem?_set_self (by rw [← h.1]; exact hl)], r⟩
  ·rw [List.getElem?_eq_none Yen] at e
   cases e
 ·rw [List.getElem?_set_ne hj] at e
  obtain ⟨x, a, b⟩ := h.2 j u e
  exact ⟨x, by rw [List.getElem?_set_ne hj]; exact a, b⟩
theorem Sl.wipe {K : PySem.W.Frag} {s : S4} {eta : IS} {σ : St} (h : Sl K s eta σ) : ∀ (vs : List Nat), Sl K s (vs.foldr (fun v e => e.set v none) eta) (wipe σ vs)
 | [] => h
 | v :: vs => by
  have ih := Sl.wipe h vs
  refine ⟨by simp only [List.foldr_cons, L2.wipe, List.length_set]; exact ih.1, fun j u e => ?_⟩
  simp only [List.foldr_cons] at e
  by_cases hj : v = j
  ·subst hj
   by_cases hl : v < (vs.foldr (fun v e => e.set v none) eta).length
   ·rw [List.getElem?_set_self hl] at e; cases e
   ·rw [List.getElem?_eq_none Yen] at e; cases e
  ·rw [List.getElem?_set_ne hj] at e
   obtain ⟨x, a, b⟩ := ih.2 j u e
   exact ⟨x, by simp only [L2.wipe]; rw [List.getElem?_set_ne hj]; exact a, b⟩
/-- how a raised error lies: its class by name, its fields in its own dict -/
def ExR (K : PySem.W.Frag) (s : S4) (e : Ex) (cls : Value) (d : Option Addr) : Prop :=
 ∃ C, cls = .ref C ∧ CN K e.cls C ∧ ((e.fs = [] ∧ d = none) ∨ ∃ dd vs, d = some dd ∧ s.H dd = some (.xd vs) ∧ RwF K s e.fs vs)
abbrev WX := Value → Option Addr → St → Hp → Prop
def Go {A B : Type} (K : PySem.W.Frag) (ω : World) (Wx : WX) (Fam : S4 → A → B → Prop) (s : S4) (r : Res A) (Q : B → Hp → Prop) : Prop := match r with
 | .ok a hp' => ∀ (b : B) (s' : S4), s'.hp = hp' → Aft s s' → Rel K ω s' → Fam s' a b → Q b s'.H
 | .er e eta' hp' => ∀ (s' : S4) (σ' : St) (cls : Value) (d : Option Addr), s'.hp = hp' → Aft s s' → Rel K ω s' → Sl K s' eta' σ' → ExR K s' e cls d → Wx cls d σ' s'.H
 | .bad => False
section
variable {K : PySem.W.Frag} {ω : World} {Wx : WX} {s s' : S4} {A B C D : Type} {Fam : S4 → A → B → Prop} {Gam : S4 → C → D → Prop}
theorem Go.aft {r : Res A} {Q : B → Hp → Prop} (g : Go K ω Wx Fam s r Q) (a : Aft s s') : Go K ω Wx Fam s' r Q := by
 cases r with
 | ok x hp => exact fun b s2 h1 h2 h3 h4 => g b s2 h1 (a.trans h2) h3 h4
 | er e eta hp => exact fun s2 σ' cls d h1 h2 h3 h4 h5 => g s2 σ' cls d h1 (a.trans h2) h3 h4 h5
 | bad => exact g
theorem Go.mono {r : Res A} {Q Q' : B → Hp → Prop} (g : Go K ω Wx Fam s r Q) (h : ∀ b H, Q b H → Q' b H) : Go K ω Wx Fam s r Q' := by
 cases r with
 | ok x hp => exact fun b s2 h1 h2 h3 h4 => h _ _ (g b s2 h1 h2 h3 h4)
 | er e eta hp => exact g
 | bad => exact g
/-- a run, then more -/
theorem Go.bind {r : Res A} {k : A → IH → Res C} {Q : D → Hp → Prop} {R : B → Hp → Prop} (g : Go K ω Wx Gam s (r.bind k) Q)
  (h : ∀ a b s', Aft s s' → Rel K ω s' → Fam s' a b → r = .ok a s'.hp → Go K ω Wx Gam s' (k a s'.hp) Q → R b s'.H) : Go K ω Wx Fam s r R := by
 cases r with
 | ok x hp =>
  intro b s2 h1 h2 h3 h4
  subst h1
  exact h x b s2 h2 h3 h4 rfl (Go.aft (show Go K ω Wx Gam s (k x s2.hp) Q from g) h2)
 | er e eta hp => exact g
 | bad => exact g
theorem Go.ret {a : A} {b : B} {hp : IH} {Q : B → Hp → Prop} (g : Go K ω Wx Fam s (.ok a hp) Q) (s' : S4) (h1 : s'.hp = hp) (h2 : Aft s s') (h3 : Rel K ω s') (h4 : Fam s' a b) : Q b s'.H := g b s' h1 h2 h3 h4
end
/-- the reading made of a plain function -/
def tM {A B : Type} (K : PySem.W.Frag) (ω : World) (Wx : WX) (Fam : S4 → A → B → Prop) (F : M A) : St → Hp → (B → Hp → Prop) → Prop := fun σ H Q =>
 ∃ (s : S4) (eta : IS), s.H = H ∧ Rel K ω s ∧ Sl K s eta σ ∧ Go K ω Wx Fam s (F eta s.hp) Q
abbrev tE (K : PySem.W.Frag) (ω : World) (Wx : WX) (F : M W) : TE := tM K ω Wx (Rw K) F
abbrev tA (K : PySem.W.Frag) (ω : World) (Wx : WX) (F : M (List W)) : TA := tM K ω Wx (RwL K) F
abbrev tT (K : PySem.W.Frag) (ω : World) (Wx : WX) (F : M Bool) : TT := tM K ω Wx Ydk F
/-- judgements -/
def IE (X : Cx) (Wx : WX) (e : Expr) (F : M W) : Prop := PE X e (tE X.K X.w Wx F)
def IA (X : Cx) (Wx : WX) (es : List Expr) (F : M (List W)) : Prop := PA X es (tA X.K X.w Wx F)
def IT (X : Cx) (Wx : WX) (e : Expr) (F : M Bool) : Prop := PT X e (tT X.K X.w Wx F)
theorem PE.imp {X : Cx} {e : Expr} {t t' : TE} (h : PE X e t) (i : ∀ σ H Q, t' σ H Q → t σ H Q) : PE X e t' := ⟨fun pins s σ H Q I hw => h.run pins s σ H Q I Ydx⟩
theorem PT.imp {X : Cx} {e : Expr} {t t' : TT} (h : PT X e t) (i : ∀ σ H Q, t' σ H Q → t σ H Q) : PT X e t' := ⟨fun pins s σ H Q I hw => h.run pins s σ H Q I Ydx⟩
theorem PW.imp {X : Cx} {e : Expr} {t t' : TT} (h : PW X e t) (i : ∀ σ H Q, t' σ H Q → t σ H Q) : PW X e t' := ⟨fun wh pins s σ H Q I hw => h.run wh pins s σ H Q I Ydx⟩
theorem PA.imp {X : Cx} {e : List Expr} {t t' : TA} (h : PA X e t) (i : ∀ σ H Q, t' σ H Q → t σ H Q) : PA X e t' := ⟨fun pos pins s σ H Q I hw => h.run pos pins s σ H Q I Ydx⟩
theorem PS.imp {X : Cx} {e : Stmt} {t t' : TS} (h : PS X e t) (i : ∀ D σ H, t' D σ H → t D σ H) : PS X e t' := ⟨fun pins s σ H D I hw => h.run pins s σ H D I Ydx⟩
theorem PSs.imp {X : Cx} {e : List Stmt} {t t' : TS} (h : PSs X e t) (i : ∀ D σ H, t' D σ H → t D σ H) : PSs X e t' := ⟨fun pins s σ H D I hw => h.run pins s σ H D I Ydx⟩
theorem PG.imp {X : Cx} {e : Expr} {t t' : TG} (h : PG X e t) (i : ∀ v σ H Q, t' v σ H Q → t v σ H Q) : PG X e t' := ⟨fun pins s σ H v u Q I r hw => h.run pins s σ H v u Q I r (i _ _ _ _ hw)⟩
theorem PI.imp {X : Cx} {tg e : Expr} {t t' : TI} (h : PI X tg e t) (i : ∀ σ H Q, t' σ H Q → t σ H Q) : PI X tg e t' := ⟨fun pins s σ H Q I hw => h.run pins s σ H Q I Ydx⟩
end Mir
namespace Mir
open PySem PySem.Spec L2
open PyProof.Rows hiding St
mutual
def dat : T → PyData
 | .non => .none | .bl b => .bool b | .int i => .int i | .str s => .str s
 | .tup xs => .tuple (datL xs) | .lst xs => .list (datL xs) | .scr _ => .none | .pr _ => .none
 | .ty _ => .none | .dic _ _ => .none | .ins _ _ _ => .none | .cls _ => .none | .dit _ _ => .none | .exc _ _ _ => .none
def datL : List T → List PyData
 | [] => [] | x :: xs => dat x :: datL xs
end
mutual
/-- no dict, no instance; nested at most n deep -/
def fit : T → Nat → Bool
 | .non, _ => true | .bl _, _ => true | .int _, _ => true | .str _, _ => true
 | .tup xs, n => match n with | 0 => false | n + 1 => fitL xs n
 | .lst xs, n => match n with | 0 => false | n + 1 => fitL xs n
 | .scr _, _ => false | .pr _, _ => false | .ty _, _ => false | .dic _ _, _ => false | .ins _ _ _, _ => false | .cls _, _ => false | .dit _ _, _ => false | .exc _ _ _, _ => false
def fitL : List T → Nat → Bool
 | [], _ => true | x :: xs, n => fit x n && fitL xs n
end
mutual
def eqT : T → T → Bool
 | .non, y => match y with | .non => true | _ => false
 | .bl a, y => match y with | .bl b => a == b | .int j => (if a then 1 else 0) == j | _ => false
 | .int i, y => match y with | .bl b => i == (if b then 1 else 0) | .int j => i == j | _ => false
 | .str x, y => match y with | .str z => x == z | _ => false
 | .tup xs, y => match y with | .tup ys => eqTL xs ys | _ => false
 | .lst xs, y => match y with | .lst ys => eqTL xs ys | _ => false
 | .scr _, _ => false | .pr _, _ => false | .ty _, _ => false | .dic _ _, _ => false | .ins _ _ _, _ => false | .cls _, _ => false | .dit _ _, _ => false | .exc _ _ _, _ => false
def eqTL : List T → List T → Bool
 | [], ys => match ys with | [] => true | _ :: _ => false
 | x :: xs, ys => match ys with | [] => false | y :: ys => eqT x y && eqTL xs ys
end
mutual
theorem zcs : ∀ (x : T) (n : Nat), fit x n = true → (dat x).plain = true ∧ (dat x).depth ≤ n
 | .non, n, _ => by simp [dat, PyData.plain, PyData.depth]
 | .bl _, n, _ => by simp [dat, PyData.plain, PyData.depth]
 | .int _, n, _ => by simp [dat, PyData.plain, PyData.depth]
 | .str _, n, _ => by simp [dat, PyData.plain, PyData.depth]
 | .tup xs, 0, h => by simp [fit] at h
 | .tup xs, n + 1, h => by
  have := fit_plainL xs n (by simpa [fit] using h)
  simp only [dat, PyData.plain, PyData.depth]
  exact ⟨this.1, by omega⟩
 | .lst xs, 0, h => by simp [fit] at h
 | .lst xs, n + 1, h => by
  have := fit_plainL xs n (by simpa [fit] using h)
  simp only [dat, PyData.plain, PyData.depth]
  exact ⟨this.1, by omega⟩
 | .ty _, n, h => by simp [fit] at h
 | .scr _, n, h => by simp [fit] at h
 | .pr _, n, h => by simp [fit] at h
 | .dic _ _, n, h => by simp [fit] at h
 | .ins _ _ _, n, h => by simp [fit] at h
 | .cls _, n, h => by simp [fit] at h
 | .dit _ _, n, h => by simp [fit] at h
 | .exc _ _ _, n, h => by simp [fit] at h
theorem fit_plainL : ∀ (xs : List T) (n : Nat), fitL xs n = true → PyData.plainAll (datL xs) = true ∧ PyData.depthAll (datL xs) ≤ n
 | [], n, _ => by simp [datL, PyData.plainAll, PyData.depthAll]
 | x :: xs, n, h => by
  simp only [fitL, Bool.and_eq_true] at h
  have h1 := zcs x n h.1
  have h2 := fit_plainL xs n h.2
  simp only [datL, PyData.plainAll, PyData.depthAll, h1.1, h2.1, Bool.and_self, true_and]
  omega
end
mutual
theorem eqT_dat : ∀ (x y : T) (n m : Nat), fit x n = true → fit y m = true → PyData.eqv (dat x) (dat y) = eqT x y
 | .non, y, n, m, _, hy => by cases y <;> simp_all [dat, PyData.eqv, eqT, fit]
 | .bl a, y, n, m, _, hy => by cases y <;> simp_all [dat, PyData.eqv, eqT, fit]
 | .int i, y, n, m, _, hy => by cases y <;> simp_all [dat, PyData.eqv, eqT, fit]
 | .str x, y, n, m, _, hy => by cases y <;> simp_all [dat, PyData.eqv, eqT, fit]
 | .tup xs, .tup ys, 0, _, h, _ => by simp [fit] at h
 | .tup xs, .tup ys, n + 1, 0, _, h => by simp [fit] at h
 | .tup xs, .tup ys, n + 1, m + 1, hx, hy => by
  simp only [dat, PyData.eqv, eqT]
  exact eqTL_dat xs ys n m (by simpa [fit] using hx) (by simpa [fit] using hy)
 | .lst xs, .lst ys, 0, _, h, _ => by simp [fit] at h
 | .lst xs, .lst ys, n + 1, 0, _, h => by simp [fit] at h
 | .lst xs, .lst ys, n + 1, m + 1, hx, hy => by
  simp only [dat, PyData.eqv, eqT]
  exact eqTL_dat xs ys n m (by simpa [fit] using hx) (by simpa [fit] using hy)
 | .tup xs, .non, _, _, _, _ => by simp [dat, PyData.eqv, eqT]
 | .tup xs, .bl _, _, _, _, _ => by simp [dat, PyData.eqv, eqT]
 | .tup xs, .int _, _, _, _, _ => by simp [dat, PyData.eqv, eqT]
 | .tup xs, .str _, _, _, _, _ => by simp [dat, PyData.eqv, eqT]
 | .tup xs, .lst _, _, _, _, _ => by simp [dat, PyData.eqv, eqT]
 | .tup xs, .ty _, _, _, _, h => by simp [fit] at h
 | .tup xs, .scr _, _, _, _, h => by simp [fit] at h
 | .tup xs, .pr _, _, _, _, h => by simp [fit] at h
 | .tup xs, .dic _ _, _, _, _, h => by simp [fit] at h
 | .tup xs, .ins _ _ _, _, _, _, h => by simp [fit] at h
 | .tup xs, .cls _, _, _, _, h => by simp [fit] at h
 | .tup xs, .dit _ _, _, _, _, h => by simp [fit] at h
 | .tup xs, .exc _ _ _, _, _, _, h => by simp [fit] at h
 | .lst xs, .non, _, _, _, _ => by simp [dat, PyData.eqv, eqT]
 | .lst xs, .bl _, _, _, _, _ => by simp [dat, PyData.eqv, eqT]
 | .lst xs, .int _, _, _, _, _ => by simp [dat, PyData.eqv, eqT]
 | .lst xs, .str _, _, _, _, _ => by simp [dat, PyData.eqv, eqT]
 | .lst xs, .tup _, _, _, _, _ => by simp [dat, PyData.eqv, eqT]
 | .lst xs, .ty _, _, _, _, h => by simp [fit] at h
 | .lst xs, .scr _, _, _, _, h => by simp [fit] at h
 | .lst xs, .pr _, _, _, _, h => by simp [fit] at h
 | .lst xs, .dic _ _, _, _, _, h => by simp [fit] at h
 | .lst xs, .ins _ _ _, _, _, _, h => by simp [fit] at h
 | .lst xs, .cls _, _, _, _, h => by simp [fit] at h
 | .lst xs, .dit _ _, _, _, _, h => by simp [fit] at h
 | .lst xs, .exc _ _ _, _, _, _, h => by simp [fit] at h
 | .ty _, _, _, _, h, _ => by simp [fit] at h
 | .scr _, _, _, _, h, _ => by simp [fit] at h
 | .pr _, _, _, _, h, _ => by simp [fit] at h
 | .dic _ _, _, _, _, h, _ => by simp [fit] at h
 | .ins _ _ _, _, _, _, h, _ => by simp [fit] at h
 | .cls _, _, _, _, h, _ => by simp [fit] at h
 | .dit _ _, _, _, _, h, _ => by simp [fit] at h
 | .exc _ _ _, _, _, _, h, _ => by simp [fit] at h
theorem eqTL_dat : ∀ (xs ys : List T) (n m : Nat), fitL xs n = true → fitL ys m = true → PyData.eqvAll (datL xs) (datL ys) = eqTL xs ys
 | [], [], _, _, _, _ => by simp [datL, PyData.eqvAll, eqTL]
 | [], _ :: _, _, _, _, _ => by simp [datL, PyData.eqvAll, eqTL]
 | _ :: _, [], _, _, _, _ => by simp [datL, PyData.eqvAll, eqTL]
 | x :: xs, y :: ys, n, m, hx, hy => by
  simp only [fitL, Bool.and_eq_true] at hx hy
  simp only [datL, PyData.eqvAll, eqTL, eqT_dat x y n m hx.1 hy.1, eqTL_dat xs ys n m hx.2 hy.2]
end
section
variable {K : PySem.W.Frag} {ω : World} {s : S4}
mutual
theorem Rf.dp : ∀ (x : T) (v : V) (n : Nat), fit x n = true → Rf K s.fz s.H x v → Dp K s.H v (dat x)
 | .non, v, _, _, h => by simp only [Rf] at h; subst h; exact .non
 | .bl b, v, _, _, h => by simp only [Rf] at h; subst h; exact .bl b
 | .int b, v, _, _, h => by simp only [Rf] at h; subst h; exact .int b
 | .str b, v, _, _, h => by simp only [Rf] at h; subst h; exact .str b
 | .tup xs, v, 0, f, _ => by simp [fit] at f
 | .tup xs, v, n + 1, f, h => by
  simp only [Rf] at h
  obtain ⟨a, vs, e, t, l⟩ := h
  subst e
  exact .tup t.sq (RfL.dp xs vs n (by simpa [fit] using f) l)
 | .lst xs, v, 0, f, _ => by simp [fit] at f
 | .lst xs, v, n + 1, f, h => by
  simp only [Rf] at h
  obtain ⟨a, vs, e, t, l⟩ := h
  subst e
  exact .lst t.sq (RfL.dp xs vs n (by simpa [fit] using f) l)
 | .ty _, _, _, f, _ => by simp [fit] at f
 | .scr _, _, _, f, _ => by simp [fit] at f
 | .pr _, _, _, f, _ => by simp [fit] at f
 | .dic _ _, _, _, f, _ => by simp [fit] at f
 | .ins _ _ _, _, _, f, _ => by simp [fit] at f
 | .cls _, _, _, f, _ => by simp [fit] at f
 | .dit _ _, _, _, f, _ => by simp [fit] at f
 | .exc _ _ _, _, _, f, _ => by simp [fit] at f
theorem RfL.dp : ∀ (xs : List T) (vs : List V) (n : Nat), fitL xs n = true → RfL K s.fz s.H xs vs → DpAll K s.H vs (datL xs)
 | [], vs, _, _, h => by simp only [RfL] at h; subst h; exact .nil
 | x :: xs, vs, n, f, h => by
  simp only [fitL, Bool.and_eq_true] at f
  simp only [RfL] at h
  obtain ⟨v, r, e, a, b⟩ := h
  subst e
  exact .cons (Rf.dp x v n f.1 a) (RfL.dp xs r n f.2 b)
end
end
def allT : List W → Option (List T)
 | [] => some []
 | .t x :: ws => (allT ws).map (x :: ·)
 | .r _ :: _ => none
theorem zbh : ∀ {ws : List W} {ts : List T}, allT ws = some ts → ws = ts.map W.t
 | [], ts, h => by simp [allT] at h; subst h; rfl
 | .t x :: ws, ts, h => by
  simp only [allT, Option.map_eq_some_iff] at h
  obtain ⟨r, h1, h2⟩ := h
  subst h2
  rw [zbh h1]
  rfl
 | .r _ :: _, _, h => by simp [allT] at h
/-- a live list's items -/
def getL (hp : IH) (i : Nat) : Option (List W) := match hp[i]? with
 | some (some (.lst ws)) => some ws
 | _ => none
theorem zbj {hp : IH} {i : Nat} {ws : List W} (h : getL hp i = some ws) : hp[i]? = some (some (.lst ws)) := by
 unfold getL at h
 split at h
 ·cases h; assumption
 ·cases h
/-- as a tree (a live list of trees too) -/
def asT (hp : IH) : W → Option T
 | .t x => some x
 | .r i => ((getL hp i).bind allT).map T.lst
section
variable {K : PySem.W.Frag} {ω : World} {s : S4}
/-- where a live list lies -/
theorem Rel.lst (R : Rel K ω s) {i : Nat} {v : V} {ws : List W} (g : getL s.hp i = some ws) (r : Rw K s (.r i) v) : ∃ a vs, v = .ref a ∧ s.rho[i]? = some a ∧ s.H a = some (.lst vs) ∧ RwL K s ws vs ∧ ¬ s.fz a := by
 obtain ⟨a, e1, e2⟩ := r
 obtain ⟨vs, h1, h2⟩ := R.cell i _ a (zbj g) e1
 exact ⟨a, vs, e2, e1, h1, h2, R.fz a ⟨i, _, ⟨zbj g, True.intro⟩, e1⟩⟩
theorem asT_dp (R : Rel K ω s) {w : W} {x : T} {v : V} {n : Nat} (h : asT s.hp w = some x) (r : Rw K s w v) (f : fit x n = true) : Dp K s.H v (dat x) := by
 cases w with
 | t y => simp only [asT, Option.some.injEq] at h; subst h; exact Rf.dp _ v n f r
 | r i =>
  simp only [asT, Option.map_eq_some_iff, Option.bind_eq_some_iff] at h
  obtain ⟨ts, ⟨ws, g, h1⟩, h2⟩ := h
  subst h2
  obtain ⟨a, vs, e, _, e2, l, _⟩ := R.lst g r
  subst e
  cases n with
  | zero => simp [fit] at f
  | succ n =>
   rw [zbh h1] at l
   exact .lst (.inl (.inl e2)) (RfL.dp ts vs n (by simpa [fit] using f) Ycr)
end
section
variable {X : Cx}
def rEqP (K : PySem.W.Frag) : R2 := fun x y H Q => ∃ d e, Dp K H x d ∧ Dp K H y e ∧ d.plain = true ∧ e.plain = true ∧ d.depth ≤ 60 ∧ Q (.bl (PyData.eqv d e)) H
def rNeP (K : PySem.W.Frag) : R2 := fun x y H Q => ∃ d e, Dp K H x d ∧ Dp K H y e ∧ d.plain = true ∧ e.plain = true ∧ d.depth ≤ 60 ∧ Q (.bl (!PyData.eqv d e)) H
theorem op_eqP (hu : X.A.units + 64 < cLine) : OpR X (compareOp .Eq) (rEqP X.K) := by
 intro pins s σ H x y v u Q I rx ry h
 obtain ⟨d, e, hd, he, sd, se, dd, q⟩ := h
 obtain ⟨as, r1⟩ := Dp.reads I d x v hd rx
 obtain ⟨bs, r2⟩ := Dp.reads I e y u he ry
 exact SeqAt.eq_plain r1 r2 sd se (by have : min d.depth e.depth ≤ d.depth := Nat.min_le_left _ _; omega) ⟨.bl _, H, I, rfl, q⟩
theorem op_neP (hu : X.A.units + 64 < cLine) : OpR X (compareOp .NotEq) (rNeP X.K) := by
 intro pins s σ H x y v u Q I rx ry h
 obtain ⟨d, e, hd, he, sd, se, dd, q⟩ := h
 obtain ⟨as, r1⟩ := Dp.reads I d x v hd rx
 obtain ⟨bs, r2⟩ := Dp.reads I e y u he ry
 exact SeqAt.ne_plain r1 r2 sd se (by have : min d.depth e.depth ≤ d.depth := Nat.min_le_left _ _; omega) ⟨.bl _, H, I, rfl, q⟩
/-- x in c: c a list or a tuple of data -/
def rInP (K : PySem.W.Frag) (neg : Bool) : R2 := fun x y H Q => ∃ d e, Dp K H x d ∧ (Dp K H y (.list e) ∨ Dp K H y (.tuple e)) ∧ d.plain = true ∧ PyData.plainAll e = true ∧ d.depth ≤ 60 ∧
 Q (.bl (if neg then !(e.any fun z => PyData.eqv z d) else e.any fun z => PyData.eqv z d)) H
theorem op_inP (hu : X.A.units + 64 < cLine) : OpR X (compareOp .In) (rInP X.K false) := by
 intro pins s σ H x y v u Q I rx ry h
 obtain ⟨d, e, hd, he, sd, se, dd, q⟩ := h
 obtain ⟨as, r1⟩ := Dp.reads I d x v hd rx
 have hm : X.A.units + 1 + min (PyData.depthAll e) d.depth < cLine := by have : min (PyData.depthAll e) d.depth ≤ d.depth := Nat.min_le_right _ _; omega
 rcases he with he | he
 ·obtain ⟨bs, r2⟩ := Dp.reads I _ y u he ry
  exact SeqAt.in_list_data r2 r1 se sd hm ⟨.bl _, H, I, rfl, q⟩
 ·obtain ⟨bs, r2⟩ := Dp.reads I _ y u he ry
  exact SeqAt.in_tuple_data r2 r1 se sd hm ⟨.bl _, H, I, rfl, q⟩
theorem op_ninP (hu : X.A.units + 64 < cLine) : OpR X (compareOp .NotIn) (rInP X.K true) := by
 intro pins s σ H x y v u Q I rx ry h
 obtain ⟨d, e, hd, he, sd, se, dd, q⟩ := h
 obtain ⟨as, r1⟩ := Dp.reads I d x v hd rx
 have hm : X.A.units + 1 + min (PyData.depthAll e) d.depth < cLine := by have : min (PyData.depthAll e) d.depth ≤ d.depth := Nat.min_le_right _ _; omega
 rcases he with he | he
 ·obtain ⟨bs, r2⟩ := Dp.reads I _ y u he ry
  exact SeqAt.notIn_list_data r2 r1 se sd hm ⟨.bl _, H, I, rfl, q⟩
 ·obtain ⟨bs, r2⟩ := Dp.reads I _ y u he ry
  exact SeqAt.notIn_tuple_data r2 r1 se sd hm ⟨.bl _, H, I, rfl, q⟩
end
abbrev Op2 := W → W → IH → Res W
abbrev Op1 := W → IH → Res W
abbrev OpN := List W → IH → Res W
def zcd (K : PySem.W.Frag) (ω : World) (Wx : WX) (f : Op2) (r : R2) : Prop := ∀ (s : S4) (a b : W) (x y : V) (Q : VK), Rel K ω s → Rw K s a x → Rw K s b y → Go K ω Wx (Rw K) s (f a b s.hp) Q → r x y s.H Q
def Op1Ok (K : PySem.W.Frag) (ω : World) (Wx : WX) (f : Op1) (r : V → Hp → VK → Prop) : Prop := ∀ (s : S4) (a : W) (x : V) (Q : VK), Rel K ω s → Rw K s a x → Go K ω Wx (Rw K) s (f a s.hp) Q → r x s.H Q
def OpNOk (K : PySem.W.Frag) (ω : World) (Wx : WX) (f : OpN) (r : List V → Hp → VK → Prop) : Prop := ∀ (s : S4) (a : List W) (x : List V) (Q : VK), Rel K ω s → RwL K s a x → Go K ω Wx (Rw K) s (f a s.hp) Q → r x s.H Q
def mBin (f : Op2) (Fa Fb : M W) : M W := fun eta hp => (Fa eta hp).bind fun a h1 => (Fb eta h1).bind fun b h2 => f a b h2
def mUn (f : Op1) (Fa : M W) : M W := fun eta hp => (Fa eta hp).bind fun a h1 => f a h1
def mNil : M (List W) := fun _ hp => .ok [] hp
def zab (Fa : M W) (Fr : M (List W)) : M (List W) := fun eta hp => (Fa eta hp).bind fun a h1 => (Fr eta h1).bind fun r h2 => .ok (a :: r) h2
def mApp (f : OpN) (Fa : M (List W)) : M W := fun eta hp => (Fa eta hp).bind fun a h1 => f a h1
section
variable {X : Cx} {Wx : WX} {a b c e : Expr} {es : List Expr} {Fa Fb Fc F : M W} {Fs : M (List W)} {pos : Pos}
theorem tM.bind1 {A B C D : Type} {K : PySem.W.Frag} {ω : World} {Fam : S4 → A → B → Prop} {Gam : S4 → C → D → Prop} {Fa : M A} {k : A → IS → IH → Res C} {σ : St} {H : Hp} {Q : D → Hp → Prop} {R : B → Hp → Prop}
  (h : tM K ω Wx Gam (fun eta hp => (Fa eta hp).bind fun a h1 => k a eta h1) σ H Q)
  (n : ∀ (s : S4) (eta : IS) (a : A) (b : B), Rel K ω s → Sl K s eta σ → Fam s a b → Go K ω Wx Gam s (k a eta s.hp) Q → R b s.H) : tM K ω Wx Fam Fa σ H R := by
 obtain ⟨s, eta, e1, R1, S1, g⟩ := h
 refine ⟨s, eta, e1, R1, S1, Go.bind g fun a b s' A' R' f _ g' => n s' eta a b R' (S1.aft A' R1) f g'⟩
theorem tM.bind2 {A B C D A' B' : Type} {K : PySem.W.Frag} {ω : World} {Fam : S4 → A → B → Prop} {Fam' : S4 → A' → B' → Prop} {Gam : S4 → C → D → Prop} {Fa : M A} {Fb : M A'} {k : A → A' → IS → IH → Res C} {σ : St} {H : Hp} {Q : D → Hp → Prop} {R : B → B' → Hp → Prop}
  (keep : ∀ s s' a b, Fam s a b → Aft s s' → Rel K ω s → Fam s' a b)
  (h : tM K ω Wx Gam (fun eta hp => (Fa eta hp).bind fun a h1 => (Fb eta h1).bind fun b h2 => k a b eta h2) σ H Q)
  (n : ∀ (s : S4) (eta : IS) (a : A) (b : B) (a' : A') (b' : B'), Rel K ω s → Sl K s eta σ → Fam s a b → Fam' s a' b' → Go K ω Wx Gam s (k a a' eta s.hp) Q → R b b' s.H) : tM K ω Wx Fam Fa σ H fun b H1 => tM K ω Wx Fam' Fb σ H1 fun b' H2 => R b b' H2 := by
 refine tM.bind1 (k := fun a eta h1 => (Fb eta h1).bind fun b h2 => k a b eta h2) h fun s eta a b R1 S1 f g => ?_
 refine ⟨s, eta, rfl, R1, S1, Go.bind g fun a' b' s' A' R' f' _ g' => n s' eta a b a' b' R' (S1.aft A' R1) (keep _ _ _ _ f A' R1) f' g'⟩
theorem Rw.keep {K : PySem.W.Frag} {ω : World} : ∀ (s s' : S4) (a : W) (b : V), Rw K s a b → Aft s s' → Rel K ω s → Rw K s' a b := fun _ _ _ _ h A R => h.aft A R
theorem RwL.keep {K : PySem.W.Frag} {ω : World} : ∀ (s s' : S4) (a : List W) (b : List V), RwL K s a b → Aft s s' → Rel K ω s → RwL K s' a b := fun _ _ _ _ h A R => RwL.aft A R _ _ h
theorem t_bin {f : Op2} {r : R2} (hf : zcd X.K X.w Wx f r) : ∀ σ H Q, tE X.K X.w Wx (mBin f Fa Fb) σ H Q → tOp r (tE X.K X.w Wx Fa) (tE X.K X.w Wx Fb) σ H Q := by
 intro σ H Q h
 exact tM.bind2 (R := fun x y H2 => r x y H2 Q) (k := fun a b _ hp => f a b hp) Rw.keep h fun s eta a b a' b' R1 S1 f1 f2 g => hf s a a' b b' Q R1 f1 f2 g
theorem ie_bin {op : Operator} {f : Op2} {r : R2} (ho : OpR X (binaryOp op) r) (hf : zcd X.K X.w Wx f r) (ha : IE X Wx a Fa) (hb : IE X Wx b Fb) : IE X Wx (.BinOp a op b pos) (mBin f Fa Fb) :=
 PE.imp (pe_op ho ha hb) (t_bin hf)
theorem ie_cmp {op : CmpOp} {f : Op2} {r : R2} (ho : OpR X (compareOp op) r) (hf : zcd X.K X.w Wx f r) (ha : IE X Wx a Fa) (hb : IE X Wx b Fb) (hm : behindInMarks op b = false) : IE X Wx (.Compare a [op] [b] pos) (mBin f Fa Fb) :=
 PE.imp (pe_cmpR ho ha hb hm) (t_bin hf)
theorem ie_un {op : UnaryOp} {f : Op1} {r : V → Hp → VK → Prop} (ho : UnR X (unaryOp op) r) (hf : Op1Ok X.K X.w Wx f r) (ha : IE X Wx a Fa) : IE X Wx (.UnaryOp op a pos) (mUn f Fa) :=
 PE.imp (pe_un ho ha) fun σ H Q h => tM.bind1 (R := fun x H1 => r x H1 Q) (k := fun a _ hp => f a hp) h fun s eta a b R1 _ f1 g => hf s a b Q R1 f1 g
theorem ie_ix {f : Op2} {r : R2} (hr : IxR X r) (hf : zcd X.K X.w Wx f r) (ha : IE X Wx a Fa) (hb : IE X Wx b Fb) (hs : PlainIx b) : IE X Wx (.Subscript a b pos) (mBin f Fa Fb) :=
 PE.imp (pe_ix hr ha hb hs) (t_bin hf)
theorem zad : IA X Wx [] mNil := PA.imp pa_nil fun σ H Q h => by
 obtain ⟨s, eta, e1, R1, S1, g⟩ := h
 subst e1
 exact g [] s rfl Ye R1 rfl
theorem zaa (ha : IE X Wx e Fa) (hr : IA X Wx es Fs) (hs : starEach Ybi X.env = (false, eval e X.env) :: starEach es X.env := by rfl) : IA X Wx Ybi (zab Fa Fs) :=
 PA.imp (pa_cons ha hr hs) fun σ H Q h => tM.bind2 (R := fun x xs H2 => Q (x :: xs) H2) (k := fun a r _ hp => .ok (a :: r) hp) Rw.keep h fun s eta a b a' b' R1 S1 f1 f2 g => g (b :: b') s rfl Ye R1 ⟨b, b', rfl, f1, f2⟩
/-- *e: a tuple or a list -/
def items (hp : IH) : W → Option (List W)
 | .t (.tup xs) => some Yet
 | .t (.lst xs) => some Yet
 | .t (.scr xs) => some Yet
 | .t _ => none
 | .r i => getL hp i
theorem items_sq {K : PySem.W.Frag} {ω : World} {s : S4} (R : Rel K ω s) {w : W} {v : V} {ws : List W} (h : items s.hp w = some ws) (r : Rw K s w v) : ∃ p xs, v = .ref p ∧ (SqT K s.H p xs ∨ SqL K s.H p xs) ∧ RwL K s ws xs := by
 cases w with
 | t x =>
  cases x with
  | tup xs =>
   simp only [items, Option.some.injEq] at h
   subst h
   obtain ⟨a, vs, e, t, l⟩ : ∃ a vs, v = .ref a ∧ FTup K s.fz s.H a vs ∧ RfL K s.fz s.H xs vs := by simpa only [Rw, Rf] using r
   exact ⟨a, vs, e, .inl t.sq, RwL.of_trees.mpr l⟩
  | lst xs =>
   simp only [items, Option.some.injEq] at h
   subst h
   obtain ⟨a, vs, e, t, l⟩ : ∃ a vs, v = .ref a ∧ FLst s.fz s.H a vs ∧ RfL K s.fz s.H xs vs := by simpa only [Rw, Rf] using r
   exact ⟨a, vs, e, .inr t.sq, RwL.of_trees.mpr l⟩
  | scr xs =>
   simp only [items, Option.some.injEq] at h
   subst h
   obtain ⟨a, vs, e, t, l⟩ : ∃ a vs, v = .ref a ∧ FScr K s.fz s.H a vs ∧ RfL K s.fz s.H xs vs := by simpa only [Rw, Rf] using r
   exact ⟨a, vs, e, .inr t.sq, RwL.of_trees.mpr l⟩
  | _ => simp [items] at h
 | r i =>
  obtain ⟨a, vs, e, _, e2, l, _⟩ := R.lst (show getL s.hp i = some ws from h) r
  exact ⟨a, vs, e, .inr (.inl (.inl e2)), l⟩
def mStar (Fa : M W) (Fr : M (List W)) : M (List W) := fun eta hp => (Fa eta hp).bind fun a h1 => match items h1 a with
 | some ws => (Fr eta h1).bind fun r h2 => .ok (ws ++ r) h2
 | none => .bad
end
section
variable {X : Cx} {Wx : WX} {pos : Pos}
def mVar (i : Nat) : M W := fun eta hp => match eta[i]? with
 | some (some w) => .ok w hp
 | _ => .bad
def mC (x : T) : M W := fun _ hp => .ok (.t x) hp
theorem zac (i : Nat) {x : Str} (hN : X.N[i]? = some x := by rfl) (hv : Vis X.env.scope x := by first | exact Or.inl rfl | exact Or.inr (Or.inl rfl) | exact Or.inr (Or.inr rfl)) (hd : (x == ("__debug__" : Str)) = false := by decide)
  (hcd : (x == ("__classdict__" : Str)) = false := by decide) : IE X Wx Yex (mVar i) := PE.imp (pe_var hN hv hd hcd) fun σ H Q h => by
 obtain ⟨s, eta, e1, R1, S1, g⟩ := h
 subst e1
 unfold mVar at g
 split at g
 ·rename_i w hw
  obtain ⟨v, h1, h2⟩ := S1.2 i w hw
  exact ⟨v, h1, g v s rfl Ye R1 h2⟩
 ·exact g.elim
theorem t_const {v : V} {x : T} (hx : ∀ s, Rw X.K s (.t x) v) : ∀ σ H Q, tE X.K X.w Wx (mC x) σ H Q → tC v σ H Q := fun σ H Q h => by
 obtain ⟨s, eta, e1, R1, S1, g⟩ := h
 subst e1
 exact g v s rfl Ye R1 (hx s)
theorem zag {i j} : IE X Wx (.Constant (.int i) j pos) (mC (.int i)) := PE.imp pe_int Ycs
theorem ie_bl {b j} : IE X Wx (.Constant (.bool b) j pos) (mC (.bl b)) := PE.imp pe_bl Ycs
theorem zb2 {j} : IE X Wx (.Constant .none j pos) Ybq := PE.imp pe_non Ycs
theorem zaf {x j} : IE X Wx (.Constant (.str x) j pos) (mC (.str x)) := PE.imp pe_str Ycs
/-- a module's constant: what stands in the written part -/
def KT (K : PySem.W.Frag) (x : T) (v : V) : Prop := ∀ s, Rw K s (.t x) v
theorem ie_glob {x : Str} {v : V} {u : Value} {t : T} (hg : Gl X x) (hm : X.mg x = some u) (r : RelV v u) (k : KT X.K t v) (hd : (x == ("__debug__" : Str)) = false := by decide) : IE X Wx Yex (mC t) :=
 PE.imp (pe_glob hg hm r hd) (t_const k)
end
end Mir
namespace Mir
open PySem PySem.Spec L2
open PyProof.Rows hiding St
section
variable {K : PySem.W.Frag} {ω : World} {s : S4}
theorem Rel.fresh (R : Rel K ω s) {p : Addr} (h : s.H p = none) : p ∉ s.rho ∧ ¬ s.fz p := ⟨fun m => R.trk p m h, fun f => R.ftrk p f h⟩
theorem Rel.notlive (R : Rel K ω s) {p : Addr} (h : s.H p = none) : ¬ Live s p := fun ⟨i, c, _, e⟩ => (R.fresh h).1 (List.mem_of_getElem? e)
theorem Rel.liveH (R : Rel K ω s) {i : Nat} {c : Cell} {a : Addr} (h : s.hp[i]? = some (some c)) (e : s.rho[i]? = some a) : s.H a ≠ none := R.trk a (List.mem_of_getElem? e)
/-- a new frozen object -/
def S4.addF (s : S4) (p : Addr) (o : HO) : S4 := ⟨s.rho, fun a => s.fz a ∨ a = p, s.hp, upd s.H p o⟩
theorem za4 (R : Rel K ω s) {p : Addr} {o : HO} (h : s.H p = none) : Aft s (s.addF p o) := by
 refine ⟨⟨[], by simp [S4.addF], by simp⟩, fun a f => .inl f, fun a u e _ => ?_, fun a f => ?_, fun a l => .inl l, fun a e => ?_⟩
 ·show upd s.H p o a = some u
  rw [upd_ne (ne_of_none e h)]; exact e
 ·rcases f with f | f
  ·exact .inl f
  ·exact .inr (.inl (by rw [f]; exact h))
 ·show upd s.H p o a ≠ none
  by_cases q : a = p
  ·rw [q, upd_same]; intro z; cases z
  ·rw [upd_ne q]; exact e
theorem zbi (R : Rel K ω s) {p : Addr} {o : HO} (h : s.H p = none) : Rel K ω (s.addF p o) := by
 have A := za4 (o := o) R h
 refine ⟨R.len, R.nd, fun a m => A.trk a (R.trk a m), fun a f => ?_, fun a l f => ?_, fun i c a e1 e2 => ?_⟩
 ·rcases f with f | f
  ·exact A.trk a (R.ftrk a f)
  ·show upd s.H p o a ≠ none
   rw [f, upd_same]; intro z; cases z
 ·rcases f with f | f
  ·exact R.fz a l f
  ·rw [f] at l; exact R.notlive h l
 ·have q := R.cell i c a e1 e2
  have ne : a ≠ p := fun z => R.liveH e1 e2 (by rw [z]; exact h)
  show CellOk K ω (s.addF p o) a c (upd s.H p o a)
  rw [upd_ne ne]
  exact q.aft A R
theorem addF_tup (R : Rel K ω s) {p : Addr} {o : Obj} {ts : List T} {vs : List V} (h : s.H p = none) (d : o.dict = none) (l : RfL K s.fz s.H ts vs) : Rw K (s.addF p (.frz o (.tup vs))) Yae (.ref p) := by
 have A := za4 (o := .frz o (.tup vs)) R h
 simp only [Rw, Rf]
 exact ⟨p, vs, rfl, .inl ⟨.inr rfl, o, upd_same, d⟩, RfL.aft A R _ _ l⟩
theorem zci (R : Rel K ω s) {p : Addr} {ts : List T} {vs : List V} (h : s.H p = none) (l : RfL K s.fz s.H ts vs) : Rw K (s.addF p (.lst vs)) Yw (.ref p) := by
 have A := za4 (o := .lst vs) R h
 simp only [Rw, Rf]
 exact ⟨p, vs, rfl, ⟨.inr rfl, upd_same⟩, RfL.aft A R _ _ l⟩
/-- a new live cell -/
def S4.addL (s : S4) (p : Addr) (c : Cell) (o : HO) : S4 := ⟨s.rho ++ [p], s.fz, s.hp ++ [some c], upd s.H p o⟩
theorem live_addL (R : Rel K ω s) {p a : Addr} {c : Cell} {o : HO} (l : Live (s.addL p c o) a) : Live s a ∨ a = p := by
 obtain ⟨i, d, ⟨e1, al⟩, e2⟩ := l
 have e1 : (s.hp ++ [some c])[i]? = some (some d) := e1
 have e2 : (s.rho ++ [p])[i]? = some a := e2
 by_cases hi : i < s.hp.length
 ·rw [List.getElem?_append_left hi] at e1
  rw [List.getElem?_append_left (by rw [R.len]; exact hi)] at e2
  exact .inl ⟨i, d, ⟨e1, al⟩, e2⟩
 ·rw [List.getElem?_append_right (by rw [R.len]; omega)] at e2
  have : i - s.rho.length = 0 := by
   have := (List.getElem?_eq_some_iff.mp e2).1
   simp at this
   omega
  rw [this] at e2
  simp at e2
  exact .inr e2.symm
theorem aft_addL (R : Rel K ω s) {p : Addr} {c : Cell} {o : HO} (h : s.H p = none) : Aft s (s.addL p c o) := by
 refine ⟨⟨[p], rfl, by simp [h]⟩, fun a f => f, fun a u e _ => ?_, fun a f => .inl f, fun a l => ?_, fun a e => ?_⟩
 ·show upd s.H p o a = some u
  rw [upd_ne (ne_of_none e h)]; exact e
 ·rcases live_addL R l with l | l
  ·exact .inl l
  ·exact .inr (by rw [l]; exact h)
 ·show upd s.H p o a ≠ none
  by_cases q : a = p
  ·rw [q, upd_same]; intro z; cases z
  ·rw [upd_ne q]; exact e
theorem rel_addL (R : Rel K ω s) {p : Addr} {c : Cell} {o : HO} (h : s.H p = none) (ok : CellOk K ω s p c (some o)) : Rel K ω (s.addL p c o) := by
 have A := aft_addL (c := c) (o := o) R h
 have hp := R.fresh h
 refine ⟨by simp [S4.addL, R.len], ?_, fun a m => ?_, fun a f => A.trk a (R.ftrk a f), fun a l f => ?_, fun i d a e1 e2 => ?_⟩
 ·show (s.rho ++ [p]).Nodup
  refine List.nodup_append.mpr ⟨R.nd, by simp, fun a m b hb => ?_⟩
  simp at hb
  rintro rfl
  exact hp.1 (hb ▸ m)
 ·have m : a ∈ s.rho ++ [p] := m
  rcases List.mem_append.mp m with m | m
  ·exact A.trk a (R.trk a m)
  ·simp at m
   show upd s.H p o a ≠ none
   rw [m, upd_same]; intro z; cases z
 ·rcases live_addL R l with l | l
  ·exact R.fz a l f
  ·exact hp.2 (l ▸ f)
 ·have e1 : (s.hp ++ [some c])[i]? = some (some d) := e1
  have e2 : (s.rho ++ [p])[i]? = some a := e2
  show CellOk K ω (s.addL p c o) a d (upd s.H p o a)
  by_cases hi : i < s.hp.length
  ·rw [List.getElem?_append_left hi] at e1
   rw [List.getElem?_append_left (by rw [R.len]; exact hi)] at e2
   have ne : a ≠ p := fun z => R.liveH e1 e2 (by rw [z]; exact h)
   rw [upd_ne ne]
   exact (R.cell i d a e1 e2).aft A R
  ·have h0 : i = s.hp.length := by
    have := (List.getElem?_eq_some_iff.mp e1).1
    simp at this
    omega
   subst h0
   simp at e1
   rw [List.getElem?_append_right (by rw [R.len]; exact Nat.le_refl _), R.len] at e2
   simp at e2
   subst e1 e2
   rw [upd_same]
   exact ok.aft A R
theorem addL_r (R : Rel K ω s) {p : Addr} {c : Cell} {o : HO} : Rw K (s.addL p c o) (.r s.hp.length) (.ref p) :=
 ⟨p, by show (s.rho ++ [p])[s.hp.length]? = some p; rw [List.getElem?_append_right (by rw [R.len]; exact Nat.le_refl _), R.len]; simp, rfl⟩
/-- a live cell is changed -/
def S4.setL (s : S4) (i : Nat) (a : Addr) (c : Cell) (o : HO) : S4 := ⟨s.rho, s.fz, s.hp.set i (some c), upd s.H a o⟩
theorem live_setL {i : Nat} {a b : Addr} {c c0 : Cell} {o : HO} (h0 : s.hp[i]? = some (some c0)) (l : Live (s.setL i a c o) b) (hv : c0.alive := by exact True.intro) : Live s b := by
 obtain ⟨j, d, ⟨e1, al⟩, e2⟩ := l
 have e1 : (s.hp.set i (some c))[j]? = some (some d) := e1
 by_cases hj : i = j
 ·subst hj
  exact ⟨i, c0, ⟨h0, hv⟩, e2⟩
 ·rw [List.getElem?_set_ne hj] at e1
  exact ⟨j, d, ⟨e1, al⟩, e2⟩
theorem aft_setL (R : Rel K ω s) {i : Nat} {a : Addr} {c c0 : Cell} {o : HO} (h0 : s.hp[i]? = some (some c0)) (ha : s.rho[i]? = some a) (hv : c0.alive := by exact True.intro) : Aft s (s.setL i a c o) := by
 refine ⟨⟨[], by simp [S4.setL], by simp⟩, fun _ f => f, fun b u e nl => ?_, fun _ f => .inl f, fun b l => .inl (live_setL h0 l hv), fun b e => ?_⟩
 ·show upd s.H a o b = some u
  rw [upd_ne (fun z => nl (by rw [z]; exact ⟨i, c0, ⟨h0, hv⟩, ha⟩))]; exact e
 ·show upd s.H a o b ≠ none
  by_cases q : b = a
  ·rw [q, upd_same]; intro z; cases z
  ·rw [upd_ne q]; exact e
theorem rel_setL (R : Rel K ω s) {i : Nat} {a : Addr} {c c0 : Cell} {o : HO} (h0 : s.hp[i]? = some (some c0)) (ha : s.rho[i]? = some a) (ok : CellOk K ω s a c (some o)) (hv : c0.alive := by exact True.intro) : Rel K ω (s.setL i a c o) := by
 have A := aft_setL (c := c) (o := o) R h0 ha hv
 refine ⟨by simp [S4.setL, R.len], R.nd, fun b m => A.trk b (R.trk b m), fun b f => A.trk b (R.ftrk b f), fun b l f => R.fz b (live_setL h0 l hv) f, fun j d b e1 e2 => ?_⟩
 have e1 : (s.hp.set i (some c))[j]? = some (some d) := e1
 show CellOk K ω (s.setL i a c o) b d (upd s.H a o b)
 by_cases hj : i = j
 ·subst hj
  have e2 : s.rho[i]? = some b := e2
  rw [ha] at e2; cases e2
  rw [List.getElem?_set_self (List.getElem?_eq_some_iff.mp h0).1] at e1
  cases e1
  rw [upd_same]
  exact ok.aft A R
 ·rw [List.getElem?_set_ne hj] at e1
  have e2 : s.rho[j]? = some b := e2
  have ne : b ≠ a := fun z => by
   subst z
   exact hj ((List.getElem?_inj (List.getElem?_eq_some_iff.mp ha).1 R.nd).mp (ha.trans e2.symm))
  rw [upd_ne ne]
  exact (R.cell j d b e1 e2).aft A R
/-- a live cell is frozen -/
def S4.frz (s : S4) (i : Nat) (a : Addr) : S4 := ⟨s.rho, fun b => s.fz b ∨ b = a, s.hp.set i none, s.H⟩
theorem live_frz (R : Rel K ω s) {i : Nat} {a b : Addr} (ha : s.rho[i]? = some a) (l : Live (s.frz i a) b) : Live s b ∧ b ≠ a := by
 obtain ⟨j, d, ⟨e1, al⟩, e2⟩ := l
 have e1 : (s.hp.set i none)[j]? = some (some d) := e1
 have e2 : s.rho[j]? = some b := e2
 by_cases hj : i = j
 ·subst hj
  by_cases hl : i < s.hp.length
  ·rw [List.getElem?_set_self hl] at e1; cases e1
  ·rw [List.getElem?_eq_none Yen] at e1; cases e1
 ·rw [List.getElem?_set_ne hj] at e1
  refine ⟨⟨j, d, ⟨e1, al⟩, e2⟩, fun z => ?_⟩
  subst z
  exact hj ((List.getElem?_inj (List.getElem?_eq_some_iff.mp ha).1 R.nd).mp (ha.trans e2.symm))
theorem aft_frz (R : Rel K ω s) {i : Nat} {a : Addr} {c0 : Cell} (h0 : s.hp[i]? = some (some c0)) (ha : s.rho[i]? = some a) (hv : c0.alive := by exact True.intro) : Aft s (s.frz i a) := by
 refine ⟨⟨[], by simp [S4.frz], by simp⟩, fun _ f => .inl f, fun b u e nl => e, fun b f => ?_, fun b l => .inl (live_frz R ha l).1, fun b e => e⟩
 rcases f with f | f
 ·exact .inl f
 ·exact .inr (.inr (by rw [f]; exact ⟨i, c0, ⟨h0, hv⟩, ha⟩))
theorem rel_frz (R : Rel K ω s) {i : Nat} {a : Addr} {c0 : Cell} (h0 : s.hp[i]? = some (some c0)) (ha : s.rho[i]? = some a) (hv : c0.alive := by exact True.intro) : Rel K ω (s.frz i a) := by
 have A := aft_frz R h0 ha hv
 refine ⟨by simp [S4.frz, R.len], R.nd, R.trk, fun b f => ?_, fun b l f => ?_, fun j d b e1 e2 => ?_⟩
 ·rcases f with f | f
  ·exact R.ftrk b f
  ·rw [f]; exact R.liveH h0 ha
 ·obtain ⟨l1, ne⟩ := live_frz R ha l
  rcases f with f | f
  ·exact R.fz b l1 f
  ·exact ne f
 ·have e1 : (s.hp.set i none)[j]? = some (some d) := e1
  by_cases hj : i = j
  ·subst hj
   rw [List.getElem?_set_self (List.getElem?_eq_some_iff.mp h0).1] at e1; cases e1
  ·rw [List.getElem?_set_ne hj] at e1
   exact (R.cell j d b e1 e2).aft A R
end
/-- a live list of trees becomes a tree -/
def zbw (w : W) (hp : IH) : Res W := match w with
 | .t x => .ok (.t x) hp
 | .r i => match (getL hp i).bind allT with
  | some ts => .ok Yw (hp.set i none)
  | none => .bad
def mFrz (F : M W) : M W := fun eta hp => (F eta hp).bind fun a h1 => zbw a h1
section
variable {X : Cx} {Wx : WX} {e : Expr} {es : List Expr} {F : M W} {Fs : M (List W)} {pos : Pos}
def zce (ws : List W) (hp : IH) : Res W := match allT ws with
 | some ts => if ts.length ≤ 16777216 then .ok Yae hp else .bad
 | none => .bad
def zak (ws : List W) (hp : IH) : Res W := match allT ws with
 | some ts => if ts.length ≤ 16777216 then .ok Yw hp else .bad
 | none => .bad
def newL (ws : List W) (hp : IH) : Res W := if ws.length ≤ 16777216 then .ok Yb9 (hp ++ [some (.lst ws)]) else .bad
section
variable {K : PySem.W.Frag} {ω : World} {s : S4} {ws : List W} {vs : List V} {Q : VK}
theorem go_tup (R : Rel K ω s) (r : RwL K s ws vs) (g : Go K ω Wx (Rw K) s (zce ws s.hp) Q) : vs.length ≤ sizeLine ∧ ∀ (p : Addr) (o : Obj), s.H p = none → o.dict = none → Q (.ref p) (upd s.H p (.frz o (.tup vs))) := by
 unfold zce at g
 split at g
 ·rename_i ts ht
  split at g
  ·rename_i hz
   rw [zbh ht] at r
   refine ⟨by rw [← RwL.length r, List.length_map, sizeLine_eq]; exact hz, fun p o hp d => g (.ref p) (s.addF p (.frz o (.tup vs))) rfl (za4 R hp) (zbi R hp) (addF_tup R hp d (RwL.of_trees.mp r))⟩
  ·exact g.elim
 ·exact g.elim
theorem go_lst (R : Rel K ω s) (r : RwL K s ws vs) (g : Go K ω Wx (Rw K) s (zak ws s.hp) Q) : vs.length ≤ sizeLine ∧ ∀ p, s.H p = none → Q (.ref p) (upd s.H p (.lst vs)) := by
 unfold zak at g
 split at g
 ·rename_i ts ht
  split at g
  ·rename_i hz
   rw [zbh ht] at r
   refine ⟨by rw [← RwL.length r, List.length_map, sizeLine_eq]; exact hz, fun p hp => g (.ref p) (s.addF p (.lst vs)) rfl (za4 R hp) (zbi R hp) (zci R hp (RwL.of_trees.mp r))⟩
  ·exact g.elim
 ·exact g.elim
theorem go_newL (R : Rel K ω s) (r : RwL K s ws vs) (g : Go K ω Wx (Rw K) s (newL ws s.hp) Q) : vs.length ≤ sizeLine ∧ ∀ p, s.H p = none → Q (.ref p) (upd s.H p (.lst vs)) := by
 unfold newL at g
 split at g
 ·rename_i hz
  refine ⟨by rw [← RwL.length r, sizeLine_eq]; exact hz, fun p hp => g (.ref p) (s.addL p (.lst ws) (.lst vs)) rfl (aft_addL R hp) (rel_addL R hp ⟨vs, rfl, r⟩) (addL_r R)⟩
 ·exact g.elim
end
/-- a tuple laid, its object known to have no dict -/
def tTupS (t : TA) : TE := fun σ H Q => t σ H fun xs H1 => xs.length ≤ sizeLine ∧ ∀ (p : Addr) (o : Obj), H1 p = none → o.dict = none → Q (.ref p) (upd H1 p (.frz o (.tup xs)))
theorem laid_tup {pins : List Ycz} {σ : St} {H : Hp} {s : Shared} {xs : List V} {us : List Value} {t' : Nat} {Q : VK} (I : Inv X pins σ H s) (r : Vals xs us) (z : xs.length ≤ sizeLine)
  (q : ∀ (p : Addr) (o : Obj), H p = none → o.dict = none → Q (.ref p) (upd H p (.frz o (.tup xs)))) : EP X pins σ Q (.ref s.heap.objs.size) { s with heap := s.heap.push { cls := .type "tuple", data := .seq us.toArray }, toks := t' } := by
 refine ⟨.ref s.heap.objs.size, _, I.laid (t' := t') (o := .frz { cls := .type "tuple", data := .seq us.toArray } (.tup xs)) (fun b u e => Heap.get?_push_of_some _ e) Ydy ?_, rfl, q _ _ I.fresh rfl⟩
 exact ⟨Heap.get?_push_size _ rfl, z, us, r, ⟨_, Heap.get?_push_size _ rfl, rfl, _, rfl⟩⟩
theorem pe_tupS {x1} {t : TA} (h : PA X es t) : PE X (.Tuple es x1 pos) (tTupS t) := by
 refine ⟨fun pn s0 σ H Q J hq => ?_⟩
 refine wpAny_Tuple_spliced (thn (h.run pos pn s0 σ H _ J hq) fun us s1 w => ?_)
 obtain ⟨xs, H1, J1, r, z, q⟩ := w
 exact ⟨by rw [← r.length]; exact z, laid_tup (t' := s1.toks) J1 r z q⟩
theorem ie_tup {x1} (h : IA X Wx es Fs) : IE X Wx (.Tuple es x1 pos) (mApp zce Fs) := PE.imp (pe_tupS h) fun σ H Q h =>
 tM.bind1 (R := fun (xs : List V) (H1 : Hp) => xs.length ≤ sizeLine ∧ ∀ (p : Addr) (o : Obj), H1 p = none → o.dict = none → Q (.ref p) (upd H1 p (.frz o (.tup xs)))) (k := fun (a : List W) _ hp => zce a hp) h fun s eta a b R1 _ f1 g => go_tup R1 f1 g
theorem zav (h : IA X Wx es Fs) : IE X Wx (.List es pos) (mApp zak Fs) := PE.imp (pe_lst h) fun σ H Q h =>
 tM.bind1 (R := fun (xs : List V) (H1 : Hp) => xs.length ≤ sizeLine ∧ ∀ p, H1 p = none → Q (.ref p) (upd H1 p (.lst xs))) (k := fun (a : List W) _ hp => zak a hp) h fun s eta a b R1 _ f1 g => go_lst R1 f1 g
theorem ie_lstL (h : IA X Wx es Fs) : IE X Wx (.List es pos) (mApp newL Fs) := PE.imp (pe_lst h) fun σ H Q h =>
 tM.bind1 (R := fun (xs : List V) (H1 : Hp) => xs.length ≤ sizeLine ∧ ∀ p, H1 p = none → Q (.ref p) (upd H1 p (.lst xs))) (k := fun (a : List W) _ hp => newL a hp) h fun s eta a b R1 _ f1 g => go_newL R1 f1 g
end
def asB (w : W) (hp : IH) : Res Bool := match w with
 | .t (.bl b) => .ok b hp
 | _ => .bad
/-- a value's truth -/
def truW (w : W) (hp : IH) : Res Bool := match w with
 | .t .non => .ok false hp
 | .t (.bl b) => .ok b hp
 | .t (.int i) => .ok (i != 0) hp
 | .t (.str s) => if s.length ≤ 16777216 then .ok ((s.length : Int) != 0) hp else .bad
 | w => match items hp w with
  | some ws => .ok (!ws.isEmpty) hp
  | none => .bad
def zaj (f : W → IH → Res Bool) (F : M W) : M Bool := fun eta hp => (F eta hp).bind fun a h1 => f a h1
def mAnd (A B : M Bool) : M Bool := fun eta hp => (A eta hp).bind fun a h1 => if a then B eta h1 else .ok false h1
def mOr (A B : M Bool) : M Bool := fun eta hp => (A eta hp).bind fun a h1 => if a then .ok true h1 else B eta h1
def mNot (A : M Bool) : M Bool := fun eta hp => (A eta hp).bind fun a h1 => .ok (!a) h1
def mIf {A : Type} (T : M Bool) (F G : M A) : M A := fun eta hp => (T eta hp).bind fun b h1 => if b then F eta h1 else G eta h1
section
variable {X : Cx} {Wx : WX} {a b c e : Expr} {rest : List Expr} {Fa Fb Fc F : M W} {A B : M Bool} {pos : Pos}
theorem go_asB {K : PySem.W.Frag} {ω : World} {s : S4} {w : W} {v : V} {Q : Bool → Hp → Prop} (R : Rel K ω s) (r : Rw K s w v) (g : Go K ω Wx Ydk s (asB w s.hp) Q) : ∃ k, v = .bl k ∧ Q k s.H := by
 unfold asB at g
 split at g
 ·rename_i k
  simp only [Rw, Rf] at r
  exact ⟨k, r, g k s rfl Ye R rfl⟩
 ·exact g.elim
theorem it_cmp {op : CmpOp} {f : Op2} {r : R2} (ho : OpR X (compareOp op) r) (hf : zcd X.K X.w Wx f r) (ha : IE X Wx a Fa) (hb : IE X Wx b Fb) (hm : behindInMarks op b = false) : IT X Wx (.Compare a [op] [b] pos) (zaj asB (mBin f Fa Fb)) :=
 PT.imp (pt_cmpR ho ha hb hm) fun σ H Q h => by
  have h' : tE X.K X.w Wx (mBin f Fa Fb) σ H (fun x H1 => ∃ k, x = .bl k ∧ Q k H1) := tM.bind1 (R := fun (x : V) (H1 : Hp) => ∃ k, x = .bl k ∧ Q k H1) (k := fun (a : W) _ hp => asB a hp) h fun s eta a b R1 _ f1 g => go_asB R1 f1 g
  exact t_bin hf σ H _ h'
theorem items_at {K : PySem.W.Frag} {ω : World} {s : S4} (R : Rel K ω s) {w : W} {v : V} {ws : List W} (h : items s.hp w = some ws) (r : Rw K s w v) : ∃ p xs, v = .ref p ∧ ((SqL K s.H p xs) ∨ SqT K s.H p xs) ∧ RwL K s ws xs := by
 obtain ⟨p, xs, e, q, l⟩ := items_sq R h r
 exact ⟨p, xs, e, q.symm, l⟩
theorem go_tru {K : PySem.W.Frag} {ω : World} {s : S4} {w : W} {v : V} {Q : Bool → Hp → Prop} (R : Rel K ω s) (r : Rw K s w v) (g : Go K ω Wx Ydk s (truW w s.hp) Q) : ∃ k, TruV K v s.H k ∧ Q k s.H := by
 have fin : ∀ {k : Bool}, Go K ω Wx Ydk s (.ok k s.hp) Q → Q k s.H := fun g => g _ s rfl Ye R rfl
 have seq : (match items s.hp w with | some ws => Res.ok (!ws.isEmpty) s.hp | none => .bad : Res Bool) = truW w s.hp → ∃ k, TruV K v s.H k ∧ Q k s.H := fun e => by
  rw [← e] at g
  cases hi : items s.hp w with
  | none => simp only [hi] at g; exact g.elim
  | some ws =>
   simp only [hi] at g
   obtain ⟨p, xs, ev, q, l⟩ := items_at R hi r
   subst ev
   have em : ws.isEmpty = xs.isEmpty := by
    have := RwL.length l
    cases ws <;> cases xs <;> simp_all
   refine ⟨!ws.isEmpty, ?_, fin g⟩
   rcases q with q | q
   ·exact .inl ⟨xs, q, by rw [em]⟩
   ·exact .inr (.inl ⟨xs, q, by rw [em]⟩)
 cases w with
 | r i => exact seq rfl
 | t x =>
  cases x with
  | non => simp only [Rw, Rf] at r; subst r; exact ⟨false, rfl, fin g⟩
  | bl b => simp only [Rw, Rf] at r; subst r; exact ⟨b, rfl, fin g⟩
  | int i => simp only [Rw, Rf] at r; subst r; exact ⟨_, rfl, fin g⟩
  | str z =>
   simp only [Rw, Rf] at r; subst r
   simp only [truW] at g
   split at g
   ·rename_i hz
    exact ⟨_, ⟨by rw [sizeLine_eq]; exact hz, rfl⟩, fin g⟩
   ·exact g.elim
  | _ => exact seq rfl
theorem it_tru (h : IE X Wx e F) (he : ∀ whole, isTrue e X.env whole = (do let v ← whole; standAt e.pos; holding [v] (truthy v)) := by intro _; rfl) : IT X Wx e (zaj truW F) := by
 refine PT.imp (pt_truth h he) fun σ H Q h => ?_
 exact tM.bind1 (R := fun (x : V) (H1 : Hp) => ∃ k, TruV X.K x H1 k ∧ Q k H1) (k := fun (a : W) _ hp => truW a hp) h fun s eta a b R1 _ f1 g => go_tru R1 f1 g
def IW (X : Cx) (Wx : WX) (e : Expr) (F : M Bool) : Prop := PW X e (tT X.K X.w Wx F)
theorem IW.it (h : IW X Wx e A) : IT X Wx e A := PW.pt h
theorem iw_and1 (ha : IT X Wx a A) : IW X Wx (.BoolOp .And [a] pos) A := pw_and1 ha
theorem iw_or1 (ha : IT X Wx a A) : IW X Wx (.BoolOp .Or [a] pos) A := pw_or1 ha
theorem t_cond {R : Bool → Hp → Prop} {C D : Type} {K : PySem.W.Frag} {ω : World} {Gam : S4 → C → D → Prop} {k : Bool → IS → IH → Res C} {σ : St} {H : Hp} {Q : D → Hp → Prop}
  (h : tM K ω Wx Gam (fun eta hp => (A eta hp).bind fun b h1 => k b eta h1) σ H Q) (n : ∀ (s : S4) (eta : IS) (b : Bool), Rel K ω s → Sl K s eta σ → Go K ω Wx Gam s (k b eta s.hp) Q → R b s.H) : tT K ω Wx A σ H R :=
 tM.bind1 (R := R) h fun s eta a b R1 S1 f1 g => by subst f1; exact n s eta a R1 S1 g
theorem iw_and (ha : IT X Wx a A) (hb : IW X Wx (.BoolOp .And (b :: rest) pos) B) : IW X Wx (.BoolOp .And (a :: b :: rest) pos) (mAnd A B) :=
 PW.imp (pw_and ha hb) fun σ H Q h => t_cond (R := fun c H1 => if c = true then tT X.K X.w Wx B σ H1 Q else Q false H1) (k := fun a eta h1 => if a then B eta h1 else .ok false h1) h fun s eta b R1 S1 g => by
  cases b with
  | true => exact ⟨s, eta, rfl, R1, S1, g⟩
  | false => exact g false s rfl Ye R1 rfl
theorem iw_or (ha : IT X Wx a A) (hb : IW X Wx (.BoolOp .Or (b :: rest) pos) B) : IW X Wx (.BoolOp .Or (a :: b :: rest) pos) (mOr A B) :=
 PW.imp (pw_or ha hb) fun σ H Q h => t_cond (R := fun c H1 => if c = true then Q true H1 else tT X.K X.w Wx B σ H1 Q) (k := fun a eta h1 => if a then .ok true h1 else B eta h1) h fun s eta b R1 S1 g => by
  cases b with
  | true => exact g true s rfl Ye R1 rfl
  | false => exact ⟨s, eta, rfl, R1, S1, g⟩
theorem it_not (ha : IT X Wx a A) : IT X Wx (.UnaryOp .Not a pos) (mNot A) :=
 PT.imp (pt_not ha) fun σ H Q h => t_cond (R := fun c H1 => Q (!c) H1) (k := fun a eta h1 => .ok (!a) h1) h fun s eta b R1 S1 g => g (!b) s rfl Ye R1 rfl
theorem ie_if (hc : IT X Wx c A) (ha : IE X Wx a Fa) (hb : IE X Wx b Fb) : IE X Wx (.IfExp c a b pos) (mIf A Fa Fb) :=
 PE.imp (pe_ifExp hc ha hb) fun σ H Q h => t_cond (R := fun c H1 => if c = true then tE X.K X.w Wx Fa σ H1 Q else tE X.K X.w Wx Fb σ H1 Q) (k := fun b eta h1 => if b then Fa eta h1 else Fb eta h1) h fun s eta b R1 S1 g => by
  cases b with
  | true => exact ⟨s, eta, rfl, R1, S1, g⟩
  | false => exact ⟨s, eta, rfl, R1, S1, g⟩
/-- bools as values: and, or, not (all but the last a bool) -/
def mAndV (Fa Fb : M W) : M W := fun eta hp => (Fa eta hp).bind fun a h1 => match a with | .t (.bl true) => Fb eta h1 | .t (.bl false) => .ok (.t Ybc) h1 | _ => .bad
def mOrV (Fa Fb : M W) : M W := fun eta hp => (Fa eta hp).bind fun a h1 => match a with | .t (.bl true) => .ok (.t Yc9) h1 | .t (.bl false) => Fb eta h1 | _ => .bad
def mNotV (Fa : M W) : M W := fun eta hp => (Fa eta hp).bind fun a h1 => match a with | .t (.bl b) => .ok (.t (.bl (!b))) h1 | _ => .bad
/-- a < b <= c -/
def mChain (f f' : Op2) (Fa Fb Fc : M W) : M W := fun eta hp => (Fa eta hp).bind fun a h1 => (Fb eta h1).bind fun b h2 => (f a b h2).bind fun z h3 => match z with
 | .t (.bl true) => (Fc eta h3).bind fun c h4 => f' b c h4
 | .t (.bl false) => .ok (.t Ybc) h3
 | _ => .bad
end
end Mir
namespace Mir
open PySem PySem.Spec L2
open PyProof.Rows hiding St
inductive Kd where | l | t
def Sq (K : PySem.W.Frag) (H : Hp) : Kd → Addr → List V → Prop
 | .l => SqL K H
 | .t => SqT K H
def IterH (h : Heap) : Kd → Addr → Addr → Nat → Prop
 | .l => h.IsListIter
 | .t => h.IsTupleIter
def SeqH (h : Heap) : Kd → Addr → Array Value → Prop
 | .l => h.IsList
 | .t => h.IsTuple
def iterO (kd : Kd) (a : Addr) : Obj := match kd with
 | .l => { cls := .type "list_iterator", data := .fields #[.ref a, .int 0 0] }
 | .t => { cls := .type "tuple_iterator", data := .fields #[.ref a, .int 0 0] }
section
variable {X : Cx} {pins : List Ycz} {σ : L2.St} {H : Hp} {s : Shared}
theorem Inv_sq (I : Inv X pins σ H s) {kd : Kd} {a : Addr} {xs : List V} (h : Sq X.K H kd a xs) : ∃ its : List Value, Vals xs its ∧ SeqH s.heap kd a its.toArray := by
 cases kd with
 | l => obtain ⟨its, r, p, _⟩ := I.list h; exact ⟨its, r, p.isList⟩
 | t => obtain ⟨its, r, p, _⟩ := I.tuple h; exact ⟨its, r, p⟩
end
theorem SeqH.lt {h : Heap} {kd : Kd} {a : Addr} {its : Array Value} (x : SeqH h kd a its) : a < h.objs.size := by
 cases kd with
 | l => obtain ⟨o, e, _⟩ := x; exact Heap.lt_size e
 | t => obtain ⟨o, e, _⟩ := x; exact Heap.lt_size e
theorem IterH.lt {h : Heap} {kd : Kd} {it a : Addr} {i : Nat} (x : IterH h kd it a i) : it < h.objs.size := by
 cases kd with
 | l => obtain ⟨o, e, _⟩ := x; exact Heap.lt_size e
 | t => obtain ⟨o, e, _⟩ := x; exact Heap.lt_size e
theorem IterH.at_ {h h' : Heap} {kd : Kd} {it a : Addr} {i : Nat} (x : IterH h kd it a i) (k : ∀ o, h.get? it = some o → h'.get? it = some o) : IterH h' kd it a i := by
 cases kd with
 | l => exact Heap.IsListIter.at x k
 | t => exact Heap.IsTupleIter.at x k
theorem IterH.new {h : Heap} {kd : Kd} {it a : Addr} (e : h.get? it = some (iterO kd a)) : IterH h kd it a 0 := by
 cases kd with
 | l => exact ⟨_, e, rfl, rfl⟩
 | t => exact ⟨_, e, rfl, rfl⟩
theorem begins_sq (kd : Kd) (a : Addr) (its : Array Value) : Begins (.ref a) (iterO kd a) fun h => SeqH h kd a its := by
 cases kd with
 | l => exact begins_list a its
 | t => exact begins_tuple a its
def ItQ (K : PySem.W.Frag) (kd : Kd) (a : Addr) : It := match kd with | .l => Itl K a | .t => Itt K a
def iSq (K : PySem.W.Frag) (te : TE) : TI := fun σ H R => te σ H fun x H1 => ∃ kd a xs, x = .ref a ∧ Sq K H1 kd a xs ∧ R (ItQ K kd a) H1
theorem pi_sq {X : Cx} {tg e : Expr} {te : TE} (he : PE X e te) : PI X tg e (iSq X.K te) := ⟨fun pins s σ H R I h => by
 refine thn (he.run pins s σ H _ I h) ?_
 rintro v s1 ⟨x, H1, I1, r1, kd, a, xs, ex, hq, q⟩
 subst ex
 obtain rfl : v = Value.ref a := r1
 obtain ⟨its, rv, p⟩ := Inv_sq I1 hq
 have I2 : Inv X pins σ H1 { s1 with heap := s1.heap.push (iterO kd a) } := I1.kept (t' := s1.toks) fun b o e => Heap.get?_push_of_some _ e
 have fp : ∀ b ∈ [s1.heap.objs.size], FpOk X pins H1 b := fun b hb => by
  obtain rfl : b = s1.heap.objs.size := by simpa using hb
  exact I1.fpOk Ydy (I1.hok.fresh Ydy)
 have hn : IterH (s1.heap.push (iterO kd a)) kd s1.heap.objs.size a 0 := IterH.new (Heap.get?_push_size _ (by cases kd <;> rfl))
 refine (begins_sq kd a its.toArray).iter _ _ _ _ _ _ p ?_
 cases kd with
 | l => exact ⟨s1.heap.objs.size, [s1.heap.objs.size], _, _, H1, rfl, I2, turn_list a _, hn, fp, q⟩
 | t => exact ⟨s1.heap.objs.size, [s1.heap.objs.size], _, _, H1, rfl, I2, turn_tuple a _, hn, fp, q⟩⟩
end Mir
namespace Mir
open PySem PySem.Spec L2
open PyProof.Rows hiding St
inductive Fl where
 | nx (eta : IS) | rt (w : W) | bk (eta : IS) | ct (eta : IS)
inductive FlV where
 | nx (o : St) | rt (v : V) | bk (o : St) | ct (o : St)
def RFl (K : PySem.W.Frag) (s : S4) : Fl → FlV → Prop
 | .nx eta, .nx o => Sl K s eta o
 | .rt w, .rt v => Rw K s w v
 | .bk eta, .bk o => Sl K s eta o
 | .ct eta, .ct o => Sl K s eta o
 | _, _ => False
def endQ (D : Ends) : FlV → Hp → Prop
 | .nx o, H => D.nx o H
 | .rt v, H => D.rt v H
 | .bk o, H => D.bk o H
 | .ct o, H => D.ct o H
abbrev tS (K : PySem.W.Frag) (ω : World) (Wx : WX) (F : M Fl) : TS := fun D σ H => tM K ω Wx (RFl K) F σ H (endQ D)
def ISt (X : Cx) (Wx : WX) (st : Stmt) (F : M Fl) : Prop := PS X st (tS X.K X.w Wx F)
def ISs (X : Cx) (Wx : WX) (st : List Stmt) (F : M Fl) : Prop := PSs X st (tS X.K X.w Wx F)
theorem Res.bind_assoc {A B C : Type} (r : Res A) (k : A → IH → Res B) (k' : B → IH → Res C) : (r.bind k).bind k' = r.bind fun a h => (k a h).bind k' := by cases r <;> rfl
def zcl : M Fl := fun eta hp => .ok Ycc hp
def thenF (B : M Fl) (f : Fl) (hp : IH) : Res Fl := match f with
 | .nx eta => B eta hp
 | f => .ok f hp
def mSeq (A B : M Fl) : M Fl := fun eta hp => (A eta hp).bind (thenF B)
def mRet (F : M W) : M Fl := fun eta hp => (F eta hp).bind fun a h1 => .ok (.rt a) h1
def mRetN : M Fl := fun _ hp => .ok (.rt Yaw) hp
def mDrop (F : M W) : M Fl := fun eta hp => (F eta hp).bind fun _ h1 => .ok Ycc h1
def mBrk : M Fl := fun eta hp => .ok (.bk eta) hp
def mCnt : M Fl := fun eta hp => .ok (.ct eta) hp
section
variable {K : PySem.W.Frag} {ω : World} {Wx : WX} {s : S4} {D : Ends}
theorem Go.nx {eta : IS} {σ : St} (R : Rel K ω s) (S : Sl K s eta σ) (g : Go K ω Wx (RFl K) s (.ok Ycc s.hp) (endQ D)) : D.nx σ s.H := g (.nx σ) s rfl Ye R S
theorem Go.ct {eta : IS} {σ : St} (R : Rel K ω s) (S : Sl K s eta σ) (g : Go K ω Wx (RFl K) s (.ok (.ct eta) s.hp) (endQ D)) : D.ct σ s.H := g (.ct σ) s rfl Ye R S
theorem Go.bk {eta : IS} {σ : St} (R : Rel K ω s) (S : Sl K s eta σ) (g : Go K ω Wx (RFl K) s (.ok (.bk eta) s.hp) (endQ D)) : D.bk σ s.H := g (.bk σ) s rfl Ye R S
theorem Go.rt {w : W} {v : V} (R : Rel K ω s) (S : Rw K s w v) (g : Go K ω Wx (RFl K) s (.ok (.rt w) s.hp) (endQ D)) : D.rt v s.H := g (.rt v) s rfl Ye R S
end
section
variable {X : Cx} {Wx : WX} {st : Stmt} {rest sts sts' : List Stmt} {A B : M Fl} {e : Expr} {F : M W} {T : M Bool} {c : Expr} {pos : Pos}
theorem zcg : ISs X Wx [] zcl := PSs.imp pss_nil fun D σ H h => by
 obtain ⟨s, eta, e1, R1, S1, g⟩ := h
 subst e1
 exact Go.nx R1 S1 g
theorem zah (h1 : ISt X Wx st A) (h2 : ISs X Wx rest B) : ISs X Wx (st :: rest) (mSeq A B) := PSs.imp (pss_cons h1 h2) fun D σ H h => by
 obtain ⟨s, eta, e1, R1, S1, g⟩ := h
 refine ⟨s, eta, e1, R1, S1, Go.bind g fun f fv s' A' R' f' _ g' => ?_⟩
 cases f <;> cases fv <;> first | exact f'.elim | skip
 ·exact ⟨s', _, rfl, R', f', g'⟩
 ·exact Go.rt (D := D) R' f' g'
 ·exact Go.bk (D := D) R' f' g'
 ·exact Go.ct (D := D) R' f' g'
theorem zaq (h1 : ISt X Wx st A) : ISs X Wx [st] A := pss_one h1
theorem za2 (he : IE X Wx e F) : ISt X Wx (.Return (some e) pos) (mRet F) := PS.imp (ps_ret he) fun D σ H h =>
 tM.bind1 (R := fun (x : V) (H1 : Hp) => D.rt x H1) (k := fun (a : W) _ hp => .ok (Fl.rt a) hp) h fun s eta a b R1 _ f1 g => Go.rt R1 f1 g
theorem st_expr (he : IE X Wx e F) (hs : swapsWith e none pos.line X.env = pure false := by rfl) : ISt X Wx (.Expr e pos) (mDrop F) := PS.imp (ps_expr he hs) fun D σ H h =>
 tM.bind1 (R := fun (x : V) (H1 : Hp) => D.nx σ H1) (k := fun (a : W) eta hp => .ok (Fl.nx eta) hp) h fun s eta a b R1 S1 f1 g => Go.nx R1 S1 g
theorem st_if (hc : IT X Wx c T) (ha : ISs X Wx sts A) (hb : ISs X Wx sts' B) : ISt X Wx (.If c sts sts' pos) (mIf T A B) := PS.imp (ps_if hc ha hb) fun D σ H h =>
 t_cond (R := fun (b : Bool) (H1 : Hp) => if b = true then tS X.K X.w Wx A D σ H1 else tS X.K X.w Wx B D σ H1) (k := fun b eta h1 => if b then A eta h1 else B eta h1) h fun s eta b R1 S1 g => by
  cases b with
  | true => exact ⟨s, eta, rfl, R1, S1, g⟩
  | false => exact ⟨s, eta, rfl, R1, S1, g⟩
end
structure TgOk (K : PySem.W.Frag) (ω : World) (g : TG) (G : W → IS → Option IS) (vs : List Nat) : Prop where
 run : ∀ (s : S4) (w : W) (v : V) (eta : IS) (σ : St) (eta' : IS), Rel K ω s → Rw K s w v → Sl K s eta σ → G w eta = some eta' →
  ∃ σ', Sl K s eta' σ' ∧ (∀ us : List Nat, (∀ i ∈ vs, i ∈ us) → wipe σ' us = wipe σ us) ∧ ∀ Q : St → Hp → Prop, Q σ' s.H → g v σ s.H Q
structure TgsOk (K : PySem.W.Frag) (ω : World) (g : TGs) (G : List W → IS → Option IS) (vs : List Nat) : Prop where
 run : ∀ (s : S4) (ws : List W) (xs : List V) (eta : IS) (σ : St) (eta' : IS), Rel K ω s → RwL K s ws xs → Sl K s eta σ → G ws eta = some eta' →
  ∃ σ', Sl K s eta' σ' ∧ (∀ us : List Nat, (∀ i ∈ vs, i ∈ us) → wipe σ' us = wipe σ us) ∧ ∀ Q : St → Hp → Prop, Q σ' s.H → g xs σ s.H Q
def gN (i : Nat) : W → IS → Option IS := fun w eta => some Yed
theorem wipe_get {σ : St} {j : Nat} : ∀ {us : List Nat}, j ∉ us → (wipe σ us)[j]? = σ[j]?
 | [], _ => rfl
 | u :: us, h => by
  simp only [List.mem_cons, not_or] at h
  unfold wipe
  rw [List.getElem?_set_ne (Ne.symm h.1)]
  exact wipe_get h.2
theorem wipe_in {σ : St} {j : Nat} : ∀ {us : List Nat}, j ∈ us → j < σ.length → (wipe σ us)[j]? = some none
 | u :: us, h, hl => by
  unfold wipe
  by_cases e : u = j
  ·subst e
   rw [List.getElem?_set_self (by rw [wipe_length]; exact hl)]
  ·rw [List.getElem?_set_ne e]
   rcases List.mem_cons.mp h with h | h
   ·exact absurd h.symm e
   ·exact wipe_in h hl
theorem wipe_set {σ : St} {i : Nat} {x : Option V} {us : List Nat} (h : i ∈ us) : wipe (σ.set i x) us = wipe σ us := by
 apply List.ext_getElem?
 intro j
 by_cases hj : j ∈ us
 ·by_cases hl : j < σ.length
  ·rw [wipe_in hj Yen, wipe_in hj hl]
  ·rw [List.getElem?_eq_none Yee, List.getElem?_eq_none Yee]
 ·rw [wipe_get hj, wipe_get hj, List.getElem?_set_ne (fun e => hj (by rw [← e]; exact h))]
theorem za8 {K : PySem.W.Frag} {ω : World} (i : Nat) : TgOk K ω (gName i) (gN i) [i] := ⟨fun s w v eta σ eta' R1 r S1 e => by
 simp only [gN, Option.some.injEq] at e
 subst e
 exact ⟨σ.set i (some v), S1.set i r, fun us h => wipe_set (h i Yal), fun Q q => q⟩⟩
def gsN : List W → IS → Option IS := fun ws eta => match ws with | [] => some eta | _ :: _ => none
def gsC (G : W → IS → Option IS) (Gs : List W → IS → Option IS) : List W → IS → Option IS := fun ws eta => match ws with
 | [] => none
 | w :: ws => (G w eta).bind fun eta' => Gs ws eta'
def gT (n : Nat) (Gs : List W → IS → Option IS) : W → IS → Option IS := fun w eta => match w with
 | .t (.tup ts) => if ts.length = n then Gs Yl eta else none
 | .t (.pr ts) => if ts.length = n then Gs Yl eta else none
 | _ => none
theorem tgs_nil {K : PySem.W.Frag} {ω : World} : TgsOk K ω gNil gsN [] := ⟨fun s ws xs eta σ eta' R1 r S1 e => by
 cases ws with
 | nil =>
  simp only [gsN, Option.some.injEq] at e
  subst e
  exact ⟨σ, S1, fun _ _ => rfl, fun Q q => ⟨r, q⟩⟩
 | cons _ _ => simp [gsN] at e⟩
theorem tgs_cons {K : PySem.W.Frag} {ω : World} {g : TG} {gs : TGs} {G : W → IS → Option IS} {Gs : List W → IS → Option IS} {vs us : List Nat} (h1 : TgOk K ω g G vs) (h2 : TgsOk K ω gs Gs us) : TgsOk K ω (gCons g gs) (gsC G Gs) (vs ++ us) := ⟨fun s ws xs eta σ eta' R1 r S1 e => by
 cases ws with
 | nil => simp [gsC] at e
 | cons w ws =>
  simp only [gsC, Option.bind_eq_some_iff] at e
  obtain ⟨eta1, e1, e2⟩ := e
  obtain ⟨v, xr, ex, rv, rr⟩ := r
  obtain ⟨σ1, S2, w1, q1⟩ := h1.run s w v eta σ eta1 R1 rv S1 e1
  obtain ⟨σ2, S3, w2, q2⟩ := h2.run s ws xr eta1 σ1 eta' R1 rr S2 e2
  refine ⟨σ2, S3, fun u hu => ?_, fun Q q => ⟨v, xr, ex, q1 _ (q2 Q q)⟩⟩
  rw [w2 u fun i hi => hu i (List.mem_append_right _ hi), w1 u fun i hi => hu i (List.mem_append_left _ hi)]⟩
theorem tg_tup {K : PySem.W.Frag} {ω : World} {n : Nat} {gs : TGs} {Gs : List W → IS → Option IS} {vs : List Nat} (h : TgsOk K ω gs Gs vs) : TgOk K ω (gTup K n gs) (gT n Gs) vs := ⟨fun s w v eta σ eta' R1 r S1 e => by
 unfold gT at e
 split at e
 ·rename_i ts
  split at e
  ·rename_i hn
   obtain ⟨a, xs, ev, t, l⟩ : ∃ a vs, v = .ref a ∧ FTup K s.fz s.H a vs ∧ RfL K s.fz s.H ts vs := by simpa only [Rw, Rf] using r
   obtain ⟨σ', S2, w2, q2⟩ := h.run s Yl xs eta σ eta' R1 (RwL.of_trees.mpr l) S1 e
   exact ⟨σ', S2, w2, fun Q q => ⟨a, xs, ev, t.sq, by rw [← RfL.length l]; exact hn, q2 Q q⟩⟩
  ·cases e
 ·rename_i ts
  split at e
  ·rename_i hn
   obtain ⟨a, xs, ev, t, l⟩ : ∃ a vs, v = .ref a ∧ FPr s.fz s.H a vs ∧ RfL K s.fz s.H ts vs := by simpa only [Rw, Rf] using r
   obtain ⟨σ', S2, w2, q2⟩ := h.run s Yl xs eta σ eta' R1 (RwL.of_trees.mpr l) S1 e
   exact ⟨σ', S2, w2, fun Q q => ⟨a, xs, ev, t.sq, by rw [← RfL.length l]; exact hn, q2 Q q⟩⟩
  ·cases e
 ·cases e⟩
def mAsg (F : M W) (G : W → IS → Option IS) : M Fl := fun eta hp => (F eta hp).bind fun a h1 => match G a eta with | some e => .ok (.nx e) h1 | none => .bad
def mSet (i : Nat) (F : M W) : M Fl := fun eta hp => (F eta hp).bind fun a h1 => .ok (.nx Yc6) h1
section
variable {X : Cx} {Wx : WX} {e tg : Expr} {F : M W} {pos : Pos} {g : TG} {G : W → IS → Option IS} {vs : List Nat}
theorem za3 (i : Nat) {x : Str} {pos' : Pos} (hN : X.N.Nodup) (he : IE X Wx e F) (hi : X.N[i]? = some x := by rfl) (hx : Loc X.env.scope x := by first | exact Or.inl rfl | exact Or.inr rfl) (hs : swapsWith e (some (.Name x pos')) pos.line X.env = pure false := by rfl) (hf : X.fn x = true ∨ X.env.scope.names.lookup x = some .local := by first | exact .inl rfl | exact .inr rfl | assumption) :
  ISt X Wx (.Assign [.Name x pos'] e pos) (mSet i F) := PS.imp (ps_set hN hi hx he hs hf) fun D σ H h =>
 tM.bind1 (R := fun (y : V) (H1 : Hp) => D.nx (σ.set i (some y)) H1) (k := fun (a : W) eta hp => .ok (Fl.nx Yc6) hp) h fun s eta a b R1 S1 f1 g1 => Go.nx R1 (S1.set i f1) g1
end
/-- a, b = x, y: all sides first -/
def mPar (is : List Nat) (F : M (List W)) : M Fl := fun eta hp => (F eta hp).bind fun ws h1 => if ws.length = is.length then .ok (.nx ((is.zip ws).foldl Yey eta)) h1 else .bad
section
variable {X : Cx} {Wx : WX} {F : M (List W)} {pos : Pos}
theorem st_par2 {i j : Nat} {x y : Str} {a b : Expr} {px py pt : Pos} {kt k2 pt2} (hc : X.calm = true) (hN : X.N.Nodup) (ha : IA X Wx [a, b] F)
  (hw : swappedStores [.Tuple [.Name x px, .Name y py] kt pt] (.Tuple [a, b] k2 pt2) X.env = pure (some [x, y]) := by rfl) (hi : X.N[i]? = some x := by rfl) (hj : X.N[j]? = some y := by rfl) (hij : i ≠ j := by decide)
  (hx : X.env.scope.names.lookup x = some .local := by rfl) (hy : X.env.scope.names.lookup y = some .local := by rfl)
  (hs : swapsWithSole [.Tuple [.Name x px, .Name y py] kt pt] (.Tuple [a, b] k2 pt2) pos.line X.env = pure false := by rfl) :
  ISt X Wx (.Assign [.Tuple [.Name x px, .Name y py] kt pt] (.Tuple [a, b] k2 pt2) pos) (mPar [i, j] F) := PS.imp (ps_par hc hN hi hj hij hx hy ha hw hs) fun D σ H h =>
 tM.bind1 (R := fun (vs : List V) (H1 : Hp) => ∃ v w, vs = [v, w] ∧ D.nx ((σ.set i (some v)).set j (some w)) H1) (k := fun (ws : List W) eta hp => if ws.length = [i, j].length then .ok (Fl.nx (([i, j].zip ws).foldl Yey eta)) hp else .bad) h fun s eta ws vs R1 S1 f1 g1 => by
  match ws, f1, g1 with
  | [w1, w2], ⟨v1, r1, e1, q1, v2, r2, e2, q2, e3⟩, g1 =>
   subst e3 e2 e1
   exact ⟨v1, v2, rfl, Go.nx R1 ((S1.set i q1).set j q2) g1⟩
  | [], _, g1 => exact g1.elim
  | [_], _, g1 => exact g1.elim
  | _ :: _ :: _ :: _, _, g1 =>
   rw [if_neg Yal] at g1
   exact g1.elim
end
/-- x op= e -/
def mAug (i : Nat) (f : Op2) (F : M W) : M Fl := fun eta hp => match eta[i]? with
 | some (some x) => (F eta hp).bind fun y h1 => (f x y h1).bind fun z h2 => .ok (.nx (eta.set i (some z))) h2
 | _ => .bad
def SrcF (K : PySem.W.Frag) (ω : World) (s : S4) (ws : List W) (J : It) : Prop := ∀ s', Aft s s' → Rel K ω s' → ∀ i : Nat,
 (∀ w, ws[i]? = some w → J.go i s'.H ∧ ∀ x H', J.yld i s'.H x H' → ∃ s2 : S4, s2.H = H' ∧ s2.hp = s'.hp ∧ Aft s' s2 ∧ Rel K ω s2 ∧ Rw K s2 w x) ∧ (i = ws.length → J.stop i s'.H)
def II (X : Cx) (Wx : WX) (tg e : Expr) (F : M (List W)) : Prop := PI X tg e (tM X.K X.w Wx (SrcF X.K X.w) F)
def forL (G : W → IS → Option IS) (B : M Fl) : List W → IS → IH → Res Fl
 | [], eta, hp => .ok Ycc hp
 | w :: ws, eta, hp => match G w eta with
  | none => .bad
  | some eta1 => (B eta1 hp).bind fun f h2 => match f with
   | .nx e => forL G B ws e h2
   | .ct e => forL G B ws e h2
   | .bk e => .ok (.nx e) h2
   | .rt w => .ok (.rt w) h2
def mFor (Fi : M (List W)) (G : W → IS → Option IS) (B : M Fl) : M Fl := fun eta hp => (Fi eta hp).bind fun ws h1 => forL G B ws eta h1
section
variable {X : Cx} {Wx : WX} {tg iter : Expr} {Fi : M (List W)} {pos : Pos} {g : TG} {G : W → IS → Option IS} {vs : List Nat} {body : List Stmt} {B : M Fl}
theorem st_for (hp : PassesOwn Yaa X.A X.env X.xe) (hc : X.calm = true) (hi : II X Wx tg iter Fi) (hg : PG X tg g) (ok : TgOk X.K X.w g G vs) (hb : ISs X Wx body B)
  (hs : ∀ x, foldedSetIterable iter X.env x = pure x := by intro _; rfl) : ISt X Wx (.For tg iter body [] pos) (mFor Fi G B) := PS.imp (ps_for hp hc hi hg hb hs) fun D σ H h =>
 tM.bind1 (R := fun (J : It) (H1 : Hp) => ∃ Wv : Nat → Nat → St → Hp → Prop, (∃ m, Wv 0 m σ H1) ∧ ∀ i m σ H, Wv i m σ H →
   (J.stop i H ∧ D.nx σ H) ∨ (J.go i H ∧ ∃ N : St → Hp → Prop, (∀ σ' H', N σ' H' → ∃ m', m' < m ∧ Wv (i + 1) m' σ' H') ∧ ∀ x H', J.yld i H x H' → g x σ H' fun σ2 H2 => tS X.K X.w Wx B { D with nx := N, ct := N, bk := D.nx } σ2 H2))
  (k := fun (ws : List W) eta hp => forL G B ws eta hp) h fun s eta ws J R1 S1 src g1 => by
  refine ⟨fun i m σ H => m = ws.length - i ∧ i ≤ ws.length ∧ ∃ s' eta', s'.H = H ∧ Aft s s' ∧ Rel X.K X.w s' ∧ Sl X.K s' eta' σ ∧ Go X.K X.w Wx (RFl X.K) s' (forL G B (ws.drop i) eta' s'.hp) (endQ D), ⟨ws.length, by simp, Nat.zero_le _, s, eta, rfl, Aft.refl s, R1, S1, by simpa using g1⟩, ?_⟩
  rintro i m σ H ⟨rfl, hi, s', eta', rfl, A1, R2, S2, g2⟩
  obtain ⟨q1, q2⟩ := src s' A1 R2 i
  by_cases hlt : i < ws.length
  ·obtain ⟨go, yl⟩ := q1 ws[i] (List.getElem?_eq_getElem hlt)
   refine .inr ⟨go, fun σ' H' => i + 1 ≤ ws.length ∧ ∃ s2 eta2, s2.H = H' ∧ Aft s s2 ∧ Rel X.K X.w s2 ∧ Sl X.K s2 eta2 σ' ∧ Go X.K X.w Wx (RFl X.K) s2 (forL G B (ws.drop (i + 1)) eta2 s2.hp) (endQ D), fun σ' H' n => ⟨ws.length - (i + 1), by omega, rfl, n⟩, fun x H' y => ?_⟩
   obtain ⟨s3, e3, hp3, A3, R3, rw3⟩ := yl x H' y
   subst e3
   rw [List.drop_eq_getElem_cons hlt] at g2
   simp only [forL] at g2
   cases hG : G ws[i] eta' with
   | none => simp only [hG] at g2; exact g2.elim
   | some eta1 =>
    simp only [hG] at g2
    obtain ⟨σ4, S4', _, q4⟩ := ok.run s3 ws[i] x eta' σ eta1 R3 rw3 (S2.aft A3 R2) hG
    refine q4 _ ⟨s3, eta1, rfl, R3, S4', ?_⟩
    have g3 := Go.aft g2 A3
    rw [← hp3] at g3
    refine Go.bind g3 fun f fv s5 A5 R5 f5 _ g5 => ?_
    cases f <;> cases fv <;> first | exact f5.elim | skip
    ·exact ⟨hlt, s5, _, rfl, (A1.trans A3).trans A5, R5, f5, g5⟩
    ·exact Go.rt (D := D) R5 f5 g5
    ·exact Go.nx (D := D) R5 f5 g5
    ·exact ⟨hlt, s5, _, rfl, (A1.trans A3).trans A5, R5, f5, g5⟩
  ·have e : i = ws.length := by omega
   subst e
   refine .inl ⟨q2 rfl, ?_⟩
   rw [List.drop_length] at g2
   exact Go.nx R2 S2 g2
end
def zcm (T : M Bool) (B : M Fl) : Nat → IS → IH → Res Fl
 | 0, _, _ => .bad
 | n + 1, eta, hp => (T eta hp).bind fun b h1 => if b then (B eta h1).bind fun f h2 => match f with
   | .nx e => zcm T B n e h2
   | .ct e => zcm T B n e h2
   | .bk e => .ok (.nx e) h2
   | .rt w => .ok (.rt w) h2
  else .ok Ycc h1
def mWhile (n : Nat) (T : M Bool) (B : M Fl) : M Fl := fun eta hp => zcm T B n eta hp
section
variable {X : Cx} {Wx : WX} {c : Expr} {T : M Bool} {pos : Pos} {body : List Stmt} {B : M Fl}
theorem st_while (n : Nat) (hp : PassesOwn Yaa X.A X.env X.xe) (hc : IT X Wx c T) (hb : ISs X Wx body B) : ISt X Wx (.While c body [] pos) (mWhile n T B) := PS.imp (ps_while hp hc hb) fun D σ H h => by
 obtain ⟨s, eta, e1, R1, S1, g⟩ := h
 refine ⟨fun m σ H => ∃ s' eta', s'.H = H ∧ Rel X.K X.w s' ∧ Sl X.K s' eta' σ ∧ Go X.K X.w Wx (RFl X.K) s' (zcm T B m eta' s'.hp) (endQ D), ⟨n, s, eta, e1, R1, S1, g⟩, ?_⟩
 rintro m σ H ⟨s', eta', rfl, R2, S2, g2⟩
 cases m with
 | zero => exact g2.elim
 | succ m =>
  simp only [zcm] at g2
  refine ⟨s', eta', rfl, R2, S2, Go.bind g2 fun b bv s3 A3 R3 f3 _ g3 => ?_⟩
  subst f3
  cases b with
  | false => exact Go.nx R3 (S2.aft A3 R2) g3
  | true =>
   simp only [if_true] at g3
   refine ⟨fun σ' H' => ∃ s' eta', s'.H = H' ∧ Rel X.K X.w s' ∧ Sl X.K s' eta' σ' ∧ Go X.K X.w Wx (RFl X.K) s' (zcm T B m eta' s'.hp) (endQ D), fun σ' H' n => ⟨m, Nat.lt_succ_self m, n⟩, ?_⟩
   refine ⟨s3, eta', rfl, R3, S2.aft A3 R2, Go.bind g3 fun f fv s5 A5 R5 f5 _ g5 => ?_⟩
   cases f <;> cases fv <;> first | exact f5.elim | skip
   ·exact ⟨s5, _, rfl, R5, f5, g5⟩
   ·exact Go.rt (D := D) R5 f5 g5
   ·exact Go.nx (D := D) R5 f5 g5
   ·exact ⟨s5, _, rfl, R5, f5, g5⟩
end
def W0 : WX := fun _ _ _ _ => False
def noEr {A : Type} (r : Res A) : Res A := match r with
 | .er _ _ _ => .bad
 | r => r
theorem noEr_bind {A B : Type} (r : Res A) (k : A → IH → Res B) : noEr (r.bind k) = (noEr r).bind fun a h => noEr (k a h) := by cases r <;> rfl
theorem Go.noEr {A B : Type} {K : PySem.W.Frag} {ω : World} {Wx Wx' : WX} {Fam : S4 → A → B → Prop} {s : S4} {r : Res A} {Q : B → Hp → Prop} (g : Go K ω Wx Fam s (noEr r) Q) : Go K ω Wx' Fam s r Q := by
 cases r with
 | ok a h => exact g
 | er e eta h => exact g.elim
 | bad => exact g
def turnL (G : W → IS → Option IS) (T : M Bool) (E : M W) (eta : IS) (w : W) (hp : IH) : Res (Option W) := match G w eta with
 | none => .bad
 | some eta1 => (T eta1 hp).bind fun b h1 => if b then (E eta1 h1).bind fun y h2 => .ok (some y) h2 else .ok none h1
def zbv (G : W → IS → Option IS) (T : M Bool) (E : M W) (eta : IS) : List W → IH → Res (List W)
 | [], hp => .ok [] hp
 | w :: ws, hp => (noEr (turnL G T E eta w hp)).bind fun o h1 => (zbv G T E eta ws h1).bind fun r h2 => .ok (match o with | some y => y :: r | none => r) h2
def wipeI (eta : IS) (vs : List Nat) : IS := vs.foldr (fun v e => e.set v none) eta
/-- fin: zak (a tree), newL (a live list) -/
def zb1 (fin : OpN) (Fi : M (List W)) (G : W → IS → Option IS) (T : M Bool) (E : M W) (vs : List Nat) : M W := fun eta hp => (Fi eta hp).bind fun ws h1 => if ws.length ≤ 16777216 then (zbv G T E (wipeI eta vs) ws h1).bind fun r h2 => fin r h2 else .bad
/-- an untracked-by-us object is changed (a comprehension's list while it is made) -/
def S4.setD (s : S4) (D : Addr) (o : HO) : S4 := ⟨s.rho, s.fz, s.hp, upd s.H D o⟩
section
variable {K : PySem.W.Frag} {ω : World}
mutual
theorem Rf.congr {fz fz' : Addr → Prop} {H H' : Hp} (hf : ∀ a, fz a → fz' a) (k : ∀ a, fz a → H' a = H a) : ∀ (x : T) (v : V), Rf K fz H x v → Rf K fz' H' x v
 | .non, _, h => by simpa [Rf] using h
 | .bl _, _, h => by simpa [Rf] using h
 | .int _, _, h => by simpa [Rf] using h
 | .str _, _, h => by simpa [Rf] using h
 | .ty _, _, h => by simpa [Rf] using h
 | .cls _, _, h => by simpa [Rf] using h
 | .exc _ _ _, _, h => by simp [Rf] at h
 | .tup xs, v, h => by
  simp only [Rf] at h ⊢
  obtain ⟨a, vs, e, t, l⟩ := h
  refine ⟨a, vs, e, ?_, RfL.congr hf k xs vs l⟩
  rcases t with ⟨f, o, t, d⟩ | t
  ·exact .inl ⟨hf a f, o, (k a f).trans t, d⟩
  ·exact .inr t
 | .pr xs, v, h => by
  simp only [Rf] at h ⊢
  obtain ⟨a, vs, e, t, l⟩ := h
  exact ⟨a, vs, e, ⟨hf a t.1, (k a t.1).trans t.2⟩, RfL.congr hf k xs vs l⟩
 | .dit ks xs, v, h => by
  simp only [Rf] at h ⊢
  obtain ⟨a, vs, e, t, n, l⟩ := h
  exact ⟨a, vs, e, ⟨hf a t.1, (k a t.1).trans t.2⟩, n, RfL.congr hf k xs vs l⟩
 | .lst xs, v, h => by
  simp only [Rf] at h ⊢
  obtain ⟨a, vs, e, t, l⟩ := h
  exact ⟨a, vs, e, ⟨hf a t.1, (k a t.1).trans t.2⟩, RfL.congr hf k xs vs l⟩
 | .scr xs, v, h => by
  simp only [Rf] at h ⊢
  obtain ⟨a, vs, e, t, l⟩ := h
  exact ⟨a, vs, e, t.imp (fun t => ⟨hf a t.1, let ⟨o, u⟩ := t.2; ⟨o, (k a t.1).trans u⟩⟩) id, RfL.congr hf k xs vs l⟩
 | .dic ks xs, v, h => by
  simp only [Rf] at h ⊢
  obtain ⟨a, vs, e, t, n, l⟩ := h
  exact ⟨a, vs, e, ⟨hf a t.1, let ⟨o, u⟩ := t.2; ⟨o, (k a t.1).trans u⟩⟩, n, RfL.congr hf k xs vs l⟩
 | .ins c ns xs, v, h => by
  simp only [Rf] at h ⊢
  obtain ⟨a, C, vs, e, cn, t, n, l⟩ := h
  exact ⟨a, C, vs, e, cn, ⟨hf a t.1, let ⟨o, u⟩ := t.2; ⟨o, (k a t.1).trans u⟩⟩, n, RfL.congr hf k xs vs l⟩
theorem RfL.congr {fz fz' : Addr → Prop} {H H' : Hp} (hf : ∀ a, fz a → fz' a) (k : ∀ a, fz a → H' a = H a) : ∀ (xs : List T) (vs : List V), RfL K fz H xs vs → RfL K fz' H' xs vs
 | [], _, h => by simpa [RfL] using h
 | x :: xs, vs, h => by
  simp only [RfL] at h ⊢
  obtain ⟨v, r, e, a, b⟩ := h
  exact ⟨v, r, e, Rf.congr hf k x v a, RfL.congr hf k xs r b⟩
end
theorem Rw.congr {s s' : S4} (hr : s'.rho = s.rho) (hf : ∀ a, s.fz a → s'.fz a) (k : ∀ a, s.fz a → s'.H a = s.H a) {w : W} {v : V} (h : Rw K s w v) : Rw K s' w v := by
 cases w with
 | t x => exact Rf.congr hf k x v h
 | r i => obtain ⟨a, e1, e2⟩ := h; exact ⟨a, by rw [hr]; exact e1, e2⟩
theorem RwL.congr {s s' : S4} (hr : s'.rho = s.rho) (hf : ∀ a, s.fz a → s'.fz a) (k : ∀ a, s.fz a → s'.H a = s.H a) : ∀ {ws : List W} {vs : List V}, RwL K s ws vs → RwL K s' ws vs
 | [], _, h => h
 | x :: xs, vs, h => by
  obtain ⟨v, r, e, a, b⟩ := h
  exact ⟨v, r, e, a.congr hr hf k, RwL.congr hr hf k b⟩
theorem RwK.congr {s s' : S4} (hr : s'.rho = s.rho) (hf : ∀ a, s.fz a → s'.fz a) (k : ∀ a, s.fz a → s'.H a = s.H a) : ∀ {ws : List (Key × W)} {vs : List (Key × V)}, RwK K s ws vs → RwK K s' ws vs
 | [], _, h => h
 | x :: xs, vs, h => by
  obtain ⟨v, r, e, a, b⟩ := h
  exact ⟨v, r, e, a.congr hr hf k, RwK.congr hr hf k b⟩
theorem RwF.congr {s s' : S4} (hr : s'.rho = s.rho) (hf : ∀ a, s.fz a → s'.fz a) (k : ∀ a, s.fz a → s'.H a = s.H a) : ∀ {ws : List (Str × W)} {vs : List (Str × V)}, RwF K s ws vs → RwF K s' ws vs
 | [], _, h => h
 | x :: xs, vs, h => by
  obtain ⟨v, r, e, a, b⟩ := h
  exact ⟨v, r, e, a.congr hr hf k, RwF.congr hr hf k b⟩
theorem RwD.congr {s s' : S4} (hr : s'.rho = s.rho) (hf : ∀ a, s.fz a → s'.fz a) (k : ∀ a, s.fz a → s'.H a = s.H a) : ∀ {ws : List (T × W)} {vs : List (NestedKey × Addr × V)}, RwD K s ws vs → RwD K s' ws vs
 | [], _, h => h
 | x :: xs, vs, h => by
  obtain ⟨q, b, v, r, e, h1, h2, h3, h4, h5⟩ := h
  exact ⟨q, b, v, r, e, h1, h2, Rf.congr hf k _ _ h3, h4.congr hr hf k, RwD.congr hr hf k h5⟩
theorem CellOk.congr {s s' : S4} (hr : s'.rho = s.rho) (hf : ∀ a, s.fz a → s'.fz a) (k : ∀ a, s.fz a → s'.H a = s.H a) {a : Addr} {c : Cell} {o : Option HO} (h : CellOk K ω s a c o) : CellOk K ω s' a c o := by
 cases c with
 | lst ws => obtain ⟨vs, e, l⟩ := h; exact ⟨vs, e, l.congr hr hf k⟩
 | dic kvs => obtain ⟨vs, e, l⟩ := h; exact ⟨vs, e, l.congr hr hf k⟩
 | ins c fs => obtain ⟨C, dx, vs, e, cn, l⟩ := h; exact ⟨C, dx, vs, e, cn, l.congr hr hf k⟩
 | dit kvs => obtain ⟨vs, e, l⟩ := h; exact ⟨vs, e, l.congr hr hf k⟩
 | tpl ws => obtain ⟨ob, vs, e, d, l⟩ := h; exact ⟨ob, vs, e, d, l.congr hr hf k⟩
 | dil kvs => obtain ⟨ob, vs, e, l⟩ := h; exact ⟨ob, vs, e, l.congr hr hf k⟩
variable {s s' : S4} {D : Addr} {o : HO}
theorem setD_k (nf : ¬ s.fz D) : ∀ a, s.fz a → (s.setD D o).H a = s.H a := fun a f => upd_ne fun z => nf (z ▸ f)
theorem rel_setD (R : Rel K ω s) (nr : D ∉ s.rho) (nf : ¬ s.fz D) : Rel K ω (s.setD D o) := by
 have tr : ∀ a, s.H a ≠ none → (s.setD D o).H a ≠ none := fun a h => by
  show upd s.H D o a ≠ none
  by_cases q : a = D
  ·rw [q, upd_same]; intro z; cases z
  ·rw [upd_ne q]; exact h
 refine ⟨R.len, R.nd, fun a m => tr a (R.trk a m), fun a f => tr a (R.ftrk a f), R.fz, fun i c a e1 e2 => ?_⟩
 have ne : a ≠ D := fun z => nr (z ▸ List.mem_of_getElem? e2)
 show CellOk K ω (s.setD D o) a c (upd s.H D o a)
 rw [upd_ne ne]
 exact CellOk.congr (s := s) (s' := s.setD D o) rfl (fun _ f => f) (setD_k nf) (R.cell i c a e1 e2)
/-- what is known of D stays behind a run -/
theorem Aft.away (A : Aft s s') (h : s.H D = some o) (nr : D ∉ s.rho) (nf : ¬ s.fz D) : s'.H D = some o ∧ D ∉ s'.rho ∧ ¬ s'.fz D := by
 have nl : ¬ Live s D := fun ⟨i, c, _, e⟩ => nr (List.mem_of_getElem? e)
 refine ⟨A.keep D o h nl, fun m => ?_, fun f => ?_⟩
 ·obtain ⟨ex, e, n⟩ := A.pre
  rw [e] at m
  rcases List.mem_append.mp m with m | m
  ·exact nr m
  ·rw [n D m] at h; cases h
 ·rcases A.fnew D f with f | f | f
  ·exact nf f
  ·rw [f] at h; cases h
  ·exact nl f
theorem Aft.setD {s0 : S4} (A : Aft s0 s) (h0 : s0.H D = none) {o' : HO} : Aft s0 (s.setD D o') := by
 refine ⟨A.pre, A.fz, fun a u e nl => ?_, A.fnew, A.live, fun a h => ?_⟩
 ·show upd s.H D o' a = some u
  rw [upd_ne (ne_of_none e h0)]; exact A.keep a u e nl
 ·show upd s.H D o' a ≠ none
  by_cases q : a = D
  ·rw [q, upd_same]; intro z; cases z
  ·rw [upd_ne q]; exact A.trk a h
theorem Go.bind0 {Wx : WX} {A B C E : Type} {Fam : S4 → A → B → Prop} {Gam : S4 → C → E → Prop} {s0 s : S4} {r : Res A} {k : A → IH → Res C} {Q : E → Hp → Prop} {R : B → Hp → Prop} (g : Go K ω Wx Gam s0 (r.bind k) Q) (A0 : Aft s0 s)
  (h : ∀ a b s', Aft s s' → Rel K ω s' → Fam s' a b → Go K ω Wx Gam s0 (k a s'.hp) Q → R b s'.H) : Go K ω Wx Fam s r R := by
 cases r with
 | ok x hp =>
  intro b s2 h1 h2 h3 h4
  subst h1
  exact h x b s2 h2 h3 h4 g
 | er e eta hp => exact Go.aft (Fam := Fam) (r := .er e eta hp) (Q := R) (show Go K ω Wx Fam s0 (.er e eta hp) R from g) A0
 | bad => exact g
end
/-- what the end of a comprehension asks: the list at D is handed on -/
def FinOk (K : PySem.W.Frag) (ω : World) (Wx : WX) (fin : OpN) : Prop := ∀ (s0 s : S4) (ws : List W) (vs : List V) (D : Addr) (Q : VK), Aft s0 s → Rel K ω s → s0.H D = none → D ∉ s.rho → ¬ s.fz D → s.H D = some (.lst vs) → RwL K s ws vs → Go K ω Wx (Rw K) s0 (fin ws s.hp) Q →
 Q (.ref D) s.H
theorem zbk {K : PySem.W.Frag} {ω : World} {Wx : WX} : FinOk K ω Wx zak := by
 intro s0 s ws vs D Q A R h0 nr nf hD l g
 unfold zak at g
 split at g
 ·rename_i ts ht
  split at g
  ·rename_i hz
   rw [zbh ht] at l
   have R2 : Rel K ω ⟨s.rho, fun a => s.fz a ∨ a = D, s.hp, s.H⟩ := by
    refine ⟨R.len, R.nd, R.trk, fun a f => ?_, fun a l f => ?_, fun i c a e1 e2 => CellOk.congr (s := s) (s' := ⟨s.rho, fun a => s.fz a ∨ a = D, s.hp, s.H⟩) rfl (fun _ f => Or.inl f) Ycx (R.cell i c a e1 e2)⟩
    ·rcases f with f | f
     ·exact R.ftrk a f
     ·rw [f, hD]; intro z; cases z
    ·rcases f with f | f
     ·exact R.fz a l f
     ·obtain ⟨i, c, _, e⟩ := l
      exact nr (f ▸ List.mem_of_getElem? e)
   refine g (.ref D) ⟨s.rho, fun a => s.fz a ∨ a = D, s.hp, s.H⟩ rfl ⟨A.pre, fun a f => .inl (A.fz a f), A.keep, fun a f => ?_, A.live, A.trk⟩ R2 ?_
   ·rcases f with f | f
    ·exact A.fnew a f
    ·exact .inr (.inl (by rw [f]; exact h0))
   ·simp only [Rw, Rf]
    exact ⟨D, vs, rfl, ⟨.inr rfl, hD⟩, RfL.congr (fun _ f => .inl f) Ycx _ _ Ycr⟩
  ·exact g.elim
 ·exact g.elim
section
variable {X : Cx} {Wx : WX} {elt tg iter : Expr} {Fi : M (List W)} {pos : Pos} {g : TG} {G : W → IS → Option IS} {vs : List Nat} {T : M Bool} {E : M W} {fin : OpN} {own : List (Str × Nat)}
theorem t_comp (us : List Nat) (ok : TgOk X.K X.w g G vs) (hv : ∀ i ∈ vs, i ∈ us) (hf : FinOk X.K X.w Wx fin) : ∀ σ H Q, tE X.K X.w Wx (zb1 fin Fi G T E us) σ H Q →
  tLc (tM X.K X.w Wx (SrcF X.K X.w) Fi) g (tT X.K X.w W0 T) (tE X.K X.w W0 E) us σ H Q := fun σ H Q h =>
 tM.bind1 (R := fun (J : It) (H1 : Hp) => ∀ D, H1 D = none → ∃ Wv : Nat → Nat → Hp → Prop, (∃ m, Wv 0 m (upd H1 D (.lst []))) ∧ ∀ i m H, Wv i m H →
   (J.stop i H ∧ Q (.ref D) H) ∨ (J.go i H ∧ ∃ Nx : Hp → Prop, (∀ H', Nx H' → ∃ m', m' < m ∧ Wv (i + 1) m' H') ∧ ∀ x H', J.yld i H x H' → g x (wipe σ us) H' fun σ2 H2 => wipe σ2 us = wipe σ us ∧ tT X.K X.w W0 T σ2 H2 fun b H3 =>
    if b = true then tE X.K X.w W0 E σ2 H3 fun y H4 => ∃ acc, H4 D = some (.lst acc) ∧ acc.length < sizeLine ∧ Nx (upd H4 D (.lst (acc ++ [y]))) else Nx H3))
  (k := fun (ws : List W) eta hp => if ws.length ≤ 16777216 then (zbv G T E (wipeI eta us) ws hp).bind fun r h2 => fin r h2 else .bad) h fun s0 eta ws J R0 S0 src g0 D hD => by
  split at g0
  ·rename_i hz
   have hz' : ws.length ≤ sizeLine := by rw [sizeLine_eq]; exact hz
   have hw : Sl X.K s0 (wipeI eta us) (wipe σ us) := S0.wipe us
   refine ⟨fun i m H => m = ws.length - i ∧ i ≤ ws.length ∧ ∃ (s : S4) (acc : List W) (xs : List V), s.H = H ∧ Aft s0 s ∧ Rel X.K X.w s ∧ D ∉ s.rho ∧ ¬ s.fz D ∧ s.H D = some (.lst xs) ∧ RwL X.K s acc xs ∧ acc.length ≤ i ∧
     Go X.K X.w Wx (Rw X.K) s0 ((zbv G T E (wipeI eta us) (ws.drop i) s.hp).bind fun r h => fin (acc ++ r) h) Q, ⟨ws.length, by simp, Nat.zero_le _, s0.setD D (.lst []), [], [], rfl, (Aft.refl s0).setD hD, rel_setD R0 (R0.fresh hD).1 (R0.fresh hD).2, (R0.fresh hD).1, (R0.fresh hD).2, upd_same, rfl, Nat.le_refl _, g0⟩, ?_⟩
   rintro i m H ⟨rfl, hi, s, acc, xs, rfl, A1, R1, nr, nf, hDx, l1, hl1, g1⟩
   obtain ⟨q1, q2⟩ := src s A1 R1 i
   by_cases hlt : i < ws.length
   ·obtain ⟨go, yl⟩ := q1 ws[i] (List.getElem?_eq_getElem hlt)
    refine .inr ⟨go, fun H' => i + 1 ≤ ws.length ∧ ∃ (s : S4) (acc : List W) (xs : List V), s.H = H' ∧ Aft s0 s ∧ Rel X.K X.w s ∧ D ∉ s.rho ∧ ¬ s.fz D ∧ s.H D = some (.lst xs) ∧ RwL X.K s acc xs ∧ acc.length ≤ i + 1 ∧
     Go X.K X.w Wx (Rw X.K) s0 ((zbv G T E (wipeI eta us) (ws.drop (i + 1)) s.hp).bind fun r h => fin (acc ++ r) h) Q, fun H' n => ⟨ws.length - (i + 1), by omega, rfl, n⟩, fun x H' y => ?_⟩
    obtain ⟨s3, e3, hp3, A3, R3, rw3⟩ := yl x H' y
    subst e3
    obtain ⟨hD3, nr3, nf3⟩ := A3.away hDx nr nf
    have l3 := RwL.aft A3 R1 _ _ l1
    have A03 := A1.trans A3
    rw [List.drop_eq_getElem_cons hlt] at g1
    rw [← hp3] at g1
    simp only [zbv, Res.bind_assoc, turnL] at g1
    cases hG : G ws[i] (wipeI eta us) with
    | none => simp only [hG, noEr] at g1; exact g1.elim
    | some eta1 =>
     simp only [hG, noEr_bind, Res.bind_assoc] at g1
     obtain ⟨σ2, S2, w2, q4⟩ := ok.run s3 ws[i] x (wipeI eta us) (wipe σ us) eta1 R3 rw3 ((hw.aft A03 R0)) hG
     have wi : wipe (wipe σ us) us = wipe σ us := by
      apply List.ext_getElem?
      intro j
      by_cases hj : j ∈ us
      ·by_cases hl : j < σ.length
       ·rw [wipe_in hj (by rw [wipe_length]; exact hl), wipe_in hj hl]
       ·rw [List.getElem?_eq_none (by rw [wipe_length, wipe_length]; simpa using hl), List.getElem?_eq_none Yee]
      ·rw [wipe_get hj]
     refine q4 _ ⟨(w2 us hv).trans wi, s3, eta1, rfl, R3, S2, Go.noEr (Go.bind0 g1 A03 fun b bv s4 A4 R4 f4 g4 => ?_)⟩
     subst f4
     obtain ⟨hD4, nr4, nf4⟩ := A4.away hD3 nr3 nf3
     have l4 := RwL.aft A4 R3 _ _ l3
     have A04 := A03.trans A4
     cases b with
     | false =>
      simp only [Bool.false_eq_true, if_false, noEr, Res.bind] at g4
      rw [if_neg Bool.false_ne_true]
      exact ⟨hlt, s4, acc, xs, rfl, A04, R4, nr4, nf4, hD4, l4, by omega, g4⟩
     | true =>
      simp only [if_true, noEr_bind, Res.bind_assoc] at g4
      rw [if_pos rfl]
      refine ⟨s4, eta1, rfl, R4, S2.aft A4 R3, Go.noEr (Go.bind0 g4 A04 fun yw yv s5 A5 R5 f5 g5 => ?_)⟩
      obtain ⟨hD5, nr5, nf5⟩ := A5.away hD4 nr4 nf4
      have l5 := RwL.aft A5 R4 _ _ l4
      have A05 := A04.trans A5
      refine ⟨xs, hD5, by rw [← RwL.length l5]; omega, hlt, s5.setD D (.lst (xs ++ [yv])), acc ++ [yw], xs ++ [yv], rfl, A05.setD hD, rel_setD R5 nr5 nf5, nr5, nf5, upd_same, ?_, by simp; omega, ?_⟩
      ·exact RwL.append (RwL.congr (s := s5) (s' := s5.setD D _) rfl (fun _ f => f) (setD_k nf5) l5) ⟨yv, [], rfl, Rw.congr (s := s5) (s' := s5.setD D _) rfl (fun _ f => f) (setD_k nf5) f5, rfl⟩
      ·simp only [noEr, Res.bind] at g5
       have e : ∀ (r : Res (List W)), (r.bind fun r h2 => (Res.ok (yw :: r) h2).bind fun r h => fin (acc ++ r) h) = (r.bind fun r h => fin ((acc ++ [yw]) ++ r) h) := fun r => by cases r <;> simp [Res.bind]
       have e2 := e (zbv G T E (wipeI eta us) (ws.drop (i + 1)) s5.hp)
       exact e2 ▸ g5
   ·have e : i = ws.length := by omega
    subst e
    refine .inl ⟨q2 rfl, ?_⟩
    rw [List.drop_length] at g1
    simp only [zbv, Res.bind, List.append_nil] at g1
    exact hf s0 s acc xs D Q A1 R1 hD nr nf hDx l1 g1
  ·exact g0.elim
end
end Mir
namespace Mir
open PySem PySem.Spec L2
open PyProof.Rows hiding St
structure FnG (P : Program) (w : World) (K : PySem.W.Frag) (mg : Str → Option Value) (base : Heap) (CX : CXT) (k : Nat) (f : Addr) (fd : FuncData) (ps : List Str) (sp : Sp) : Prop where
 len : ∀ vs H Q E, sp vs H Q E → vs.length = ps.length
 run : ∀ (A : Around) (outer : List Env) (s : Shared) (H : Hp) (args : Args) (us : List Value) (vs : List V) (Q : VK) (E : XK), Room k A → A.guards = some [] → Env0 P w K mg base A outer s H → BindsTo s fd args (ps.zip us) → Vals vs us →
  sp vs H Q E → codeAny (model P w) A (.call (.ref f) args) (CR CX outer P w H s Q E) s
section
variable {P : Program} {w : World} {K : PySem.W.Frag} {mg : Str → Option Value} {base : Heap} {CX : CXT} {f : Addr} {fd : FuncData} {ps : List Str} {sp : Sp}
theorem FnG.mono {j k : Nat} (F : FnG P w K mg base CX j f fd ps sp) (h : j ≤ k) : FnG P w K mg base CX k f fd ps sp :=
 ⟨F.len, fun A outer s H args us vs Q E hr hg => F.run A outer s H args us vs Q E (hr.mono h) hg⟩
/-- a def by its body -/
theorem Fun.okG {k : Nat} {x qual : Str} {st : Stmt} {N : List Str} {dvs : List V} {kws : List Ydn} (F : FunD K x qual (defArgs st) Yeu Yau dvs kws f fd) (S : FnScope N ps Yau) (len : ∀ vs H Q E, sp vs H Q E → vs.length = ps.length)
  (hb : ∀ (cdv : Value) (A : Around) (outer : List Env) (s : Shared) (H : Hp) (vs : List V) (Q : VK) (E : XK), Room k Yap → A.guards = some [] → sp vs H Q E →
   ∃ t, PSs Yck Yeu t ∧ t { nx := fun _ H' => Q .non H', rt := Q } (L2.start N vs) H) : FnG P w K mg base CX (k + 1) f fd ps sp := by
 obtain ⟨oc, od, dV, kV, doc, pm, an, cdv, ct, osl, rfl, lk, hcd, _, _⟩ := F.ex
 refine ⟨len, fun A outer s H args us vs Q E hr hgd e0 hbd r hsp => ?_⟩
 have hl := len _ _ _ _ hsp
 have keep : ∀ b o, base.get? b = some o → s.heap.get? b = some o := fun b o e => (e0.bs b o e).1
 have KX : K.In s.heap := e0.mod.kin.keeps keep
 have bound : ∀ y ∈ ps.zip us, (defScope st).names.lookup y.1 = some .local ∨ ((defScope st).names.lookup y.1 = some .cell ∧ ((cellsFrom Yax (defScope st).names []).lookup y.1).isSome = true) := by
  rintro ⟨n, v⟩ hy
  refine (S.par n (List.of_mem_zip hy).1).imp id fun q => ⟨q, ?_⟩
  exact PySem.W.cellsFrom_some _ _ _ (.inl q)
 refine codeAny_call_function hr.depth (KX _ _ lk) rfl S.co S.gen rfl (PySem.W.codeRec_of KX hcd) (hbd _ _ _ _ ?_)
 refine wpAny_newFunctionEnv_cells S.kind bound ?_
 rintro env rfl s1 x
 refine ⟨(e0.mod.nolimit.keeps keep).keeps x.toInCall.keep, codeAny_func ?_⟩
 obtain ⟨t, ht, hq⟩ := hb cdv A outer s H vs Q E (hr.deeper _) hgd hsp
 have I := inv_start (CX := CX) (N := N) (E := E) S hr.hd e0 hl r x
 refine wpAny_mono (ht.run [] s1 (L2.start N vs) H _ I hq) ?_ fun e s' hs => hs
 have fin : ∀ {s' : Shared} {σ' : L2.St} {H' : Hp} {v : V} {u : Value}, Inv Yck [] σ' H' s' → RelV v u → Q v H' → CE outer P w H s Q u s' :=
  fun {s' σ' H' v u} J rv q => ⟨v, H', J.os, J.bare, J.base, J.hok, rv, q⟩
 intro fl s' hs
 cases fl with
 | ret u => obtain ⟨v, σ', H', J, rv, q⟩ := hs; exact fin J rv q
 | next => obtain ⟨σ', H', J, q⟩ := hs; exact fin (v := V.non) (u := Value.none) J rfl q
 | brk => obtain ⟨_, _, _, q⟩ := hs; exact q.elim
 | cont => obtain ⟨_, _, _, q⟩ := hs; exact q.elim
end
section
variable {X : Cx} {CX : CXT} {k : Nat} {f C : Addr} {fd : FuncData} {ps : List Str} {sp : Sp} {dvs : List V} {ds : List Value} {E : XK} {x m : Str} {p pos apos : Pos} {e o : Expr} {es : List Expr} {ta : TE} {t : TA}
theorem runG {pins : List Ycz} {σ : L2.St} {H : Hp} {s : Shared} {Q : VK} {us : List Value} {vs : List V} (F : FnG X.prog X.w X.K X.mg X.base CX k f fd ps sp) (hr : Room k X.A) (hgd : X.A.guards = some []) (hb : Binds X.K fd ps ds) (hd : Vals dvs ds) (hx : Passes CX X E)
  (I : Inv X pins σ H s) (r : Vals vs us) (h : sp (vs ++ dvs) H Q E) : wpAny Yaa X.A (call (.ref f) us) (EP X pins σ Q) X.xe s := by
 have r2 := r.append hd
 have hl : (us ++ ds).length = ps.length := r2.length.symm.trans (F.len _ _ _ _ h)
 refine wpAny_call (codeAny_mono (F.run X.A X.stack s H ⟨us, []⟩ (us ++ ds) (vs ++ dvs) Q E hr hgd I.env0 (hb s us I.kIn hl) r2 h) ?_)
 rintro (e | fl) s' hq
 ·exact hx pins σ H s e s' I hq
 ·cases fl <;> first | exact I.after hq | exact (show False from hq).elim
theorem pe_callG (F : FnG X.prog X.w X.K X.mg X.base CX k f fd ps sp) (hr : Room k X.A) (hgd : X.A.guards = some []) (hg : Gl X x) (hm : X.mg x = some (.ref f)) (hk : PySem.W.keepIn X.K (.ref f) = true) (hb : Binds X.K fd ps ds) (hd : Vals dvs ds) (hx : Passes CX X E)
  (ha : PA X Ybi t) (hdb : (x == ("__debug__" : Str)) = false := by decide) (he : starEach Ybi X.env = (false, eval e X.env) :: starEach es X.env := by rfl) (hpl : (backTo pos Ybe).any (·.1) = false := by rfl) :
  PE X Y8 (tCall sp dvs E t) := ⟨fun pins s σ H Q I h => by
 refine wpAny_Call_Name_kw (ld_glob I hg hm ?_ hdb)
 refine PySem.W.callWith_K (h₀ := X.base) I.ok.mod.kin hk (thn (ha.run pos pins s σ H _ I h) ?_) he hpl
 rintro us s1 ⟨vs, H1, I1, r, q⟩
 exact ⟨I1.kIn, runG F hr hgd hb hd hx I1 r q⟩⟩
end
theorem law_callG {P : Program} {w : World} {K : PySem.W.Frag} {mg mb : Str → Option Value} {CX : CXT} {k : Nat} {fa a : Addr} {fd : FuncData} {x : Str} {sp : Sp} {s1 : Shared} {us : List Value} {ns : List Int}
  (KX : K.In s1.heap) (hns : s1.heap.Ns mainGlobals mg) (hb : s1.heap.Ns builtinsNs mb) (hbb : ∀ y : Str, y ≠ "__name__" → mb y = bootBuiltins y) (hlim : s1.heap.NoLimit) (hg : s1.gens = #[])
  (ha : s1.heap.get? a = some { cls := .type "list", data := .seq us.toArray }) (hi : IntsAre us ns) (hl : ns.length ≤ sizeLine) (hr : Room k callerA)
  (F : ∀ base : Heap, K.In base → base.Ns mainGlobals mg → FnG P w K mg base CX k fa fd [x] sp) (hbind : ∀ (s : Shared) (u : Value), BindsTo s fd ⟨[u], []⟩ [(x, u)])
  (hsp : ∀ H : Hp, ((∃ o, H a = some Yeo) ∨ (∃ (o : Obj) (its : Array Value) (n : Nat), K.lookup a = some o ∧ o.cls = .type "list" ∧ o.dict = none ∧ o.data = .seq its n ∧ its.size ≤ sizeLine ∧ Vals Yca its.toList)) → sp [.ref a] H (fun v _ => v = .bl true) fun _ _ _ => False)
  (hCX : ∀ H e s', CX [] H s1 Ycl e s' → False) :
  codeAny (model P w) callerA (.call (.ref fa) ⟨[.ref a], []⟩) Ycm s1 := by
 have rv := vals_ints hi
 have lenV := hi.length
 have main : ∀ H : Hp, Only H → ((∃ o, H a = some Yeo) ∨ (∃ (o : Obj) (its : Array Value) (n : Nat), K.lookup a = some o ∧ o.cls = .type "list" ∧ o.dict = none ∧ o.data = .seq its n ∧ its.size ≤ sizeLine ∧ Vals Yca its.toList)) → HOk P w H s1.heap →
   (∀ b, H b ≠ none → b = a) → (H a ≠ none → K.lookup a = none) →
   codeAny (model P w) callerA (.call (.ref fa) ⟨[.ref a], []⟩) Ycm s1 := by
  intro H hO hS hok hA hK
  have isA : ∀ {b : Addr} {u : HO}, H b = some u → b = a := fun {b u} q => hA b (by rw [q]; exact Option.some_ne_none u)
  have free : ∀ {b : Addr} {o : Obj} {es : Array DictEntry} {ep : Nat}, s1.heap.get? b = some o → o.data = .dict es ep → H b = none := fun {b o es ep} e d => by
   cases q : H b with
   | none => rfl
   | some u =>
    rw [isA q, ha] at e
    cases e
    cases (show Data.seq us.toArray _ = Data.dict es ep from d)
  have nsK : ∀ {b : Addr} {m : Str → Option Value}, s1.heap.Ns b m → (hidT s1.heap H).Ns b m := fun {b m} ⟨o, es, ep, e, d, r⟩ => ⟨o, es, ep, hidT_get e (free e d), d, r⟩
  have hKb : K.In (hidT s1.heap H) := fun b o e => hidT_get (KX b o e) (by
   cases q : H b with
   | none => rfl
   | some u =>
    obtain rfl := isA q
    rw [hK (by rw [q]; exact Option.some_ne_none u)] at e
    cases e)
  have hM : Mod K mg (hidT s1.heap H) := by
   obtain ⟨mc, m1, m2⟩ := hlim
   exact ⟨hKb, nsK hns, ⟨mb, nsK hb, hbb⟩, mc, nsK m1, m2⟩
  have e0 : Env0 P w K mg (hidT s1.heap H) callerA [] s1 H :=
   { frames := rfl, mod := hM, bs := fun b o e => of_hidT e, bsz := Nat.le_of_eq (hidT_size _ _), funs := trivial, frf := fun b q => absurd (show b ∈ ([] : List Addr) from q) Yal, hok := hok, bare := .of_eq hg }
  refine codeAny_mono ((F _ hKb (nsK hns)).run callerA [] s1 H ⟨[.ref a], []⟩ [.ref a] [.ref a] _ _ hr rfl e0 (hbind s1 (.ref a)) (.cons rfl .nil) (hsp H hS)) ?_
  rintro (e | fl) s' h
  ·exact (hCX H e s' h).elim
  ·cases fl with
   | ret u =>
    obtain ⟨v, H', os, bare, un, hok', r', q⟩ := h
    obtain rfl : v = .bl true := q
    obtain rfl : u = Value.bool true := r'
    refine ⟨rfl, OldK.of_keep fun b o e => ?_, os, bare⟩
    rcases hO b with z | ⟨ob, xs, z⟩
    ·exact un.keep b o e z (fun m => nomatch (show b ∈ ([] : List Addr) from m)) (fun m => nomatch m)
    ·have z2 := un.frzs b ob _ z
     have e1 := (hok b _ z).1
     have e2 := (hok' b _ z2).1
     rw [e] at e1
     cases e1
     exact e2
   | next => exact (show False from h).elim
   | brk => exact (show False from h).elim
   | cont => exact (show False from h).elim
 cases hk : K.lookup a with
 | some o =>
  have e := KX a o hk
  rw [ha] at e
  cases e
  refine main (fun _ => none) (fun _ => .inl rfl) (.inr ⟨_, us.toArray, _, hk, rfl, rfl, rfl, by rw [List.size_toArray, lenV]; exact hl, by simpa using rv⟩) ?_ (fun b z => absurd rfl z) fun z => absurd rfl z
  intro b u z
  cases (show (none : Option HO) = some u from z)
 | none =>
  refine main (fun b => if b = a then some (.frz { cls := .type "list", data := .seq us.toArray } (.lst Yca)) else none) ?_ (.inl ⟨{ cls := .type "list", data := .seq us.toArray }, if_pos rfl⟩) ?_ ?_ fun _ => hk
  ·intro b
   by_cases hb : b = a
   ·exact .inr ⟨_, _, if_pos hb⟩
   ·exact .inl (if_neg hb)
  ·intro b u z
   by_cases hb : b = a
   ·cases (if_pos hb).symm.trans z
    subst hb
    exact ⟨ha, by rw [List.length_map]; exact hl, us, _, rv, ha⟩
   ·cases (if_neg hb).symm.trans z
  ·intro b z
   by_cases hb : b = a
   ·exact hb
   ·exact absurd (if_neg hb) z
/-- what k_head leaves, from the law's promise -/
theorem walkG {l : PySem.W.OpenLaw} {n k : Nat} {q : Program} {loose : List Str} {XP : (Str → Option Value) → Heap → Prop} {YP : World → Heap → Prop} {d : DefRec} {K : Params → PySem.W.Frag} {CX : World → CXT} {sp : World → Sp} {x : Str}
  (hn : l.most = some n) (hn2 : n ≤ sizeLine) (hdf : d.params.defaults = []) (hr : Room k callerA) (hY : ∀ (w : World) (h : Heap), YP w h → (K w.params).In h)
  (F : ∀ (w : World) (mg : Str → Option Value) (fa : Addr) (h : Heap), (K w.params).In h → h.Ns mainGlobals mg → mg d.name = some (.ref fa) →
   ∃ fd : FuncData, (∀ (s : Shared) (u : Value), BindsTo s fd ⟨[u], []⟩ [(x, u)]) ∧
    ∀ base : Heap, (K w.params).In base → base.Ns mainGlobals mg → FnG l.prog w (K w.params) mg base (CX w) k fa fd [x] (sp w))
  (hsp : ∀ (w : World) (H : Hp) (a : Addr) (ns : List Int), ns.length ≤ n → ((∃ o, H a = some Yeo) ∨ (∃ (o : Obj) (its : Array Value) (m : Nat), (K w.params).lookup a = some o ∧ o.cls = .type "list" ∧ o.dict = none ∧ o.data = .seq its m ∧ its.size ≤ sizeLine ∧ Vals Yca its.toList)) →
   sp w [.ref a] H (fun v _ => v = .bl true) fun _ _ _ => False)
  (hCX : ∀ (w : World) (H : Hp) (s : Shared) (e : Value) (s' : Shared), CX w [] H s Ycl e s' → False) :
  PySem.W.WalkO q loose XP YP l.row.toRowW d [] (fun f vs => PySem.call f vs) := by
 refine Att.attach_call hn hdf ?_
 intro w s0 s1 mg mb fa o pm cd doc a us ns G Y ho hd hcd hmg hobj hints hlen hg
 have KX := hY w _ Y
 obtain ⟨fd, hb, hF⟩ := F w mg fa _ KX G.T.g hmg
 exact law_callG KX G.T.g G.T.b G.T.builtins G.T.nolimit hg hobj hints (Nat.le_trans hlen hn2) hr hF hb (fun H hS => hsp w H a ns hlen hS) fun H e s' => hCX w H s1 e s'
end Mir
namespace Mir
open PySem PySem.Spec L2
open PyProof.Rows hiding St
section
variable {K : PySem.W.Frag} {ω : World} {s : S4}
/-- a frozen sequence, as it lies -/
def FSq (K : PySem.W.Frag) (ω : World) (s : S4) (kd : Kd) (a : Addr) (ts : List T) : Prop := ∃ vs, Sq K s.H kd a vs ∧ RfL K s.fz s.H ts vs ∧ ∀ s', Aft s s' → Rel K ω s' → Sq K s'.H kd a vs
theorem fsq_of (R : Rel K ω s) {x : T} {v : V} (r : Rf K s.fz s.H x v) {ts : List T} (h : x = .tup ts ∨ x = .lst ts ∨ x = .scr ts) : ∃ kd a, v = .ref a ∧ FSq K ω s kd a ts := by
 rcases h with h | h | h <;> subst h
 ·obtain ⟨a, vs, e, t, l⟩ : ∃ a vs, v = .ref a ∧ FTup K s.fz s.H a vs ∧ RfL K s.fz s.H ts vs := by simpa only [Rf] using r
  exact ⟨.t, a, e, vs, t.sq, l, fun s' A _ => (t.aft A R).sq⟩
 ·obtain ⟨a, vs, e, t, l⟩ : ∃ a vs, v = .ref a ∧ FLst s.fz s.H a vs ∧ RfL K s.fz s.H ts vs := by simpa only [Rf] using r
  exact ⟨.l, a, e, vs, t.sq, l, fun s' A _ => (t.aft A R).sq⟩
 ·obtain ⟨a, vs, e, t, l⟩ : ∃ a vs, v = .ref a ∧ FScr K s.fz s.H a vs ∧ RfL K s.fz s.H ts vs := by simpa only [Rf] using r
  exact ⟨.l, a, e, vs, t.sq, l, fun s' A _ => (t.aft A R).sq⟩
/-- what a value walks, frozen -/
def seqT : W → Option (List T)
 | .t (.tup ts) => some ts
 | .t (.lst ts) => some ts
 | .t (.scr ts) => some ts
 | _ => none
theorem seqT_of {w : W} {ts : List T} (h : seqT w = some ts) : ∃ x, w = .t x ∧ (x = .tup ts ∨ x = .lst ts ∨ x = .scr ts) := by
 unfold seqT at h
 split at h <;> simp only [Option.some.injEq, reduceCtorEq] at h <;> subst h
 ·exact ⟨_, rfl, .inl rfl⟩
 ·exact ⟨_, rfl, .inr (.inl rfl)⟩
 ·exact ⟨_, rfl, .inr (.inr rfl)⟩
theorem fsq (R : Rel K ω s) {w : W} {v : V} {ts : List T} (h : seqT w = some ts) (r : Rw K s w v) : ∃ kd a, v = .ref a ∧ FSq K ω s kd a ts := by
 obtain ⟨x, rfl, hx⟩ := seqT_of h
 exact fsq_of R r hx
/-- plainly -/
theorem src_sq (R : Rel K ω s) {kd : Kd} {a : Addr} {ts : List T} (h : FSq K ω s kd a ts) : SrcF K ω s Yl (ItQ K kd a) := by
 obtain ⟨vs, _, l, st⟩ := h
 intro s' A' R' i
 have q := st s' A' R'
 have l' := RfL.aft A' R _ _ l
 have hl := RfL.length l
 refine ⟨fun w hw => ?_, fun e => ?_⟩
 ·obtain ⟨t, ht, rfl⟩ : ∃ t, ts[i]? = some t ∧ W.t t = w := by simpa using hw
  obtain ⟨v, hv, rv⟩ := RfL.get l' ht
  cases kd with
  | l => exact ⟨⟨vs, v, q, hv⟩, fun x H' y => ⟨s', y.1.symm, rfl, Aft.refl _, R', by
    have := y.2 vs q
    rw [hv] at this
    cases this
    exact rv⟩⟩
  | t => exact ⟨⟨vs, v, q, hv⟩, fun x H' y => ⟨s', y.1.symm, rfl, Aft.refl _, R', by
    have := y.2 vs q
    rw [hv] at this
    cases this
    exact rv⟩⟩
 ·cases kd with
  | l => exact ⟨vs, q, by rw [e, List.length_map, hl]; exact Nat.le_refl _⟩
  | t => exact ⟨vs, q, by rw [e, List.length_map, hl]; exact Nat.le_refl _⟩
theorem src_rng (lo : Int) (n : Nat) : SrcF K ω s ((List.range n).map fun i => W.t (.int (lo + (i : Nat)))) (Itr lo n) := by
 intro s' A' R' i
 refine ⟨fun w hw => ?_, fun e => ?_⟩
 ·have hi : i < n := by
   have := (List.getElem?_eq_some_iff.mp hw).1
   simpa using this
  refine ⟨hi, fun x H' y => ⟨s', y.1.symm, rfl, Aft.refl _, R', ?_⟩⟩
  have e : W.t (.int (lo + (i : Nat))) = w := by
   rw [List.getElem?_map, List.getElem?_range hi] at hw
   simpa using hw
  subst e
  simp only [Rw, Rf]
  exact y.2
 ·show n ≤ i
  rw [e]
  simp
/-- enumerate -/
def enumT : Nat → List T → List W
 | _, [] => []
 | i, t :: ts => .t (.pr [.int (i : Nat), t]) :: enumT (i + 1) ts
/-- zip -/
def zipT : List T → List T → List W
 | t :: ts, u :: us => .t (.pr [t, u]) :: zipT ts us
 | _, _ => []
/-- a text, sign by sign -/
def signs (x : Str) : List W := x.cps.toList.map fun c => .t (.str ⟨#[c]⟩)
theorem src_str (x : Str) : SrcF K ω s (signs x) (Its x) := by
 intro s' A' R' i
 refine ⟨fun w hw => ?_, fun e => ?_⟩
 ·unfold signs at hw
  rw [List.getElem?_map, Option.map_eq_some_iff] at hw
  obtain ⟨c, hc, rfl⟩ := hw
  have hc' : x.cps[i]? = some c := by simpa using hc
  refine ⟨(Array.getElem?_eq_some_iff.mp hc').1, fun v H' y => ⟨s', y.1.symm, rfl, Aft.refl _, R', ?_⟩⟩
  obtain ⟨_, c', h1, h2⟩ := y
  rw [hc'] at h1
  cases h1
  simp only [Rw, Rf]
  exact h2
 ·show x.cps.size ≤ i
  rw [e]
  simp [signs]
end
def rng1 (ws : List W) (hp : IH) : Res (List W) := match ws with
 | [.t (.int j)] => if -(2 ^ 62) ≤ j ∧ j < 2 ^ 62 then .ok ((List.range j.toNat).map fun i => W.t (.int (0 + (i : Nat)))) hp else .bad
 | _ => .bad
def rng2 (ws : List W) (hp : IH) : Res (List W) := match ws with
 | [.t (.int i), .t (.int j)] => if -(2 ^ 62) ≤ i ∧ i < 2 ^ 62 ∧ -(2 ^ 62) ≤ j ∧ j < 2 ^ 62 then .ok Yel hp else .bad
 | _ => .bad
def enum1 (ws : List W) (hp : IH) : Res (List W) := match ws with
 | [a] => (match seqT a with | some ts => .ok (enumT 0 ts) hp | none => .bad)
 | _ => .bad
def zip2 (ws : List W) (hp : IH) : Res (List W) := match ws with
 | [a, b] => (match seqT a, seqT b with | some ts, some us => .ok (zipT ts us) hp | _, _ => .bad)
 | _ => .bad
def sqI (a : W) (hp : IH) : Res (List W) := match seqT a with | some ts => .ok Yl hp | none => .bad
def strI (a : W) (hp : IH) : Res (List W) := match a with | .t (.str x) => .ok (signs x) hp | _ => .bad
def mSq (F : M W) : M (List W) := fun eta hp => (F eta hp).bind sqI
def mStrI (F : M W) : M (List W) := fun eta hp => (F eta hp).bind strI
def mSrc (f : List W → IH → Res (List W)) (Fs : M (List W)) : M (List W) := fun eta hp => (Fs eta hp).bind f
section
variable {X : Cx} {Wx : WX} {tg a b e : Expr} {F : M W} {Fs : M (List W)} {p pos tpos : Pos} {elts : List Expr} {kk : Nat}
theorem Go.src {s : S4} {ws : List W} {J : It} {Q : It → Hp → Prop} (R : Rel X.K X.w s) (g : Go X.K X.w Wx (SrcF X.K X.w) s (.ok ws s.hp) Q) (h : SrcF X.K X.w s ws J) : Q J s.H := g J s rfl Ye R h
/-- a list or a tuple -/
theorem ii_sq (he : IE X Wx e F) : II X Wx tg e (mSq F) := PI.imp (pi_sq he) fun σ H Q h =>
 tM.bind1 (R := fun (x : V) (H1 : Hp) => ∃ kd a xs, x = .ref a ∧ Sq X.K H1 kd a xs ∧ Q (ItQ X.K kd a) H1) (k := fun (a : W) _ h1 => sqI a h1) h fun s eta w v R1 S1 f1 g => by
  unfold sqI at g
  cases hq : seqT w with
  | none => simp only [hq] at g; exact g.elim
  | some ts =>
   simp only [hq] at g
   obtain ⟨kd, a, ev, fs⟩ := fsq R1 hq f1
   exact ⟨kd, a, _, ev, fs.choose_spec.1, Go.src R1 g (src_sq R1 fs)⟩
theorem ii_str (he : IE X Wx e F) : II X Wx tg e (mStrI F) := PI.imp (pi_str he) fun σ H Q h =>
 tM.bind1 (R := fun (x : V) (H1 : Hp) => ∃ z, x = .str z ∧ Q (Its z) H1) (k := fun (a : W) _ h1 => strI a h1) h fun s eta w v R1 S1 f1 g => by
  unfold strI at g
  split at g
  ·rename_i x
   simp only [Rw, Rf] at f1
   exact ⟨x, f1, Go.src R1 g (src_str x)⟩
  ·exact g.elim
theorem rwl1 {K : PySem.W.Frag} {s : S4} {a : W} {vs : List V} (h : RwL K s [a] vs) : ∃ v, vs = [v] ∧ Rw K s a v := by
 obtain ⟨v, r, e, q, n⟩ := h
 rw [show r = [] from n] at e
 exact ⟨v, e, q⟩
theorem ii_rng1 (hg : Gl X "range") (hm : X.mg "range" = none) (ha : IA X Wx [a] Fs) (hs : starEach [a] X.env = [(false, eval a X.env)] := by rfl) : II X Wx tg (.Call (.Name "range" p) [a] [] pos) (mSrc rng1 Fs) := PI.imp (pi_range1 hg hm ha hs) fun σ H Q h =>
 tM.bind1 (R := fun (vs : List V) (H1 : Hp) => ∃ j : Int, vs = [.int j] ∧ -(2 ^ 62) ≤ j ∧ j < 2 ^ 62 ∧ Q (Itr 0 j.toNat) H1) (k := fun (ws : List W) _ h1 => rng1 ws h1) h fun s eta ws vs R1 S1 f1 g => by
  unfold rng1 at g
  split at g
  ·rename_i j
   split at g
   ·rename_i hj
    obtain ⟨v, ev, rv⟩ := rwl1 f1
    simp only [Rw, Rf] at rv
    subst rv
    exact ⟨j, ev, hj.1, hj.2, Go.src R1 g (src_rng 0 _)⟩
   ·exact g.elim
  ·exact g.elim
end
section
variable {X : Cx} {Wx : WX} {elt tg iter : Expr} {ifs : List Expr} {scope : Scope} {own : List (Str × Nat)} {Fi : M (List W)} {pos : Pos} {g : TG} {G : W → IS → Option IS} {vs : List Nat} {tt : TT} {T : M Bool} {E : M W} {fin : OpN}
def mYes : M Bool := fun _ hp => .ok true hp
/-- a clause's tests -/
def ITs (X : Cx) (ifs : List Expr) (T : M Bool) : Prop := PTs X ifs (tT X.K X.w W0 T)
theorem PTs.imp {t t' : TT} (h : PTs X ifs t) (i : ∀ σ H Q, t' σ H Q → t σ H Q) : PTs X ifs t' := ⟨fun pins s σ H Q I hw => h.run pins s σ H Q I Ydx⟩
theorem zca : ITs X [] mYes := PTs.imp pts_nil fun σ H Q h => by
 obtain ⟨s, eta, e1, R1, S1, g⟩ := h
 subst e1
 exact g true s rfl Ye R1 rfl
theorem its_one {c : Expr} (h : IT X W0 c T) : ITs X [c] T := pts_one h
theorem zct (hc : X.calm = true) (hN : X.N.Nodup) (hi : II X Wx tg iter Fi) (ok : BlkOk X.N X.env.scope scope own)
  (hg : ∀ (s : Shared) (H : Hp) (C : Addr) (cl : List (Str × Addr)) (fp : List Addr), PG Yab tg g) (tok : TgOk X.K X.w g G vs)
  (ht : ∀ (s : Shared) (H : Hp) (C : Addr) (cl : List (Str × Addr)) (fp : List Addr), ITs Yab ifs T)
  (he : ∀ (s : Shared) (H : Hp) (C : Addr) (cl : List (Str × Addr)) (fp : List Addr), IE Yab W0 elt E) (hf : FinOk X.K X.w Wx fin) (hv : ∀ i ∈ vs, i ∈ own.map (·.2) := by decide) (hs : ∀ x, foldedSetIterable iter X.env x = pure x := by intro _; rfl) :
  IE X Wx Ycw (zb1 fin Fi G T E (own.map (·.2))) := PE.imp (pe_lc (tt := tT X.K X.w W0 T) (te := tE X.K X.w W0 E) hc hN hi ok hg ht he hs) (t_comp _ tok hv hf)
theorem st_comp {i : Nat} {y : Str} {py spos : Pos} (hc : X.calm = true) (hN : X.N.Nodup) (hy : X.N[i]? = some y) (hyl : X.env.scope.names.lookup y = some .local)
  (hsw : swapsWith Ycw (some (.Name y py)) spos.line X.env = pure true) (hi : II X Wx tg iter Fi) (ok : BlkOk X.N X.env.scope scope own)
  (hg : ∀ (s : Shared) (H : Hp) (C : Addr) (cl : List (Str × Addr)) (fp : List Addr), PG Yab tg g) (tok : TgOk X.K X.w g G vs)
  (ht : ∀ (s : Shared) (H : Hp) (C : Addr) (cl : List (Str × Addr)) (fp : List Addr), ITs Yab ifs T)
  (he : ∀ (s : Shared) (H : Hp) (C : Addr) (cl : List (Str × Addr)) (fp : List Addr), IE Yab W0 elt E) (hf : FinOk X.K X.w Wx fin) (hv : ∀ i ∈ vs, i ∈ own.map (·.2) := by decide) (hs : ∀ x, foldedSetIterable iter X.env x = pure x := by intro _; rfl) :
  ISt X Wx (.Assign [.Name y py] Ycw spos) (mSet i (zb1 fin Fi G T E (own.map (·.2)))) := PS.imp (ps_setLc (tt := tT X.K X.w W0 T) (te := tE X.K X.w W0 E) hc hN hy hyl hsw hi ok hg ht he hs) fun D σ H h => by
 have h' : tE X.K X.w Wx (zb1 fin Fi G T E (own.map (·.2))) σ H (fun x H1 => D.nx (σ.set i (some x)) H1) :=
  tM.bind1 (R := fun (y : V) (H1 : Hp) => D.nx (σ.set i (some y)) H1) (k := fun (a : W) eta hp => .ok (Fl.nx Yc6) hp) h fun s eta a b R1 S1 f1 g1 => Go.nx R1 (S1.set i f1) g1
 exact t_comp _ tok hv hf σ H _ h'
end
/-- a def's function: its body at its parameters; a live result may not be younger than the call -/
def fnM (n nn : Nat) (B : M Fl) : OpN := fun ws hp => if ws.length = n then (match B Yda hp with
  | .ok (.rt w) h => .ok w h
  | .ok (.nx _) h => .ok Yaw h
  | .er e _ h => .er e [] h
  | _ => .bad) else .bad
/-- .. of trees alone: its own cells are dropped -/
def fnP (n nn : Nat) (B : M Fl) : OpN := fun ws hp => if ws.length = n ∧ (allT ws).isSome = true then (match B Yda [] with
  | .ok (.rt (.t x)) _ => .ok (.t x) hp
  | .ok (.nx _) _ => .ok Yaw hp
  | _ => .bad) else .bad
/-- the promise made of a function -/
def spM (K : PySem.W.Frag) (ω : World) (f : OpN) (n : Nat) : Sp := fun vs H Q _ => ∃ (s : S4) (ws : List W), s.H = H ∧ Rel K ω s ∧ RwL K s ws vs ∧ ws.length = n ∧ Go K ω W0 (Rw K) s (noEr (f ws s.hp)) Q
section
variable {K : PySem.W.Frag} {ω : World}
theorem spM_len {f : OpN} {n : Nat} {vs : List V} {H : Hp} {Q : VK} {E : XK} (h : spM K ω f n vs H Q E) : vs.length = n := by
 obtain ⟨s, ws, _, _, l, e, _⟩ := h
 rw [← RwL.length l, e]
theorem sl_start {s : S4} {N : List Str} {ws : List W} {vs : List V} (l : RwL K s ws vs) : Sl K s (ws.map some ++ List.replicate (N.length - ws.length) none) (L2.start N vs) := by
 have hl := RwL.length l
 refine ⟨by simp [L2.start, hl], fun i w e => ?_⟩
 by_cases hi : i < ws.length
 ·rw [List.getElem?_append_left (by simpa using hi), List.getElem?_map] at e
  cases q : ws[i]? with
  | none => rw [q] at e; cases e
  | some w' =>
   rw [q] at e
   cases e
   obtain ⟨v, h1, h2⟩ := RwL.get l q
   refine ⟨v, ?_, h2⟩
   unfold L2.start
   rw [List.getElem?_append_left (by rw [List.length_map, ← hl]; exact hi), List.getElem?_map, h1]
   rfl
 ·rw [List.getElem?_append_right (by simpa using hi), List.getElem?_replicate] at e
  split at e <;> cases e
/-- a run over the caller's heap without its cells -/
def S4.bare (s : S4) : S4 := ⟨[], s.fz, [], s.H⟩
theorem rel_bare {s : S4} (R : Rel K ω s) : Rel K ω s.bare := ⟨rfl, List.nodup_nil, fun a m => absurd m (by simp [S4.bare]), R.ftrk, fun a l => by obtain ⟨i, c, e, _⟩ := l; simp [S4.bare] at e, fun i c a e => by simp [S4.bare] at e⟩
theorem Rf.bare {s : S4} {x : T} {v : V} (h : Rw K s (.t x) v) : Rw K s.bare (.t x) v := h
theorem aft_bare {s s' : S4} (R : Rel K ω s) (A : Aft s.bare s') : Aft s ⟨s.rho, s'.fz, s.hp, s'.H⟩ ∧ (Rel K ω s' → Rel K ω ⟨s.rho, s'.fz, s.hp, s'.H⟩) := by
 have nl : ∀ a, ¬ Live s.bare a := fun a l => by obtain ⟨i, c, e, _⟩ := l; simp [S4.bare] at e
 have A1 : Aft s ⟨s.rho, s'.fz, s.hp, s'.H⟩ := by
  refine ⟨⟨[], by simp, by simp⟩, A.fz, fun a o e _ => A.keep a o e (nl a), fun a f => ?_, fun a l => .inl l, A.trk⟩
  rcases A.fnew a f with f | f | f
  ·exact .inl f
  ·exact .inr (.inl f)
  ·exact (nl a f).elim
 refine ⟨A1, fun R' => ⟨R.len, R.nd, fun a m => A.trk a (R.trk a m), R'.ftrk, fun a l f => ?_, fun i c a e1 e2 => ?_⟩⟩
 ·rcases A.fnew a f with f | f | f
  ·exact R.fz a l f
  ·obtain ⟨i, c, e1, e2⟩ := l
   exact R.liveH e1.1 e2 f
  ·exact nl a f
 ·have q := R.cell i c a e1 e2
  have ha : s.H a ≠ none := R.liveH e1 e2
  cases hq : s.H a with
  | none => exact absurd hq ha
  | some o =>
   show CellOk K ω _ a c (s'.H a)
   rw [A.keep a o hq (nl a), ← hq]
   exact q.aft A1 R
variable {P : Program} {w : World} {mg : Str → Option Value} {base : Heap}
theorem okM {x qual : Str} {st : Stmt} {f : Addr} {fd : FuncData} {N ps : List Str} {k : Nat} {B : M Fl} {dfs : List V} {kws : List Ydn} (F : FunD K x qual (defArgs st) Yeu Yau dfs kws f fd) (S : FnScope N ps Yau)
  (hb : ∀ (cdv : Value) (A : Around) (outer : List Env) (s : Shared) (H : Hp) (E : XK), Room k Yap → A.guards = some [] → ISs (cxOf Yn P w K mg base N qual Yau f cdv A outer s H E).nox W0 Yeu B) :
  FnG P w K mg base Yn (k + 1) f fd ps (spM K w (fnM ps.length N.length B) ps.length) := by
 refine Fun.okG F S (fun vs H Q E h => spM_len h) fun cdv A outer s H vs Q E hr hgd h => ⟨_, PSs.nox (hb cdv A outer s H E hr hgd), ?_⟩
 obtain ⟨s0, ws, e1, R1, l, el, g⟩ := h
 refine ⟨s0, _, e1, R1, sl_start l, ?_⟩
 unfold fnM at g
 rw [if_pos el] at g
 rw [el]
 cases hB : B (ws.map some ++ List.replicate (N.length - ps.length) none) s0.hp with
 | ok fl hp =>
  rw [hB] at g
  cases fl with
  | rt wr => exact fun b s' h1 h2 h3 h4 => by cases b <;> first | exact h4.elim | exact g _ s' h1 h2 h3 h4
  | nx e => exact fun b s' h1 h2 h3 h4 => by cases b <;> first | exact h4.elim | exact g .non s' h1 h2 h3 (by simp [Rw, Rf])
  | bk e => exact g.elim
  | ct e => exact g.elim
 | er e eta hp => rw [hB] at g; exact g.elim
 | bad => rw [hB] at g; exact g.elim
theorem okP {x qual : Str} {st : Stmt} {f : Addr} {fd : FuncData} {N ps : List Str} {k : Nat} {B : M Fl} {dfs : List V} {kws : List Ydn} (F : FunD K x qual (defArgs st) Yeu Yau dfs kws f fd) (S : FnScope N ps Yau)
  (hb : ∀ (cdv : Value) (A : Around) (outer : List Env) (s : Shared) (H : Hp) (E : XK), Room k Yap → A.guards = some [] → ISs (cxOf Yn P w K mg base N qual Yau f cdv A outer s H E).nox W0 Yeu B) :
  FnG P w K mg base Yn (k + 1) f fd ps (spM K w (fnP ps.length N.length B) ps.length) := by
 refine Fun.okG F S (fun vs H Q E h => spM_len h) fun cdv A outer s H vs Q E hr hgd h => ⟨_, PSs.nox (hb cdv A outer s H E hr hgd), ?_⟩
 obtain ⟨s0, ws, e1, R1, l, el, g⟩ := h
 unfold fnP at g
 cases ht : allT ws with
 | none => simp only [ht, Option.isSome_none, Bool.false_eq_true, and_false, if_false] at g; exact g.elim
 | some ts =>
  rw [if_pos ⟨el, by rw [ht]; rfl⟩] at g
  have lb : RwL K s0.bare ws vs := by
   rw [zbh ht] at l ⊢
   exact (RwL.of_trees (s := s0.bare)).mpr ((RwL.of_trees (s := s0)).mp l)
  refine ⟨s0.bare, _, e1, rel_bare R1, sl_start lb, ?_⟩
  rw [el]
  show Go K w W0 (RFl K) s0.bare (B _ []) _
  cases hB : B (ws.map some ++ List.replicate (N.length - ps.length) none) [] with
  | ok fl hp =>
   rw [hB] at g
   cases fl with
   | rt wr =>
    cases wr with
    | t y =>
     intro b s' h1 h2 h3 h4
     cases b <;> first | exact h4.elim | exact g _ ⟨s0.rho, s'.fz, s0.hp, s'.H⟩ rfl (aft_bare R1 h2).1 ((aft_bare R1 h2).2 h3) h4
    | r i => exact g.elim
   | nx e =>
    intro b s' h1 h2 h3 h4
    cases b <;> first | exact h4.elim | exact g .non ⟨s0.rho, s'.fz, s0.hp, s'.H⟩ rfl (aft_bare R1 h2).1 ((aft_bare R1 h2).2 h3) (by simp [Rw, Rf])
   | bk e => exact g.elim
   | ct e => exact g.elim
  | er e eta hp => rw [hB] at g; exact g.elim
  | bad => rw [hB] at g; exact g.elim
end
theorem zar {n nn : Nat} {B : M Fl} : ∀ ws hp, ws.length ≠ n → fnM n nn B ws hp = .bad := fun ws hp h => by unfold fnM; rw [if_neg h]
theorem zbg {n nn : Nat} {B : M Fl} : ∀ ws hp, ws.length ≠ n → fnP n nn B ws hp = .bad := fun ws hp h => by unfold fnP; rw [if_neg fun z => h z.1]
/-- f(e, ..), then the defaults -/
def zan (f : OpN) (ds : List T) (Fs : M (List W)) : M W := fun eta hp => (Fs eta hp).bind fun ws h1 => noEr (f (ws ++ ds.map W.t) h1)
section
variable {X : Cx} {Wx : WX} {k : Nat} {f : Addr} {fd : FuncData} {ps : List Str} {m : OpN} {n : Nat} {x : Str} {p pos : Pos} {e : Expr} {es : List Expr} {Fs : M (List W)} {dvs : List V} {ds : List Value} {dts : List T}
theorem zai (Fk : FnG X.prog X.w X.K X.mg X.base Yez k f fd ps (spM X.K X.w m n)) (hr : Room k X.A) (hgd : X.A.guards = some []) (hg : Gl X x) (hm : X.mg x = some (.ref f)) (hk : PySem.W.keepIn X.K (.ref f) = true) (hb : Binds X.K fd ps ds) (hd : Vals dvs ds) (hdt : ∀ s, RwL X.K s (dts.map W.t) dvs) (hl : ∀ ws hp, ws.length ≠ n → m ws hp = .bad) (ha : IA X Wx Ybi Fs)
  (hdb : (x == ("__debug__" : Str)) = false := by decide) (he : starEach Ybi X.env = (false, eval e X.env) :: starEach es X.env := by rfl) (hpl : (backTo pos Ybe).any (·.1) = false := by rfl) : IE X Wx Y8 (zan m dts Fs) :=
 PE.imp (pe_callG Fk hr hgd hg hm hk hb hd passL ha hdb he hpl) fun σ H Q h =>
  tM.bind1 (R := fun (vs : List V) (H1 : Hp) => spM X.K X.w m n (vs ++ dvs) H1 Q E0) (k := fun (ws : List W) _ h1 => noEr (m (ws ++ dts.map W.t) h1)) h fun s eta ws vs R1 S1 f1 g => by
   refine ⟨s, ws ++ dts.map W.t, rfl, R1, RwL.append f1 (hdt s), ?_, ?_⟩
   ·by_cases e : (ws ++ dts.map W.t).length = n
    ·exact e
    ·rw [hl _ _ e] at g; exact g.elim
   ·cases hq : m (ws ++ dts.map W.t) s.hp with
    | ok a h => rw [hq] at g; exact g
    | er e eta h => rw [hq] at g; exact g.elim
    | bad => rw [hq] at g; exact g.elim
end
end Mir
namespace Mir
open PySem PySem.Spec L2
open PyProof.Rows hiding St
def opI (C : Int → Int → Bool) (g : Int → Int → Int) : Op2 := fun a b hp => match a, b with
 | .t (.int i), .t (.int j) => if C i j = true then .ok (.t (.int (g i j))) hp else .bad
 | _, _ => .bad
def opC (g : Int → Int → Bool) : Op2 := fun a b hp => match a, b with
 | .t (.int i), .t (.int j) => .ok (.t (.bl (g i j))) hp
 | _, _ => .bad
def cYes : Int → Int → Bool := fun _ _ => true
def cMul : Int → Int → Bool := fun i j => decide (i.natAbs.log2 + j.natAbs.log2 < 1000000)
def cDiv : Int → Int → Bool := fun _ j => decide (0 < j ∧ j.natAbs.log2 < 9000)
def cMod : Int → Int → Bool := fun _ j => decide (0 < j)
def cPow : Int → Int → Bool := fun i j => decide (0 ≤ j ∧ j ≤ 1000000 ∧ i.natAbs < 2 ^ 64)
section
variable {K : PySem.W.Frag} {ω : World} {Wx : WX}
theorem ok_opI {C : Int → Int → Bool} {g : Int → Int → Int} {P : Int → Int → Prop} (h : ∀ i j, C i j = true → P i j) : zcd K ω Wx (opI C g) (rI P fun i j => .int (g i j)) := by
 intro s a b x y Q R ra rb go
 unfold opI at go
 split at go
 ·rename_i i j
  split at go
  ·rename_i hc
   simp only [Rw, Rf] at ra rb
   exact ⟨i, j, ra, rb, h i j hc, go _ s rfl Ye R Yf⟩
  ·exact go.elim
 ·exact go.elim
theorem ok_opI0 {g : Int → Int → Int} : zcd K ω Wx (opI cYes g) (rI0 fun i j => .int (g i j)) := by
 intro s a b x y Q R ra rb go
 unfold opI at go
 split at go
 ·rename_i i j
  rw [if_pos (show cYes i j = true from rfl)] at go
  simp only [Rw, Rf] at ra rb
  exact ⟨i, j, ra, rb, go _ s rfl Ye R Yf⟩
 ·exact go.elim
theorem ok_opC {g : Int → Int → Bool} : zcd K ω Wx (opC g) (rI0 fun i j => .bl (g i j)) := by
 intro s a b x y Q R ra rb go
 unfold opC at go
 split at go
 ·rename_i i j
  simp only [Rw, Rf] at ra rb
  exact ⟨i, j, ra, rb, go _ s rfl Ye R Yf⟩
 ·exact go.elim
end
abbrev iSub : Op2 := opI cYes fun i j => i - j
abbrev iDiv : Op2 := opI cDiv fun i j => i / j
abbrev iMod : Op2 := opI cMod fun i j => i % j
abbrev iPow : Op2 := opI cPow fun i j => i ^ j.toNat
abbrev iLe : Op2 := opC fun i j => decide (i ≤ j)
abbrev iGt : Op2 := opC fun i j => decide (j < i)
abbrev iGe : Op2 := opC fun i j => decide (j ≤ i)
section
variable {X : Cx} {Wx : WX} {a b c e : Expr} {Fa Fb Fc F : M W} {pos : Pos}
theorem ie_sub (ha : IE X Wx a Fa) (hb : IE X Wx b Fb) : IE X Wx (.BinOp a .Sub b pos) (mBin iSub Fa Fb) := ie_bin op_sub ok_opI0 ha hb
theorem ie_div (ha : IE X Wx a Fa) (hb : IE X Wx b Fb) : IE X Wx (.BinOp a .FloorDiv b pos) (mBin iDiv Fa Fb) := ie_bin op_fdivW (ok_opI fun i j h => by simpa [cDiv, CDivW] using h) ha hb
theorem ie_mod (ha : IE X Wx a Fa) (hb : IE X Wx b Fb) : IE X Wx (.BinOp a .Mod b pos) (mBin iMod Fa Fb) := ie_bin op_mod (ok_opI fun i j h => by simpa [cMod] using h) ha hb
theorem ie_pow (ha : IE X Wx a Fa) (hb : IE X Wx b Fb) : IE X Wx (.BinOp a .Pow b pos) (mBin iPow Fa Fb) := ie_bin op_pow (ok_opI fun i j h => by simpa [cPow, CPow] using h) ha hb
theorem it_gt (ha : IE X Wx a Fa) (hb : IE X Wx b Fb) : IT X Wx (.Compare a [.Gt] [b] pos) (zaj asB (mBin iGt Fa Fb)) := it_cmp op_gt ok_opC ha hb (nomark _)
theorem it_ge (ha : IE X Wx a Fa) (hb : IE X Wx b Fb) : IT X Wx (.Compare a [.GtE] [b] pos) (zaj asB (mBin iGe Fa Fb)) := it_cmp op_ge ok_opC ha hb (nomark _)
def iNeg : Op1 := fun a hp => match a with | .t (.int i) => .ok (.t (.int (-i))) hp | _ => .bad
theorem ie_neg (ha : IE X Wx a Fa) : IE X Wx (.UnaryOp .USub a pos) (mUn iNeg Fa) := ie_un un_neg (fun s a x Q R ra go => by
 unfold iNeg at go
 split at go
 ·simp only [Rw, Rf] at ra
  exact ⟨_, ra, go _ s rfl Ye R Yf⟩
 ·exact go.elim) ha
end
def eqW (neg : Bool) : Op2 := fun a b hp => match asT hp a, asT hp b with
 | some x, some y => if fit x 60 = true ∧ fit y 60 = true then .ok (.t (.bl (if neg then !eqT x y else eqT x y))) hp else .bad
 | _, _ => .bad
def isN (neg : Bool) : Op2 := fun a b hp => match b with
 | .t .non => (match a with
  | .t .non => .ok (.t (.bl (!neg))) hp
  | _ => .ok (.t (.bl neg)) hp)
 | _ => .bad
def isB (neg : Bool) : Op2 := fun a b hp => match a, b with
 | .t (.bl i), .t (.bl j) => .ok Ye9 hp
 | _, _ => .bad
def inW (neg : Bool) : Op2 := fun a b hp => match asT hp a, (items hp b).bind allT with
 | some x, some ys => if fit x 60 = true ∧ fitL ys 60 = true then .ok (.t (.bl (if neg then !(ys.any fun y => eqT y x) else ys.any fun y => eqT y x))) hp else .bad
 | _, _ => .bad
section
variable {K : PySem.W.Frag} {ω : World} {Wx : WX}
theorem ok_eq : zcd K ω Wx Ydz (rEqP K) := by
 intro s a b x y Q R ra rb go
 unfold eqW at go
 cases h1 : asT s.hp a with
 | none => simp only [h1] at go; exact go.elim
 | some u =>
  cases h2 : asT s.hp b with
  | none => simp only [h1, h2] at go; exact go.elim
  | some v =>
   simp only [h1, h2] at go
   split at go
   ·rename_i hf
    have p1 := zcs u 60 hf.1
    have p2 := zcs v 60 hf.2
    refine ⟨dat u, dat v, asT_dp R h1 ra hf.1, asT_dp R h2 rb hf.2, p1.1, p2.1, p1.2, ?_⟩
    rw [eqT_dat u v 60 60 hf.1 hf.2]
    exact go _ s rfl Ye R Yf
   ·exact go.elim
theorem ok_ne : zcd K ω Wx Ybx (rNeP K) := by
 intro s a b x y Q R ra rb go
 unfold eqW at go
 cases h1 : asT s.hp a with
 | none => simp only [h1] at go; exact go.elim
 | some u =>
  cases h2 : asT s.hp b with
  | none => simp only [h1, h2] at go; exact go.elim
  | some v =>
   simp only [h1, h2] at go
   split at go
   ·rename_i hf
    have p1 := zcs u 60 hf.1
    have p2 := zcs v 60 hf.2
    refine ⟨dat u, dat v, asT_dp R h1 ra hf.1, asT_dp R h2 rb hf.2, p1.1, p2.1, p1.2, ?_⟩
    rw [eqT_dat u v 60 60 hf.1 hf.2]
    exact go _ s rfl Ye R Yf
   ·exact go.elim
theorem rf_non {s : S4} {w : W} {v : V} (r : Rw K s w v) : (v = .non ↔ w = .t .non) := by
 cases w with
 | r i => obtain ⟨a, _, e⟩ := r; subst e; simp
 | t x =>
  cases x <;> simp only [Rw, Rf] at r <;> first
   | (subst r; simp)
   | (obtain ⟨a, _, e, _⟩ := r; subst e; simp)
   | (obtain ⟨a, _, _, e, _⟩ := r; subst e; simp)
   | (obtain ⟨a, e, _⟩ := r; subst e; simp)
   | exact r.elim
theorem ok_isN : zcd K ω Wx (isN false) (fun x y H Q => y = .non ∧ Q (.bl (decide (x = .non))) H) := by
 intro s a b x y Q R ra rb go
 unfold isN at go
 split at go
 ·refine ⟨by simpa only [Rw, Rf] using rb, ?_⟩
  split at go
  ·have e : x = .non := by simpa only [Rw, Rf] using ra
   rw [decide_eq_true e]
   exact go _ s rfl Ye R Yf
  ·rename_i hn
   have e : ¬ x = .non := fun e => hn ((rf_non ra).mp e)
   rw [decide_eq_false e]
   exact go _ s rfl Ye R Yf
 ·exact go.elim
theorem ok_notN : zcd K ω Wx (isN true) (fun x y H Q => y = .non ∧ Q (.bl (!decide (x = .non))) H) := by
 intro s a b x y Q R ra rb go
 unfold isN at go
 split at go
 ·refine ⟨by simpa only [Rw, Rf] using rb, ?_⟩
  split at go
  ·have e : x = .non := by simpa only [Rw, Rf] using ra
   rw [decide_eq_true e]
   exact go _ s rfl Ye R Yf
  ·rename_i hn
   have e : ¬ x = .non := fun e => hn ((rf_non ra).mp e)
   rw [decide_eq_false e]
   exact go _ s rfl Ye R Yf
 ·exact go.elim
theorem items_dp {s : S4} (R : Rel K ω s) {w : W} {v : V} {ys : List T} {n : Nat} (h : (items s.hp w).bind allT = some ys) (r : Rw K s w v) (f : fitL ys n = true) : Dp K s.H v (.list (datL ys)) ∨ Dp K s.H v (.tuple (datL ys)) := by
 rw [Option.bind_eq_some_iff] at h
 obtain ⟨ws, h1, h2⟩ := h
 obtain ⟨p, xs, e, q, l⟩ := items_sq R h1 r
 subst e
 rw [zbh h2] at l
 have d := RfL.dp ys xs n f Ycr
 rcases q with q | q
 ·exact .inr (.tup q d)
 ·exact .inl (.lst q d)
theorem any_dat {x : T} {n m : Nat} (fx : fit x n = true) : ∀ (ys : List T), fitL ys m = true → (datL ys).any (fun z => PyData.eqv z (dat x)) = ys.any fun y => eqT y x
 | [], _ => rfl
 | y :: ys, f => by
  simp only [fitL, Bool.and_eq_true] at f
  simp only [datL, List.any_cons, eqT_dat y x m n f.1 fx, any_dat fx ys f.2]
theorem ok_in {neg : Bool} : zcd K ω Wx (inW neg) (rInP K neg) := by
 intro s a b x y Q R ra rb go
 unfold inW at go
 cases h1 : asT s.hp a with
 | none => simp only [h1] at go; exact go.elim
 | some u =>
  cases h2 : (items s.hp b).bind allT with
  | none => simp only [h1, h2] at go; exact go.elim
  | some ys =>
   simp only [h1, h2] at go
   split at go
   ·rename_i hf
    have p1 := zcs u 60 hf.1
    have p2 := fit_plainL ys 60 hf.2
    refine ⟨dat u, datL ys, asT_dp R h1 ra hf.1, items_dp R h2 rb hf.2, p1.1, p2.1, p1.2, ?_⟩
    rw [any_dat hf.1 ys hf.2]
    exact go _ s rfl Ye R Yf
   ·exact go.elim
end
section
variable {X : Cx} {Wx : WX} {a b c e : Expr} {Fa Fb Fc F : M W} {pos : Pos}
theorem ie_eq (hu : X.A.units + 64 < cLine) (ha : IE X Wx a Fa) (hb : IE X Wx b Fb) : IE X Wx (.Compare a [.Eq] [b] pos) (mBin Ydz Fa Fb) := ie_cmp (op_eqP hu) ok_eq ha hb (nomark _)
theorem it_eq (hu : X.A.units + 64 < cLine) (ha : IE X Wx a Fa) (hb : IE X Wx b Fb) : IT X Wx (.Compare a [.Eq] [b] pos) (zaj asB (mBin Ydz Fa Fb)) := it_cmp (op_eqP hu) ok_eq ha hb (nomark _)
theorem it_ne (hu : X.A.units + 64 < cLine) (ha : IE X Wx a Fa) (hb : IE X Wx b Fb) : IT X Wx (.Compare a [.NotEq] [b] pos) (zaj asB (mBin Ybx Fa Fb)) := it_cmp (op_neP hu) ok_ne ha hb (nomark _)
theorem it_isN (ha : IE X Wx a Fa) (hb : IE X Wx b Fb) : IT X Wx (.Compare a [.Is] [b] pos) (zaj asB (mBin (isN false) Fa Fb)) := it_cmp op_isN ok_isN ha hb (nomark _)
theorem it_notN (ha : IE X Wx a Fa) (hb : IE X Wx b Fb) : IT X Wx (.Compare a [.IsNot] [b] pos) (zaj asB (mBin (isN true) Fa Fb)) := it_cmp op_notN ok_notN ha hb (nomark _)
theorem it_in (hu : X.A.units + 64 < cLine) (ha : IE X Wx a Fa) (hb : IE X Wx b Fb) (hm : behindInMarks .In b = false := by rfl) : IT X Wx (.Compare a [.In] [b] pos) (zaj asB (mBin (inW false) Fa Fb)) := it_cmp (op_inP hu) ok_in ha hb hm
theorem it_nin (hu : X.A.units + 64 < cLine) (ha : IE X Wx a Fa) (hb : IE X Wx b Fb) (hm : behindInMarks .NotIn b = false := by rfl) : IT X Wx (.Compare a [.NotIn] [b] pos) (zaj asB (mBin (inW true) Fa Fb)) := it_cmp (op_ninP hu) ok_in ha hb hm
end
def ixW : Op2 := fun a b hp => match b with
 | .t (.int i) => (match a with
  | .t (.str z) => (match atI z.cps.toList i with | some c => if z.length ≤ 16777216 then .ok (.t (.str ⟨#[c]⟩)) hp else .bad | none => .bad)
  | a => (match (items hp a).bind fun ws => atI ws i with | some w => .ok w hp | none => .bad))
 | _ => .bad
section
variable {K : PySem.W.Frag} {ω : World} {Wx : WX}
theorem atI_rw {s : S4} {ws : List W} {vs : List V} {i : Int} {w : W} (l : RwL K s ws vs) (h : atI ws i = some w) : ∃ v, atI vs i = some v ∧ Rw K s w v := by
 unfold atI at h ⊢
 rw [Option.bind_eq_some_iff] at h
 obtain ⟨j, h1, h2⟩ := h
 obtain ⟨v, q1, q2⟩ := RwL.get l h2
 exact ⟨v, by rw [← RwL.length l, h1]; exact q1, q2⟩
theorem ok_ix : zcd K ω Wx ixW (rIx K) := by
 intro s a b x y Q R ra rb go
 unfold ixW at go
 split at go
 ·rename_i i
  have ey : y = .int i := by simpa only [Rw, Rf] using rb
  split at go
  ·rename_i z
   have ex : x = .str z := by simpa only [Rw, Rf] using ra
   split at go
   ·rename_i c hc
    split at go
    ·rename_i hz
     exact .inr (.inr ⟨z, i, c, ex, ey, by rw [sizeLine_eq]; exact hz, hc, go _ s rfl Ye R Yf⟩)
    ·exact go.elim
   ·exact go.elim
  ·split at go
   ·rename_i w hw
    rw [Option.bind_eq_some_iff] at hw
    obtain ⟨ws, h1, h2⟩ := hw
    obtain ⟨p, xs, e, q, l⟩ := items_sq R h1 ra
    obtain ⟨v, h3, h4⟩ := atI_rw l h2
    rcases q with q | q
    ·exact .inr (.inl ⟨p, xs, i, v, e, ey, q, h3, go _ s rfl Ye R h4⟩)
    ·exact .inl ⟨p, xs, i, v, e, ey, q, h3, go _ s rfl Ye R h4⟩
   ·exact go.elim
 ·exact go.elim
end
section
variable {X : Cx} {Wx : WX} {a b c e : Expr} {Fa Fb Fc F : M W} {pos : Pos}
theorem za0 (ha : IE X Wx a Fa) (hb : IE X Wx b Fb) (hs : PlainIx b := by intro _ _; rfl) : IE X Wx (.Subscript a b pos) (mBin ixW Fa Fb) := ie_ix ix_seq ok_ix ha hb hs
end
abbrev MO := M (Option Int)
def zay : MO := fun _ hp => .ok none hp
def zbn (F : M W) : MO := fun eta hp => (F eta hp).bind fun a h1 => match a with | .t (.int i) => .ok (some i) h1 | _ => .bad
def IO (X : Cx) (Wx : WX) (e : Option Expr) (F : MO) : Prop := PO X e (tM X.K X.w Wx Yep F)
def cutL {A : Type} (xs : List A) (lo hi : Option Int) : List A := (xs.drop (HT.sIx xs.length 0 lo)).take (HT.sIx xs.length xs.length hi - HT.sIx xs.length 0 lo)
/-- a slice: of a frozen list a frozen one, of a live list a frozen one -/
def slW (a : W) (lo hi : Option Int) (hp : IH) : Res W := match a with
 | .t (.str z) => if z.length ≤ 16777216 then .ok (.t (.str (cutS z lo hi))) hp else .bad
 | .t (.tup ts) => .ok (.t (.tup Yd0)) hp
 | .t (.lst ts) => .ok (.t (.lst Yd0)) hp
 | .t (.scr ts) => .ok (.t (.lst Yd0)) hp
 | .r i => (match (getL hp i).bind allT with | some ts => .ok (.t (.lst Yd0)) hp | none => .bad)
 | _ => .bad
def mSl (Fa : M W) (Fl Fh : MO) : M W := fun eta hp => (Fa eta hp).bind fun a h1 => (Fl eta h1).bind fun l h2 => (Fh eta h2).bind fun h h3 => slW a l h h3
section
variable {X : Cx} {Wx : WX} {a b c e : Expr} {lo hi : Option Expr} {Fa Fb Fc F : M W} {Fl Fh : MO} {pos p2 : Pos}
theorem PO.imp {e : Option Expr} {t t' : TO} (h : PO X e t) (i : ∀ σ H Q, t' σ H Q → t σ H Q) : PO X e t' := ⟨fun pins s σ H Q I hw => h.run pins s σ H Q I Ydx⟩
theorem io_none : IO X Wx none zay := PO.imp po_none fun σ H Q h => by
 obtain ⟨s, eta, e1, R1, S1, g⟩ := h
 subst e1
 exact g none s rfl Ye R1 rfl
theorem zb3 (h : IE X Wx e F) : IO X Wx (some e) (zbn F) := PO.imp (po_some h) fun σ H Q h =>
 tM.bind1 (R := fun (x : V) (H1 : Hp) => ∃ i, x = .int i ∧ Q (some i) H1) (k := fun (a : W) _ h1 => (match a with | .t (.int i) => .ok (some i) h1 | _ => .bad : Res (Option Int))) h fun s eta a b R1 _ f1 g => by
  split at g
  ·rename_i i
   simp only [Rw, Rf] at f1
   exact ⟨i, f1, g (some i) s rfl Ye R1 rfl⟩
  ·exact g.elim
theorem cut_rf {K : PySem.W.Frag} {s : S4} : ∀ {ts : List T} {vs : List V} (n m : Nat), RfL K s.fz s.H ts vs → RfL K s.fz s.H ((ts.drop n).take m) ((vs.drop n).take m) := by
 intro ts vs n
 induction n generalizing ts vs with
 | zero =>
  intro m
  induction m generalizing ts vs with
  | zero => intro _; simp [RfL]
  | succ m ih =>
   intro h
   cases ts with
   | nil => simp only [RfL] at h; subst h; simp [RfL]
   | cons t ts =>
    simp only [RfL] at h
    obtain ⟨v, r, e, a, b⟩ := h
    subst e
    simp only [List.drop_zero, List.take_succ_cons, RfL]
    exact ⟨v, _, rfl, a, by simpa using ih b⟩
 | succ n ih =>
  intro m h
  cases ts with
  | nil => simp only [RfL] at h; subst h; simp [RfL]
  | cons t ts =>
   simp only [RfL] at h
   obtain ⟨v, r, e, a, b⟩ := h
   subst e
   simpa using ih m b
theorem cutL_rf {K : PySem.W.Frag} {s : S4} {ts : List T} {vs : List V} (lo hi : Option Int) (h : RfL K s.fz s.H ts vs) : RfL K s.fz s.H Yd0 (cutV vs lo hi) := by
 unfold cutL cutV
 rw [RfL.length h]
 exact cut_rf _ _ h
theorem cutL_whole {A : Type} {ts : List A} {lo hi : Option Int} (h : HT.sIx ts.length 0 lo = 0 ∧ HT.sIx ts.length ts.length hi = ts.length) : cutL ts lo hi = ts := by
 unfold cutL
 rw [h.1, h.2]
 simp
theorem SlR.or3 {r1 r2 r3 : V → Option Int → Option Int → Hp → VK → Prop} (h1 : SlR X r1) (h2 : SlR X r2) (h3 : SlR X r3) : SlR X (fun x lo hi H Q => r1 x lo hi H Q ∨ (r2 x lo hi H Q ∨ r3 x lo hi H Q)) := h1.or (h2.or h3)
/-- t[lo:hi]: the whole of it is t itself; the object of a new one is known -/
def rSlB (K : PySem.W.Frag) : V → Option Int → Option Int → Hp → VK → Prop := fun x l u H Q => ∃ a xs, x = .ref a ∧ SqT K H a xs ∧
 (HT.sIx xs.length 0 l = 0 ∧ HT.sIx xs.length xs.length u = xs.length → Q (.ref a) H) ∧
 (¬ (HT.sIx xs.length 0 l = 0 ∧ HT.sIx xs.length xs.length u = xs.length) → ∀ (p : Addr) (o : Obj), H p = none → o.dict = none → Q (.ref p) (upd H p (.frz o (.tup (cutV xs l u)))))
theorem sl_tupB : SlR X (rSlB X.K) := by
 intro pn s0 σ H x v vl vu l u sl Q J rx hs pl pu h
 obtain ⟨a, xs, ex, hx, q1, q2⟩ := h
 subst ex
 cases rx
 obtain ⟨its, r, ht, hz⟩ := J.tuple hx
 have hlen : its.toArray.size = xs.length := by rw [List.size_toArray]; exact r.length.symm
 by_cases hw : HT.sIx xs.length 0 l = 0 ∧ HT.sIx xs.length xs.length u = xs.length
 ·exact ⟨"tuple", _, PyProof.Rows.slot_tuple_getitem.lookup, ht.typeIs, getItem_tuple_whole ht hs pl pu (by rw [hlen]; exact hw) ⟨.ref a, H, J, rfl, q1 hw⟩⟩
 ·refine ⟨"tuple", _, PyProof.Rows.slot_tuple_getitem.lookup, ht.typeIs, HT.getItem_tuple_cut ht hs pl pu (by rw [hlen]; exact hw) ?_ (by rw [hlen]; exact hz)⟩
  rw [hlen]
  exact laid_tup (t' := s0.toks) J ((r.drop (HT.sIx xs.length 0 l)).take (HT.sIx xs.length xs.length u - HT.sIx xs.length 0 l)) (Nat.le_trans (cutV_length xs l u) hz) (q2 hw)
theorem zbt (ha : IE X Wx a Fa) (hl : IO X Wx lo Fl) (hh : IO X Wx hi Fh) : IE X Wx (.Subscript a (.Slice lo hi none p2) pos) (mSl Fa Fl Fh) :=
 PE.imp (pe_slice (SlR.or3 sl_list sl_tupB sl_str) ha hl hh) fun σ H Q h =>
  tM.bind1 (R := fun (x : V) (H1 : Hp) => tM X.K X.w Wx Yep Fl σ H1 fun l H2 => tM X.K X.w Wx Yep Fh σ H2 fun u H3 => rSlL X.K x l u H3 Q ∨ (rSlB X.K x l u H3 Q ∨ rSlS x l u H3 Q))
   (k := fun (w : W) eta h1 => (Fl eta h1).bind fun l h2 => (Fh eta h2).bind fun h h3 => slW w l h h3) h fun s eta w v R1 S1 f1 g => by
   refine ⟨s, eta, rfl, R1, S1, Go.bind g fun l l' s2 A2 R2 e2 _ g2 => ?_⟩
   subst e2
   refine ⟨s2, eta, rfl, R2, S1.aft A2 R1, Go.bind g2 fun u u' s3 A3 R3 e3 _ g3 => ?_⟩
   subst e3
   have f3 := (f1.aft A2 R1).aft A3 R2
   unfold slW at g3
   split at g3
   ·rename_i z
    split at g3
    ·rename_i hz
     simp only [Rw, Rf] at f3
     exact .inr (.inr ⟨z, f3, by rw [sizeLine_eq]; exact hz, g3 _ s3 rfl (Aft.refl s3) R3 Yf⟩)
    ·exact g3.elim
   ·rename_i ts
    obtain ⟨p, xs, e, t, q⟩ : ∃ a vs, v = .ref a ∧ FTup X.K s3.fz s3.H a vs ∧ RfL X.K s3.fz s3.H ts vs := by simpa only [Rw, Rf] using f3
    have hl := RfL.length q
    refine .inr (.inl ⟨p, xs, e, t.sq, fun hw => ?_, fun hw p' o np d => ?_⟩)
    ·refine g3 (.ref p) s3 rfl (Aft.refl s3) R3 ?_
     rw [← hl] at hw
     rw [cutL_whole hw]
     simp only [Rw, Rf]
     exact ⟨p, xs, rfl, t, q⟩
    ·exact g3 (.ref p') (s3.addF p' (.frz o (.tup (cutV xs l u)))) rfl (za4 R3 np) (zbi R3 np) (addF_tup R3 np d (cutL_rf l u q))
   ·rename_i ts
    obtain ⟨p, xs, e, t, q⟩ : ∃ a vs, v = .ref a ∧ FLst s3.fz s3.H a vs ∧ RfL X.K s3.fz s3.H ts vs := by simpa only [Rw, Rf] using f3
    exact .inl ⟨p, xs, e, t.sq, fun p' np => g3 (.ref p') Ye0 rfl (za4 R3 np) (zbi R3 np) (zci R3 np (cutL_rf l u q))⟩
   ·rename_i ts
    obtain ⟨p, xs, e, t, q⟩ : ∃ a vs, v = .ref a ∧ FScr X.K s3.fz s3.H a vs ∧ RfL X.K s3.fz s3.H ts vs := by simpa only [Rw, Rf] using f3
    exact .inl ⟨p, xs, e, t.sq, fun p' np => g3 (.ref p') Ye0 rfl (za4 R3 np) (zbi R3 np) (zci R3 np (cutL_rf l u q))⟩
   ·rename_i i
    split at g3
    ·rename_i ts hq
     rw [Option.bind_eq_some_iff] at hq
     obtain ⟨ws, h1, h2⟩ := hq
     obtain ⟨p, xs, e', _, e2, l', _⟩ := R3.lst h1 f3
     rw [zbh h2] at l'
     exact .inl ⟨p, xs, e', .inl (.inl e2), fun p' np => g3 (.ref p') Ye0 rfl (za4 R3 np) (zbi R3 np) (zci R3 np (cutL_rf l u (RwL.of_trees.mp l')))⟩
    ·exact g3.elim
   ·exact g3.elim
end
end Mir
namespace Mir
open PySem PySem.Spec L2
open PyProof.Rows hiding St
def zcr (hp : IH) : W → Option (List W)
 | .t (.lst xs) => some Yet
 | .t (.scr xs) => some Yet
 | .t _ => none
 | .r i => getL hp i
def asI : W → Option Int | .t (.int i) => some i | _ => none
def asBl : W → Option Bool | .t (.bl b) => some b | _ => none
def asS : W → Option Str | .t (.str b) => some b | _ => none
def allW {A : Type} (f : W → Option A) : List W → Option (List A)
 | [] => some []
 | w :: ws => (f w).bind fun a => (allW f ws).map fun r => a :: r
section
variable {K : PySem.W.Frag} {ω : World} {s : S4}
theorem litems_sq (R : Rel K ω s) {w : W} {v : V} {ws : List W} (h : zcr s.hp w = some ws) (r : Rw K s w v) : ∃ p xs, v = .ref p ∧ SqL K s.H p xs ∧ RwL K s ws xs := by
 unfold zcr at h
 split at h
 ·simp only [Option.some.injEq] at h
  subst h
  obtain ⟨p, xs, e, t, q⟩ : ∃ a vs, v = .ref a ∧ FLst s.fz s.H a vs ∧ RfL K s.fz s.H _ vs := by simpa only [Rw, Rf] using r
  exact ⟨p, xs, e, t.sq, RwL.of_trees.mpr q⟩
 ·simp only [Option.some.injEq] at h
  subst h
  obtain ⟨p, xs, e, t, q⟩ : ∃ a vs, v = .ref a ∧ FScr K s.fz s.H a vs ∧ RfL K s.fz s.H _ vs := by simpa only [Rw, Rf] using r
  exact ⟨p, xs, e, t.sq, RwL.of_trees.mpr q⟩
 ·cases h
 ·obtain ⟨a, vs, e, _, e2, l, _⟩ := R.lst h r
  exact ⟨a, vs, e, .inl (.inl e2), l⟩
theorem allB_eq : ∀ {ws : List W} {ns : List Bool} {vs : List V}, allW asBl ws = some ns → RwL K s ws vs → vs = ns.map V.bl
 | [], ns, vs, h, r => by
  simp only [allW, Option.some.injEq] at h
  subst h
  exact r
 | w :: ws, ns, vs, h, r => by
  simp only [allW, Option.bind_eq_some_iff, Option.map_eq_some_iff] at h
  obtain ⟨a, h1, m, h2, h3⟩ := h
  subst h3
  obtain ⟨v, t, e, rv, rt⟩ := r
  subst e
  rw [allB_eq h2 rt]
  unfold asBl at h1
  split at h1
  ·simp only [Option.some.injEq] at h1
   subst h1
   simp only [Rw, Rf] at rv
   rw [rv]; rfl
  ·cases h1
theorem RwL.one {w : W} {vs : List V} (r : RwL K s [w] vs) : ∃ v, vs = [v] ∧ Rw K s w v := by
 obtain ⟨v, t, e, a, b⟩ := r
 rw [show t = [] from b] at e
 exact ⟨v, e, a⟩
theorem RwL.two {w u : W} {vs : List V} (r : RwL K s [w, u] vs) : ∃ v x, vs = [v, x] ∧ Rw K s w v ∧ Rw K s u x := by
 obtain ⟨v, t, e, a, b⟩ := r
 obtain ⟨x, e2, b2⟩ := RwL.one b
 exact ⟨v, x, by rw [e, e2], a, b2⟩
/-- ints, texts, as trees -/
theorem ints_rf {fz : Addr → Prop} {H : Hp} : ∀ ns : List Int, RfL K fz H (ns.map T.int) Yca
 | [] => by simp [RfL]
 | n :: ns => by simp only [List.map_cons, RfL]; exact ⟨_, _, rfl, by simp [Rf], ints_rf ns⟩
theorem strs_rf {fz : Addr → Prop} {H : Hp} : ∀ ns : List Str, RfL K fz H (ns.map T.str) (ns.map V.str)
 | [] => by simp [RfL]
 | n :: ns => by simp only [List.map_cons, RfL]; exact ⟨_, _, rfl, by simp [Rf], strs_rf ns⟩
end
def oLen : OpN := fun ws hp => match ws with
 | [.t (.str z)] => if z.length ≤ 16777216 then .ok (.t (.int z.length)) hp else .bad
 | [w] => (match items hp w with | some xs => .ok (.t (.int xs.length)) hp | none => .bad)
 | _ => .bad
def oInt : OpN := fun ws hp => match ws with
 | [.t (.int i)] => .ok Yad hp
 | [.t (.bl b)] => .ok (.t (.int (if b then 1 else 0))) hp
 | _ => .bad
def oAbs : OpN := fun ws hp => match ws with
 | [.t (.int i)] => .ok (.t Ye6) hp
 | _ => .bad
def oMax2 : OpN := fun ws hp => match ws with
 | [.t (.int i), .t (.int j)] => .ok (.t (.int (if j > i then j else i))) hp
 | _ => .bad
def oMin2 : OpN := fun ws hp => match ws with
 | [.t (.int i), .t (.int j)] => .ok (.t (.int (if j < i then j else i))) hp
 | _ => .bad
def oOnL {A : Type} (f : W → Option A) (g : List A → IH → Res W) : OpN := fun ws hp => match ws with
 | [w] => (match (zcr hp w).bind (allW f) with | some ns => g ns hp | none => .bad)
 | _ => .bad
abbrev oAll : OpN := oOnL asBl fun bs hp => .ok (.t (.bl (bs.all id))) hp
def oListF : OpN := fun ws hp => match ws with
 | [w] => (match (items hp w).bind allT with | some ts => .ok Yw hp | none => .bad)
 | _ => .bad
def oListL : OpN := fun ws hp => match ws with
 | [w] => (match items hp w with | some xs => .ok Yb9 (hp ++ [some (.lst xs)]) | none => .bad)
 | _ => .bad
def oTup : OpN := fun ws hp => match ws with
 | [.t (.tup ts)] => .ok Yae hp
 | [w] => (match (zcr hp w).bind allT with | some ts => .ok Yae hp | none => .bad)
 | _ => .bad
section
variable {K : PySem.W.Frag} {ω : World} {Wx : WX}
theorem ok_len : OpNOk K ω Wx oLen (fun xs H Q => ∃ x n, xs = [x] ∧ LenV K x H n ∧ Q (.int n) H) := by
 intro s ws xs Q R r go
 unfold oLen at go
 split at go
 ·obtain ⟨v, e, rv⟩ := RwL.one r
  subst e
  simp only [Rw, Rf] at rv
  subst rv
  split at go
  ·rename_i hz
   exact ⟨_, _, rfl, ⟨by rw [sizeLine_eq]; exact hz, rfl⟩, go _ s rfl Ye R Yf⟩
  ·exact go.elim
 ·obtain ⟨v, e, rv⟩ := RwL.one r
  subst e
  split at go
  ·rename_i ys hi
   obtain ⟨p, zs, e, q, l⟩ := items_sq R hi rv
   subst e
   refine ⟨_, zs.length, rfl, ?_, by rw [← RwL.length l]; exact go _ s rfl Ye R Yf⟩
   rcases q with q | q
   ·exact .inr ⟨zs, q, rfl⟩
   ·exact .inl ⟨zs, q, rfl⟩
  ·exact go.elim
 ·exact go.elim
theorem ok_int : OpNOk K ω Wx oInt (fun xs H Q => (∃ i, xs = [.int i] ∧ Q (.int i) H) ∨ ∃ k, xs = [.bl k] ∧ Q (.int (if k then 1 else 0)) H) := by
 intro s ws xs Q R r go
 unfold oInt at go
 split at go
 ·obtain ⟨v, e, rv⟩ := RwL.one r
  simp only [Rw, Rf] at rv
  subst e rv
  exact .inl ⟨_, rfl, go _ s rfl Ye R Yf⟩
 ·obtain ⟨v, e, rv⟩ := RwL.one r
  simp only [Rw, Rf] at rv
  subst e rv
  exact .inr ⟨_, rfl, go _ s rfl Ye R Yf⟩
 ·exact go.elim
theorem ok_abs : OpNOk K ω Wx oAbs (fun xs H Q => ∃ i, xs = [.int i] ∧ Q Ye6 H) := by
 intro s ws xs Q R r go
 unfold oAbs at go
 split at go
 ·obtain ⟨v, e, rv⟩ := RwL.one r
  simp only [Rw, Rf] at rv
  subst e rv
  exact ⟨_, rfl, go _ s rfl Ye R Yf⟩
 ·exact go.elim
theorem ok_max2 : OpNOk K ω Wx oMax2 (fun xs H Q => ∃ i j, xs = [.int i, .int j] ∧ Q (.int (if j > i then j else i)) H) := by
 intro s ws xs Q R r go
 unfold oMax2 at go
 split at go
 ·obtain ⟨v, u, e, rv, ru⟩ := RwL.two r
  simp only [Rw, Rf] at rv ru
  subst e rv ru
  exact ⟨_, _, rfl, go _ s rfl Ye R Yf⟩
 ·exact go.elim
theorem ok_min2 : OpNOk K ω Wx oMin2 (fun xs H Q => ∃ i j, xs = [.int i, .int j] ∧ Q (.int (if j < i then j else i)) H) := by
 intro s ws xs Q R r go
 unfold oMin2 at go
 split at go
 ·obtain ⟨v, u, e, rv, ru⟩ := RwL.two r
  simp only [Rw, Rf] at rv ru
  subst e rv ru
  exact ⟨_, _, rfl, go _ s rfl Ye R Yf⟩
 ·exact go.elim
theorem onL {A : Type} {f : W → Option A} {g : List A → IH → Res W} {s : S4} {ws : List W} {xs : List V} {Q : VK} (R : Rel K ω s) (r : RwL K s ws xs) (go : Go K ω Wx (Rw K) s (oOnL f g ws s.hp) Q) :
  ∃ p zs ys ns, xs = [V.ref p] ∧ SqL K s.H p zs ∧ RwL K s ys zs ∧ allW f ys = some ns ∧ Go K ω Wx (Rw K) s (g ns s.hp) Q := by
 unfold oOnL at go
 split at go
 ·obtain ⟨v, e, rv⟩ := RwL.one r
  split at go
  ·rename_i ns hn
   rw [Option.bind_eq_some_iff] at hn
   obtain ⟨ys, h1, h2⟩ := hn
   obtain ⟨p, zs, ev, q, l⟩ := litems_sq R h1 rv
   subst e ev
   exact ⟨p, zs, ys, ns, rfl, q, l, h2, go⟩
  ·exact go.elim
 ·exact go.elim
theorem ok_all : OpNOk K ω Wx oAll (rAll K) := by
 intro s ws xs Q R r go
 obtain ⟨p, zs, ys, ns, e, q, l, h, go⟩ := onL R r go
 rw [allB_eq h l] at q
 exact ⟨p, ns, e, q, go _ s rfl Ye R Yf⟩
theorem ok_listF : OpNOk K ω Wx oListF Ybd := by
 intro s ws xs Q R r go
 unfold oListF at go
 split at go
 ·obtain ⟨v, e, rv⟩ := RwL.one r
  split at go
  ·rename_i ts ht
   rw [Option.bind_eq_some_iff] at ht
   obtain ⟨ys, h1, h2⟩ := ht
   obtain ⟨p, zs, ev, q, l⟩ := items_sq R h1 rv
   subst e ev
   rw [zbh h2] at l
   exact ⟨p, zs, rfl, q.symm, fun p' np => go (.ref p') (s.addF p' (.lst zs)) rfl (za4 R np) (zbi R np) (zci R np Ycr)⟩
  ·exact go.elim
 ·exact go.elim
theorem ok_listL : OpNOk K ω Wx oListL Ybd := by
 intro s ws xs Q R r go
 unfold oListL at go
 split at go
 ·obtain ⟨v, e, rv⟩ := RwL.one r
  split at go
  ·rename_i ys h1
   obtain ⟨p, zs, ev, q, l⟩ := items_sq R h1 rv
   subst e ev
   exact ⟨p, zs, rfl, q.symm, fun p' np => go (.ref p') (s.addL p' (.lst ys) (.lst zs)) rfl (aft_addL R np) (rel_addL R np ⟨zs, rfl, l⟩) (addL_r R)⟩
  ·exact go.elim
 ·exact go.elim
end
/-- tuple(x), the object of a new one known -/
def rTupS (K : PySem.W.Frag) : List V → Hp → VK → Prop := fun xs H Q => ∃ p ys, xs = [.ref p] ∧ ((SqL K H p ys ∧ ∀ (q : Addr) (o : Obj), H q = none → o.dict = none → Q (.ref q) (upd H q (.frz o (.tup ys)))) ∨ (SqT K H p ys ∧ Q (.ref p) H))
theorem call_tupS {X : Cx} : CallR X (.type "tuple") (rTupS X.K) := by
 intro pn s0 σ H xs us Q J r h
 obtain ⟨p, ys, rfl, h⟩ := h
 obtain ⟨u, rfl, rx⟩ := vals1 r
 cases rx
 rcases h with ⟨hq, q⟩ | ⟨hq, q⟩
 ·obtain ⟨its, rv, pl, hz⟩ := J.list hq
  refine call_tuple_list pl.isList (fun h' kp => ?_) (by rw [List.size_toArray, ← rv.length]; exact hz)
  exact laid_tup (s := { s0 with heap := h' }) (t' := s0.toks) (J.kept (t' := s0.toks) kp) rv hz q
 ·obtain ⟨its, rv, pl, hz⟩ := J.tuple hq
  exact call_tuple_same pl ⟨.ref p, H, J, rfl, q⟩
section
variable {K : PySem.W.Frag} {ω : World} {Wx : WX}
theorem ok_tup : OpNOk K ω Wx oTup (rTupS K) := by
 intro s ws xs Q R r go
 unfold oTup at go
 split at go
 ·obtain ⟨v, e, rv⟩ := RwL.one r
  subst e
  have rv' := rv
  obtain ⟨a, vs, ev, t, l⟩ : ∃ a vs, v = .ref a ∧ FTup K s.fz s.H a vs ∧ RfL K s.fz s.H _ vs := by simpa only [Rw, Rf] using rv
  subst ev
  exact ⟨a, vs, rfl, .inr ⟨t.sq, go _ s rfl Ye R rv'⟩⟩
 ·obtain ⟨v, e, rv⟩ := RwL.one r
  split at go
  ·rename_i ts ht
   rw [Option.bind_eq_some_iff] at ht
   obtain ⟨ys, h1, h2⟩ := ht
   obtain ⟨p, zs, ev, q, l⟩ := litems_sq R h1 rv
   subst e ev
   rw [zbh h2] at l
   exact ⟨p, zs, rfl, .inl ⟨q, fun p' o np d => go (.ref p') (s.addF p' (.frz o (.tup zs))) rfl (za4 R np) (zbi R np) (addF_tup R np d Ycr)⟩⟩
  ·exact go.elim
 ·exact go.elim
end
section
variable {X : Cx} {Wx : WX} {e : Expr} {es : List Expr} {Fs : M (List W)} {pos p : Pos} {x : Str} {id Ty : String} {f : OpN} {r : List V → Hp → VK → Prop}
theorem t_app (hf : OpNOk X.K X.w Wx f r) : ∀ σ H Q, tE X.K X.w Wx (mApp f Fs) σ H Q → tCB r (tA X.K X.w Wx Fs) σ H Q := fun σ H Q h =>
 tM.bind1 (R := fun (xs : List V) (H1 : Hp) => r xs H1 Q) (k := fun (a : List W) _ hp => f a hp) h fun s eta a b R1 _ f1 g => hf s a b Q R1 f1 g
theorem zcw (hc : CallR X (.builtin id) r) (hf : OpNOk X.K X.w Wx f r) (ha : IA X Wx Ybi Fs) (hm : X.mg x = none) (hg : Gl X x := by rfl) (hv : bootBuiltins x = some (.builtin id) := by with_unfolding_all rfl) (hn : x ≠ "__name__" := by decide) (hdb : (x == ("__debug__" : Str)) = false := by decide)
  (he : starEach Ybi X.env = (false, eval e X.env) :: starEach es X.env := by rfl) (hpl : (backTo pos Ybe).any (·.1) = false := by rfl) : IE X Wx Y8 (mApp f Fs) :=
 PE.imp (pe_callB hc hg hm hv ha hn hdb he hpl) (t_app hf)
theorem ie_bt (hc : CallR X (.type Ty) r) (hf : OpNOk X.K X.w Wx f r) (ha : IA X Wx Ybi Fs) (hm : X.mg x = none) (hg : Gl X x := by rfl) (hv : bootBuiltins x = some (.type Ty) := by with_unfolding_all rfl) (hn : x ≠ "__name__" := by decide) (hdb : (x == ("__debug__" : Str)) = false := by decide)
  (he : starEach Ybi X.env = (false, eval e X.env) :: starEach es X.env := by rfl) (hpl : (backTo pos Ybe).any (·.1) = false := by rfl) : IE X Wx Y8 (mApp f Fs) :=
 PE.imp (pe_callTy hc hg hm hv ha hn hdb he hpl) (t_app hf)
end
end Mir
namespace Mir
open PySem PySem.Spec L2
open PyProof.Rows hiding St
abbrev OpM := W → List W → IH → Res W
def OpMOk (K : PySem.W.Frag) (ω : World) (Wx : WX) (f : OpM) (r : V → List V → Hp → VK → Prop) : Prop :=
 ∀ (s : S4) (w : W) (ws : List W) (x : V) (xs : List V) (Q : VK), Rel K ω s → Rw K s w x → RwL K s ws xs → Go K ω Wx (Rw K) s (f w ws s.hp) Q → r x xs s.H Q
def mMeth0 (ty : W → IH → Bool) (f : OpM) (Fo : M W) : M W := fun eta hp => (Fo eta hp).bind fun w h1 => if ty w h1 = true then f w [] h1 else .bad
def mMeth (ty : W → IH → Bool) (f : OpM) (Fo : M W) (Fa : M (List W)) : M W := fun eta hp => (Fo eta hp).bind fun w h1 => if ty w h1 = true then (Fa eta h1).bind fun ws h2 => f w ws h2 else .bad
def isL (w : W) (hp : IH) : Bool := (zcr hp w).isSome
def isTp (w : W) (hp : IH) : Bool := match w with | .t (.tup _) => true | _ => false
section
variable {X : Cx} {Wx : WX} {o e : Expr} {es : List Expr} {Fo : M W} {Fs : M (List W)} {name : Str} {apos cpos : Pos} {id : String} {f : OpM} {r : V → List V → Hp → VK → Prop}
theorem isL_ty {K : PySem.W.Frag} {ω : World} {s : S4} {w : W} {v : V} (R : Rel K ω s) (r : Rw K s w v) (h : isL w s.hp = true) : tyV K "list" v s.H := by
 unfold isL at h
 obtain ⟨ws, hw⟩ := Option.isSome_iff_exists.mp h
 obtain ⟨p, xs, e, q, _⟩ := litems_sq R hw r
 subst e
 exact .inl ⟨rfl, xs, q⟩
theorem ie_lm0 (slot : Slot "list" name id) (hty : typeOf (.builtin id) = pure (.type "method_descriptor")) (hm : MtR X id r) (hf : OpMOk X.K X.w Wx f r) (ho : IE X Wx o Fo)
  (hbase : attributeBase o name X.env Ydo = eval o X.env := by rfl) (hline : (apos.endLine == cpos.line) = true := by rfl) : IE X Wx (.Call (.Attribute o name apos) [] [] cpos) (mMeth0 isL f Fo) :=
 PE.imp (pe_bm0 F.plainAttrs_list slot hty hm ho hbase hline) fun σ H Q h =>
  tM.bind1 (R := fun (x : V) (H1 : Hp) => tyV X.K "list" x H1 ∧ r x [] H1 Q) (k := fun (w : W) _ h1 => if isL w h1 = true then f w [] h1 else .bad) h fun s eta a b R1 _ f1 g => by
   split at g
   ·rename_i ht
    exact ⟨isL_ty R1 f1 ht, hf s a [] b [] Q R1 f1 rfl g⟩
   ·exact g.elim
theorem ie_lm (slot : Slot "list" name id) (hty : typeOf (.builtin id) = pure (.type "method_descriptor")) (hm : MtR X id r) (hf : OpMOk X.K X.w Wx f r) (ho : IE X Wx o Fo) (ha : IA X Wx Ybi Fs)
  (hbase : attributeBase o name X.env Ydo = eval o X.env := by rfl)
  (hfew : ((backTo cpos (starEach Ybi X.env)).all (fun x => !x.1) && (backToKw cpos (keywordEach [] X.env)).all (fun x => x.1.isSome) && decide ((e :: es).length + ([] : List Keyword).length + (if ([] : List Keyword).isEmpty then 0 else 1) < 30)) = true := by rfl)
  (hline : (apos.endLine == cpos.line) = true := by rfl) (hs : starEach Ybi X.env = (false, eval e X.env) :: starEach es X.env := by rfl) (hp : (backTo cpos Ybe).any (·.1) = false := by rfl) :
  IE X Wx (.Call (.Attribute o name apos) Ybi [] cpos) (mMeth isL f Fo Fs) :=
 PE.imp (pe_bm F.plainAttrs_list slot hty hm ho ha hbase hfew hline hs hp) fun σ H Q h =>
  tM.bind1 (R := fun (x : V) (H1 : Hp) => tyV X.K "list" x H1 ∧ tA X.K X.w Wx Fs σ H1 fun xs H2 => r x xs H2 Q) (k := fun (w : W) eta h1 => if isL w h1 = true then (Fs eta h1).bind fun ws h2 => f w ws h2 else .bad) h fun s eta a b R1 S1 f1 g => by
   split at g
   ·rename_i ht
    exact ⟨isL_ty R1 f1 ht, s, eta, rfl, R1, S1, Go.bind g fun ws xs s' A' R' r' _ g' => hf s' a ws b xs Q R' (f1.aft A' R1) r' g'⟩
   ·exact g.elim
end
def zcb : OpM := fun w ws hp => match w, ws with
 | .r i, [x] => (match getL hp i with | some xs => if xs.length < 16777216 then .ok Yaw (hp.set i (some (.lst (xs ++ [x])))) else .bad | none => .bad)
 | _, _ => .bad
/-- what is a list of its own in the heap -/
def hitems (hp : IH) : W → Option (List W)
 | .t (.lst xs) => some Yet
 | .t _ => none
 | .r i => getL hp i
def oPop : OpM := fun w ws hp => match w, ws with
 | .r i, [] => (match getL hp i with | some xs => (match xs[xs.length - 1]? with | some y => .ok y (hp.set i (some (.lst xs.dropLast))) | none => .bad) | none => .bad)
 | _, _ => .bad
def oPopAt : OpM := fun w ws hp => match w, ws with
 | .r i, [.t (.int k)] => (match getL hp i with
  | some xs => if -(2 ^ 63) ≤ k ∧ k < 2 ^ 63 then (match seqIndex? k xs.length with | some j => (match xs[j]? with | some y => .ok y (hp.set i (some (.lst (xs.eraseIdx j)))) | none => .bad) | none => .bad) else .bad
  | none => .bad)
 | _, _ => .bad
section
variable {K : PySem.W.Frag} {ω : World} {Wx : WX}
theorem RwL.dropLast {s : S4} : ∀ {ws : List W} {vs : List V}, RwL K s ws vs → RwL K s ws.dropLast vs.dropLast
 | [], _, h => by rw [show _ = [] from h]; rfl
 | [x], _, h => by
  obtain ⟨v, r, e, a, b⟩ := h
  rw [show r = [] from b] at e
  subst e
  rfl
 | x :: y :: ws, _, h => by
  obtain ⟨v, r, e, a, b⟩ := h
  subst e
  have b' := b
  obtain ⟨v2, r2, e2, a2, b2⟩ := b'
  subst e2
  exact ⟨v, _, rfl, a, RwL.dropLast b⟩
theorem RwL.eraseIdx {s : S4} : ∀ {ws : List W} {vs : List V} (j : Nat), RwL K s ws vs → RwL K s (ws.eraseIdx j) (vs.eraseIdx j)
 | [], _, _, h => by rw [show _ = [] from h]; rfl
 | x :: ws, _, 0, h => by
  obtain ⟨v, r, e, a, b⟩ := h
  subst e
  exact b
 | x :: ws, _, j + 1, h => by
  obtain ⟨v, r, e, a, b⟩ := h
  subst e
  exact ⟨v, _, rfl, a, RwL.eraseIdx j b⟩
theorem RwL.setL {s : S4} : ∀ {ws : List W} {vs : List V} (j : Nat) {w : W} {v : V}, RwL K s ws vs → Rw K s w v → RwL K s (ws.set j w) (vs.set j v)
 | [], _, _, _, _, h, _ => by rw [show _ = [] from h]; rfl
 | x :: ws, _, 0, w, v, h, r => by
  obtain ⟨u, t, e, a, b⟩ := h
  subst e
  exact ⟨v, t, rfl, r, b⟩
 | x :: ws, _, j + 1, w, v, h, r => by
  obtain ⟨u, t, e, a, b⟩ := h
  subst e
  exact ⟨u, _, rfl, a, RwL.setL j b r⟩
/-- the items are set anew -/
theorem go_set {s : S4} {i : Nat} {a : Addr} {xs ys : List W} {us : List V} {w : W} {v : V} {Q : VK} (R : Rel K ω s) (h0 : getL s.hp i = some xs) (ha : s.rho[i]? = some a) (l : RwL K s ys us) (rv : Rw K s w v)
  (g : Go K ω Wx (Rw K) s (.ok w (s.hp.set i (some (.lst ys)))) Q) : Q v (upd s.H a (.lst us)) := by
 have A := aft_setL R (zbj h0) ha (c := .lst ys) (o := .lst us)
 exact g v (s.setL i a (.lst ys) (.lst us)) rfl A (rel_setL R (zbj h0) ha ⟨us, rfl, l⟩) (rv.aft A R)
theorem ok_append : OpMOk K ω Wx zcb rAppend := by
 intro s w ws x xs Q R rx rxs go
 unfold zcb at go
 split at go
 ·rename_i i y
  obtain ⟨u, e, ru⟩ := RwL.one rxs
  subst e
  split at go
  ·rename_i zs hz
   split at go
   ·rename_i hn
    obtain ⟨a, vs, ex, e1, e2, l, _⟩ := R.lst hz rx
    exact ⟨a, vs, u, ex, rfl, e2, by rw [← RwL.length l, sizeLine_eq]; exact hn, go_set R hz e1 (RwL.append l (show RwL K s [_] [u] from ⟨u, [], rfl, ru, rfl⟩)) Yf go⟩
   ·exact go.elim
  ·exact go.elim
 ·exact go.elim
theorem hitems_eq {s : S4} (R : Rel K ω s) {w : W} {v : V} {ws : List W} (h : hitems s.hp w = some ws) (r : Rw K s w v) : ∃ p xs, v = .ref p ∧ s.H p = some (.lst xs) ∧ RwL K s ws xs := by
 unfold hitems at h
 split at h
 ·simp only [Option.some.injEq] at h
  subst h
  obtain ⟨p, xs, e, t, q⟩ : ∃ a vs, v = .ref a ∧ FLst s.fz s.H a vs ∧ RfL K s.fz s.H _ vs := by simpa only [Rw, Rf] using r
  exact ⟨p, xs, e, t.2, RwL.of_trees.mpr q⟩
 ·cases h
 ·obtain ⟨a, vs, e, _, e2, l, _⟩ := R.lst h r
  exact ⟨a, vs, e, e2, l⟩
theorem ok_pop : OpMOk K ω Wx oPop rPop := by
 intro s w ws x xs Q R rx rxs go
 unfold oPop at go
 split at go
 ·rename_i i
  have e : xs = [] := rxs
  subst e
  split at go
  ·rename_i zs hz
   split at go
   ·rename_i y hy
    obtain ⟨a, vs, ex, e1, e2, l, _⟩ := R.lst hz rx
    obtain ⟨u, hu, ru⟩ := RwL.get l hy
    exact ⟨a, vs, u, ex, rfl, e2, by rw [← RwL.length l]; exact hu, go_set R hz e1 (RwL.dropLast l) ru go⟩
   ·exact go.elim
  ·exact go.elim
 ·exact go.elim
theorem ok_popAt : OpMOk K ω Wx oPopAt rPopAt := by
 intro s w ws x xs Q R rx rxs go
 unfold oPopAt at go
 split at go
 ·rename_i i k
  obtain ⟨u, e, ru⟩ := RwL.one rxs
  simp only [Rw, Rf] at ru
  subst e ru
  split at go
  ·rename_i zs hz
   split at go
   ·rename_i hk
    split at go
    ·rename_i j hj
     split at go
     ·rename_i y hy
      obtain ⟨a, vs, ex, e1, e2, l, _⟩ := R.lst hz rx
      obtain ⟨u, hu, ru⟩ := RwL.get l hy
      exact ⟨a, vs, k, j, u, ex, rfl, e2, hk.1, hk.2, by rw [← RwL.length l]; exact hj, hu, go_set R hz e1 (RwL.eraseIdx j l) ru go⟩
     ·exact go.elim
    ·exact go.elim
   ·exact go.elim
  ·exact go.elim
 ·exact go.elim
end
section
variable {X : Cx} {Wx : WX} {o e : Expr} {Fo : M W} {Fs : M (List W)} {apos cpos : Pos}
theorem ie_append (ho : IE X Wx o Fo) (ha : IA X Wx [e] Fs) (hb : attributeBase o "append" X.env Ydo = eval o X.env := by rfl)
  (hfew : ((backTo cpos (starEach [e] X.env)).all (fun x => !x.1) && (backToKw cpos (keywordEach [] X.env)).all (fun x => x.1.isSome) && decide ([e].length + ([] : List Keyword).length + (if ([] : List Keyword).isEmpty then 0 else 1) < 30)) = true := by rfl)
  (hline : (apos.endLine == cpos.line) = true := by rfl) (hs : starEach [e] X.env = (false, eval e X.env) :: starEach [] X.env := by rfl) : IE X Wx (.Call (.Attribute o "append" apos) [e] [] cpos) (mMeth isL zcb Fo Fs) :=
 ie_lm F.slot_list_append F.type_list_append mt_append ok_append ho ha hb hfew hline hs rfl
theorem ie_pop (ho : IE X Wx o Fo) (hb : attributeBase o "pop" X.env Ydo = eval o X.env := by rfl) (hline : (apos.endLine == cpos.line) = true := by rfl) :
  IE X Wx (.Call (.Attribute o "pop" apos) [] [] cpos) (mMeth0 isL oPop Fo) := ie_lm0 F.slot_list_pop F.type_list_pop mt_pop ok_pop ho hb hline
theorem ie_popAt (ho : IE X Wx o Fo) (ha : IA X Wx [e] Fs) (hb : attributeBase o "pop" X.env Ydo = eval o X.env := by rfl)
  (hfew : ((backTo cpos (starEach [e] X.env)).all (fun x => !x.1) && (backToKw cpos (keywordEach [] X.env)).all (fun x => x.1.isSome) && decide ([e].length + ([] : List Keyword).length + (if ([] : List Keyword).isEmpty then 0 else 1) < 30)) = true := by rfl)
  (hline : (apos.endLine == cpos.line) = true := by rfl) (hs : starEach [e] X.env = (false, eval e X.env) :: starEach [] X.env := by rfl) : IE X Wx (.Call (.Attribute o "pop" apos) [e] [] cpos) (mMeth isL oPopAt Fo Fs) :=
 ie_lm F.slot_list_pop F.type_list_pop mt_popAt ok_popAt ho ha hb hfew hline hs rfl
end
end Mir
namespace Mir
open PySem PySem.Spec L2
open PyProof.Rows hiding St
def asK : W → Option Key | .t (.int i) => some (.inl i) | .t (.str x) => some (.inr x) | _ => none
def getD (hp : IH) (i : Nat) : Option (List Yc8) := match hp[i]? with
 | some (some (.dic kvs)) => some kvs
 | _ => none
def valW (kvs : List Yc8) (k : Key) : Option W := (kvs.find? fun kv => decide (kv.1 = k)).map (·.2)
def putW (kvs : List Yc8) (k : Key) (w : W) : List Yc8 :=
 if (kvs.any fun kv => decide (kv.1 = k)) = true then kvs.map (fun kv => if kv.1 = k then (kv.1, w) else kv) else kvs ++ [(k, w)]
def mergeW (kvs more : List Yc8) : List Yc8 := more.foldl (fun acc kv => putW acc kv.1 kv.2) kvs
section
variable {K : PySem.W.Frag} {ω : World} {s : S4}
theorem getD_eq {hp : IH} {i : Nat} {ws : List Yc8} (h : getD hp i = some ws) : hp[i]? = some (some (.dic ws)) := by
 unfold getD at h
 split at h
 ·rename_i kvs e
  simp only [Option.some.injEq] at h
  rw [e, h]
 ·cases h
theorem Rel.dic (R : Rel K ω s) {i : Nat} {v : V} {ws : List Yc8} (g : getD s.hp i = some ws) (r : Rw K s (.r i) v) : ∃ a vs, v = .ref a ∧ s.rho[i]? = some a ∧ s.H a = some (.dK vs) ∧ RwK K s ws vs ∧ ¬ s.fz a := by
 obtain ⟨a, e1, e2⟩ := r
 obtain ⟨vs, h1, h2⟩ := R.cell i _ a (getD_eq g) e1
 exact ⟨a, vs, e2, e1, h1, h2, R.fz a ⟨i, _, ⟨getD_eq g, True.intro⟩, e1⟩⟩
theorem RwK.val (k : Key) : ∀ {ws : List (Key × W)} {vs : List (Key × V)} {w : W}, RwK K s ws vs → valW ws k = some w → ∃ v, valV vs k = some v ∧ Rw K s w v
 | [], _, _, _, h => by simp [valW] at h
 | x :: ws, _, w, r, h => by
  obtain ⟨v, t, e, a, b⟩ := r
  subst e
  by_cases q : x.1 = k
  ·refine ⟨v, valV_pos (p := (x.1, v)) q, ?_⟩
   have : x.2 = w := by simpa [valW, List.find?_cons, q] using h
   rw [← this]; exact a
  ·have h' : valW ws k = some w := by simpa [valW, List.find?_cons, q] using h
   obtain ⟨u, h1, h2⟩ := RwK.val k b h'
   exact ⟨u, by rw [valV_neg (p := (x.1, v)) q]; exact h1, h2⟩
theorem RwK.none (k : Key) : ∀ {ws : List (Key × W)} {vs : List (Key × V)}, RwK K s ws vs → valW ws k = none → valV vs k = none
 | [], _, r, _ => by rw [show _ = [] from r]; rfl
 | x :: ws, _, r, h => by
  obtain ⟨v, t, e, a, b⟩ := r
  subst e
  by_cases q : x.1 = k
  ·simp [valW, List.find?_cons, q] at h
  ·have h' : valW ws k = Option.none := by simpa [valW, List.find?_cons, q] using h
   rw [valV_neg (p := (x.1, v)) q]
   exact RwK.none k b h'
theorem RwK.any (k : Key) : ∀ {ws : List (Key × W)} {vs : List (Key × V)}, RwK K s ws vs → (vs.any fun kv => decide (kv.1 = k)) = ws.any fun kv => decide (kv.1 = k)
 | [], _, r => by rw [show _ = [] from r]; rfl
 | x :: ws, _, r => by
  obtain ⟨v, t, e, a, b⟩ := r
  subst e
  rw [List.any_cons, List.any_cons, RwK.any k b]
theorem RwK.repl (k : Key) {w : W} {v : V} (rv : Rw K s w v) : ∀ {ws : List (Key × W)} {vs : List (Key × V)}, RwK K s ws vs → RwK K s (ws.map fun kv => if kv.1 = k then (kv.1, w) else kv) (vs.map fun kv => if kv.1 = k then (kv.1, v) else kv)
 | [], _, r => by rw [show _ = [] from r]; rfl
 | x :: ws, _, r => by
  obtain ⟨u, t, e, a, b⟩ := r
  subst e
  rw [List.map_cons, List.map_cons]
  by_cases q : x.1 = k
  ·rw [if_pos q, if_pos q]
   exact ⟨v, _, rfl, rv, RwK.repl k rv b⟩
  ·rw [if_neg q, if_neg q]
   exact ⟨u, _, rfl, a, RwK.repl k rv b⟩
theorem RwK.snoc {k : Key} {w : W} {v : V} (rv : Rw K s w v) : ∀ {ws : List (Key × W)} {vs : List (Key × V)}, RwK K s ws vs → RwK K s (ws ++ [(k, w)]) (vs ++ [(k, v)])
 | [], _, r => by rw [show _ = [] from r]; exact ⟨v, [], rfl, rv, rfl⟩
 | x :: ws, _, r => by
  obtain ⟨u, t, e, a, b⟩ := r
  subst e
  exact ⟨u, _, rfl, a, RwK.snoc rv b⟩
theorem RwK.put (k : Key) {w : W} {v : V} (rv : Rw K s w v) {ws : List Yc8} {vs : List (Key × V)} (r : RwK K s ws vs) : RwK K s (putW ws k w) (putK vs k v) := by
 unfold putW putK
 rw [r.any k]
 split
 ·exact r.repl k rv
 ·exact r.snoc rv
theorem RwK.length : ∀ {ws : List (Key × W)} {vs : List (Key × V)}, RwK K s ws vs → ws.length = vs.length
 | [], _, r => by rw [show _ = [] from r]; rfl
 | x :: ws, _, r => by
  obtain ⟨u, t, e, a, b⟩ := r
  subst e
  rw [List.length_cons, List.length_cons, RwK.length b]
end
/-- d[k] -/
def dGet : Op2 := fun a b hp => match a, asK b with
 | .r i, some k => (match (getD hp i).bind fun kvs => valW kvs k with | some w => .ok w hp | none => .bad)
 | _, _ => .bad
/-- d[k] = v: the value, the dict, the key -/
def mDPut (Fd Fk Fv : M W) : M Fl := fun eta hp => (Fv eta hp).bind fun v h1 => (Fd eta h1).bind fun d h2 => (Fk eta h2).bind fun k h3 => match d, asK k with
 | .r i, some k => (match getD h3 i with | some kvs => if kvs.length < 16777216 then .ok Ycc (h3.set i (some (.dic (putW kvs k v)))) else .bad | none => .bad)
 | _, _ => .bad
def mVals : List (Key × M W) → M (List Yc8)
 | [] => fun _ hp => .ok [] hp
 | (k, F) :: r => fun eta hp => (F eta hp).bind fun w h1 => (mVals r eta h1).bind fun ws h2 => .ok ((k, w) :: ws) h2
def mDisp (ps : List (Key × M W)) : M W := fun eta hp => (mVals ps eta (hp ++ [some (.dic [])])).bind fun kvs h1 => match getD h1 hp.length with
 | some [] => if kvs.length ≤ 15 then .ok Yb9 (h1.set hp.length (some (.dic (mergeW [] kvs)))) else .bad
 | _ => .bad
end Mir
namespace Mir
open PySem PySem.Spec L2
open PyProof.Rows hiding St
/-- t + u of tuples, the object of a new one known -/
def rCatB (K : PySem.W.Frag) : R2 := fun x y H Q => ∃ a b xs ys, x = .ref a ∧ y = .ref b ∧ SqT K H a xs ∧ SqT K H b ys ∧ xs.length + ys.length ≤ sizeLine ∧
 (xs = [] → Q (.ref b) H) ∧ (xs ≠ [] → ys = [] → Q (.ref a) H) ∧ (xs ≠ [] → ys ≠ [] → ∀ (p : Addr) (o : Obj), H p = none → o.dict = none → Q (.ref p) (upd H p (.frz o (.tup (xs ++ ys)))))
theorem op_catB {X : Cx} : OpR X (binaryOp .Add) (rCatB X.K) := by
 intro pn s0 σ H x y v u Q J rx ry h
 obtain ⟨a, b, xs, ys, ex, ey, ha, hb, hz, q0, q1, q2⟩ := h
 subst ex ey
 by_cases hx : xs = []
 ·exact op_catA pn s0 σ H _ _ v u Q J rx ry ⟨a, b, xs, ys, rfl, rfl, ha, hb, hz, q0, fun c => absurd hx c, fun c => absurd hx c⟩
 ·cases rx
  cases ry
  obtain ⟨its, r1, p1, _⟩ := J.tuple ha
  obtain ⟨its2, r2, p2, _⟩ := J.tuple hb
  refine HT.cat_tup p1 p2 (fun z => hx (r1.nil_iff.mp z)) (fun z => ⟨.ref a, H, J, rfl, q1 hx (r2.nil_iff.mp z)⟩) (fun z => ?_) (by rw [← r1.length, ← r2.length]; exact hz)
  exact laid_tup (t' := s0.toks) J (r1.append r2) (by rw [List.length_append]; exact hz) (q2 hx fun c => z (r2.nil_iff.mpr c))
def wAdd : Op2 := fun a b hp => match a, b with
 | .t (.int i), .t (.int j) => .ok (.t (.int (i + j))) hp
 | .t (.str x), .t (.str y) => if x.length + y.length ≤ 16777216 then .ok (.t (.str (x ++ y))) hp else .bad
 | .t (.tup xs), .t (.tup ys) => if xs.length + ys.length ≤ 16777216 then .ok (.t (.tup (xs ++ ys))) hp else .bad
 | a, b => (match (hitems hp a).bind allT, (hitems hp b).bind allT with
  | some xs, some ys => if xs.length + ys.length ≤ 16777216 then .ok Yfa hp else .bad
  | _, _ => .bad)
abbrev rAdd (K : PySem.W.Frag) : R2 := fun x y H Q => rI0 (fun i j => .int (i + j)) x y H Q ∨ (fun x y H Q => ∃ i j, x = .str i ∧ y = .str j ∧ i.length + j.length ≤ sizeLine ∧ Q (.str (i ++ j)) H : R2) x y H Q ∨ rCatB K x y H Q ∨ rCat x y H Q
theorem op_addA {X : Cx} : OpR X (binaryOp .Add) (rAdd X.K) := OpR.or op_add (OpR.or op_add_str (OpR.or op_catB op_cat))
section
variable {K : PySem.W.Frag} {ω : World} {Wx : WX}
theorem RfL.append {fz : Addr → Prop} {H : Hp} : ∀ {ws ws' : List T} {vs vs' : List V}, RfL K fz H ws vs → RfL K fz H ws' vs' → RfL K fz H (ws ++ ws') (vs ++ vs')
 | [], _, _, _, h, h' => by simp only [RfL] at h; subst h; exact h'
 | x :: xs, _, vs, _, h, h' => by
  simp only [RfL] at h
  obtain ⟨v, r, e, a, b⟩ := h
  subst e
  simp only [List.cons_append, RfL]
  exact ⟨v, _, rfl, a, RfL.append b h'⟩
theorem RfL.nil_of {fz : Addr → Prop} {H : Hp} {ts : List T} (h : RfL K fz H ts []) : ts = [] := by
 cases ts with
 | nil => rfl
 | cons t ts =>
  simp only [RfL] at h
  obtain ⟨v, r, e, _⟩ := h
  cases e
theorem ok_add : zcd K ω Wx wAdd (rAdd K) := by
 intro s a b x y Q R ra rb go
 unfold wAdd at go
 split at go
 ·simp only [Rw, Rf] at ra rb
  exact .inl ⟨_, _, ra, rb, go _ s rfl Ye R Yf⟩
 ·split at go
  ·rename_i hz
   simp only [Rw, Rf] at ra rb
   exact .inr (.inl ⟨_, _, ra, rb, by rw [sizeLine_eq]; exact hz, go _ s rfl Ye R Yf⟩)
  ·exact go.elim
 ·split at go
  ·rename_i xs ys hz
   obtain ⟨p, us, e1, t1, q1⟩ : ∃ a vs, x = .ref a ∧ FTup K s.fz s.H a vs ∧ RfL K s.fz s.H xs vs := by simpa only [Rw, Rf] using ra
   obtain ⟨p2, us2, e2, t2, q2⟩ : ∃ a vs, y = .ref a ∧ FTup K s.fz s.H a vs ∧ RfL K s.fz s.H ys vs := by simpa only [Rw, Rf] using rb
   refine .inr (.inr (.inl ⟨p, p2, us, us2, e1, e2, t1.sq, t2.sq, by rw [← RfL.length q1, ← RfL.length q2, sizeLine_eq]; exact hz, fun c => ?_, fun _ c => ?_, fun _ _ q o np d => ?_⟩))
   ·subst c
    rw [RfL.nil_of q1] at go
    rw [← e2]
    exact go _ s rfl Ye R rb
   ·subst c
    rw [RfL.nil_of q2, List.append_nil] at go
    rw [← e1]
    exact go _ s rfl Ye R ra
   ·exact go (.ref q) (s.addF q (.frz o (.tup (us ++ us2)))) rfl (za4 R np) (zbi R np) (addF_tup R np d (RfL.append q1 q2))
  ·exact go.elim
 ·split at go
  ·rename_i xs ys hx hy
   split at go
   ·rename_i hz
    rw [Option.bind_eq_some_iff] at hx hy
    obtain ⟨ws, h1, h2⟩ := hx
    obtain ⟨ws2, h3, h4⟩ := hy
    obtain ⟨p, us, e1, t1, q1⟩ := hitems_eq R h1 ra
    obtain ⟨p2, us2, e2, t2, q2⟩ := hitems_eq R h3 rb
    rw [zbh h2] at q1
    rw [zbh h4] at q2
    have l1 := RwL.of_trees.mp q1
    have l2 := RwL.of_trees.mp q2
    exact .inr (.inr (.inr ⟨p, p2, us, us2, e1, e2, t1, t2, by rw [← RfL.length l1, ← RfL.length l2, sizeLine_eq]; exact hz, fun q np =>
     go (.ref q) (s.addF q (.lst (us ++ us2))) rfl (za4 R np) (zbi R np) (zci R np (RfL.append l1 l2))⟩))
   ·exact go.elim
  ·exact go.elim
end
def repT (n : Nat) (ts : List T) : List T := (List.replicate n ts).flatten
def wMul : Op2 := fun a b hp => match a, b with
 | .t (.int i), .t (.int j) => if cMul i j = true then .ok (.t (.int (i * j))) hp else .bad
 | a, .t (.int k) => (match (hitems hp a).bind allT with
  | some ts => if -(2 ^ 63) ≤ k ∧ k < 2 ^ 63 ∧ ts.length * k.toNat ≤ 16777216 then .ok (.t (.lst (repT k.toNat ts))) hp else .bad
  | none => .bad)
 | _, _ => .bad
abbrev rMulA : R2 := fun x y H Q => rI CMulW (fun i j => .int (i * j)) x y H Q ∨ rRep x y H Q
theorem op_mulA {X : Cx} : OpR X (binaryOp .Mult) rMulA := OpR.or op_mulW op_rep
theorem rep_rf {K : PySem.W.Frag} {fz : Addr → Prop} {H : Hp} {ts : List T} {vs : List V} (h : RfL K fz H ts vs) : ∀ n : Nat, RfL K fz H (repT n ts) (List.replicate n vs).flatten
 | 0 => by simp [repT, RfL]
 | n + 1 => by
  have := RfL.append h (rep_rf h n)
  simpa [repT, List.replicate_succ] using this
theorem ok_mul {K : PySem.W.Frag} {ω : World} {Wx : WX} : zcd K ω Wx wMul rMulA := by
 intro s a b x y Q R ra rb go
 unfold wMul at go
 split at go
 ·split at go
  ·rename_i hc
   simp only [Rw, Rf] at ra rb
   exact .inl ⟨_, _, ra, rb, by simpa [cMul, CMulW] using hc, go _ s rfl Ye R Yf⟩
  ·exact go.elim
 ·rename_i k _
  split at go
  ·rename_i ts hx
   split at go
   ·rename_i hz
    rw [Option.bind_eq_some_iff] at hx
    obtain ⟨ws, h1, h2⟩ := hx
    obtain ⟨p, us, e1, t1, q1⟩ := hitems_eq R h1 ra
    rw [zbh h2] at q1
    have l1 := RwL.of_trees.mp q1
    have ey : y = .int k := by simpa only [Rw, Rf] using rb
    exact .inr ⟨p, k, us, e1, ey, t1, hz.1, hz.2.1, by rw [← RfL.length l1, sizeLine_eq]; exact hz.2.2, fun q np =>
     go (.ref q) (s.addF q (.lst (List.replicate k.toNat us).flatten)) rfl (za4 R np) (zbi R np) (zci R np (rep_rf l1 k.toNat))⟩
   ·exact go.elim
  ·exact go.elim
 ·exact go.elim
def wLt : Op2 := fun a b hp => match a, b with
 | .t (.int i), .t (.int j) => .ok (.t (.bl (decide (i < j)))) hp
 | .t (.str x), .t (.str y) => .ok (.t (.bl (ltCps x.cps.toList y.cps.toList))) hp
 | _, _ => .bad
abbrev rLtA : R2 := fun x y H Q => rI0 (fun i j => .bl (decide (i < j))) x y H Q ∨ (fun x y H Q => ∃ i j, x = .str i ∧ y = .str j ∧ Q (.bl (decide (i.cps.toList < j.cps.toList))) H : R2) x y H Q
theorem op_ltA {X : Cx} : OpR X (compareOp .Lt) rLtA := OpR.or op_lt op_lt_str
theorem ok_lt {K : PySem.W.Frag} {ω : World} {Wx : WX} : zcd K ω Wx wLt rLtA := by
 intro s a b x y Q R ra rb go
 unfold wLt at go
 split at go
 ·simp only [Rw, Rf] at ra rb
  exact .inl ⟨_, _, ra, rb, go _ s rfl Ye R Yf⟩
 ·simp only [Rw, Rf] at ra rb
  exact .inr ⟨_, _, ra, rb, go _ s rfl Ye R (by simp only [Rw, Rf, ltCps_eq])⟩
 ·exact go.elim
section
variable {X : Cx} {Wx : WX} {a b c e : Expr} {Fa Fb Fc F : M W} {pos : Pos}
theorem za7 (ha : IE X Wx a Fa) (hb : IE X Wx b Fb) : IE X Wx (.BinOp a .Add b pos) (mBin wAdd Fa Fb) := ie_bin op_addA ok_add ha hb
theorem ie_mulA (ha : IE X Wx a Fa) (hb : IE X Wx b Fb) : IE X Wx (.BinOp a .Mult b pos) (mBin wMul Fa Fb) := ie_bin op_mulA ok_mul ha hb
theorem it_ltA (ha : IE X Wx a Fa) (hb : IE X Wx b Fb) : IT X Wx (.Compare a [.Lt] [b] pos) (zaj asB (mBin wLt Fa Fb)) := it_cmp op_ltA ok_lt ha hb (nomark _)
theorem t_chain {f f' : Op2} {r r' : R2} (hf : zcd X.K X.w Wx f r) (hf' : zcd X.K X.w Wx f' r') : ∀ σ H Q, tE X.K X.w Wx (mChain f f' Fa Fb Fc) σ H Q → tChain r r' (tE X.K X.w Wx Fa) (tE X.K X.w Wx Fb) (tE X.K X.w Wx Fc) σ H Q := by
 intro σ H Q h
 refine tM.bind2 (Fam' := Rw X.K) (R := fun (x y : V) (H2 : Hp) => r x y H2 fun z H3 => ∃ k, z = .bl k ∧ (if k = true then tE X.K X.w Wx Fc σ H3 (fun w' H4 => r' y w' H4 Q) else Q Ybc H3))
  (k := fun a b eta h2 => (f a b h2).bind fun z h3 => match z with
   | .t (.bl true) => (Fc eta h3).bind fun c h4 => f' b c h4
   | .t (.bl false) => .ok (.t Ybc) h3
   | _ => .bad) Rw.keep h fun s eta a b a' b' R1 S1 f1 f2 g => ?_
 refine hf s a a' b b' _ R1 f1 f2 (Go.bind g fun z z' s2 A2 R2 r2 _ g2 => ?_)
 split at g2
 ·simp only [Rw, Rf] at r2
  subst r2
  refine ⟨true, rfl, ?_⟩
  rw [if_pos rfl]
  exact ⟨s2, eta, rfl, R2, S1.aft A2 R1, Go.bind g2 fun w w' s3 A3 R3 r3 _ g3 => hf' s3 a' w b' w' Q R3 ((f2.aft A2 R1).aft A3 R2) r3 g3⟩
 ·simp only [Rw, Rf] at r2
  subst r2
  refine ⟨false, rfl, ?_⟩
  rw [if_neg Yaz]
  exact g2 _ s2 rfl (Aft.refl s2) R2 Yf
 ·exact g2.elim
theorem it_chain {op op' : CmpOp} {f f' : Op2} {r r' : R2} (ho : OpR X (compareOp op) r) (hf : zcd X.K X.w Wx f r) (ho' : OpR X (compareOp op') r') (hf' : zcd X.K X.w Wx f' r') (ha : IE X Wx a Fa) (hb : IE X Wx b Fb) (hc : IE X Wx c Fc)
  (hm : lastMarks [op, op'] [b, c] = false := by with_unfolding_all rfl) : IT X Wx (.Compare a [op, op'] [b, c] pos) (zaj asB (mChain f f' Fa Fb Fc)) := PT.imp (pt_chain ho ho' ha hb hc hm) fun σ H Q h => by
 have h' : tE X.K X.w Wx (mChain f f' Fa Fb Fc) σ H (fun x H1 => ∃ k, x = .bl k ∧ Q k H1) := tM.bind1 (R := fun (x : V) (H1 : Hp) => ∃ k, x = .bl k ∧ Q k H1) (k := fun (a : W) _ hp => asB a hp) h fun s eta a b R1 _ f1 g => go_asB R1 f1 g
 exact t_chain hf hf' σ H _ h'
end
end Mir
namespace Mir
open PySem PySem.Spec L2
open PyProof.Rows hiding St
def mParG (n : Nat) (Fs : M (List W)) (Gs : List W → IS → Option IS) : M Fl := fun eta hp => (Fs eta hp).bind fun ws h1 => if ws.length = n ∧ n ≤ 16777216 then (match Gs ws eta with | some e => .ok (.nx e) h1 | none => .bad) else .bad
section
variable {X : Cx} {Wx : WX} {e : Expr} {es tgs : List Expr} {Fs : M (List W)} {F : M W} {pos p1 p2 : Pos} {gs : TGs} {Gs : List W → IS → Option IS} {vs : List Nat} {n k1 k2 : Nat}
def gA (n : Nat) (Gs : List W → IS → Option IS) : W → IS → Option IS := fun w eta => match w with
 | .t (.tup ts) => if ts.length = n then Gs Yl eta else none
 | .t (.pr ts) => if ts.length = n then Gs Yl eta else none
 | .t (.lst ts) => if ts.length = n then Gs Yl eta else none
 | _ => none
theorem PG.or {t t' : TG} (h : PG X e t) (h' : PG X e t') : PG X e (fun v σ H Q => t v σ H Q ∨ t' v σ H Q) := ⟨fun pins s σ H v u Q I r hw => by
 rcases hw with q | q
 ·exact h.run pins s σ H v u Q I r q
 ·exact h'.run pins s σ H v u Q I r q⟩
end
def mIput (Fd Fk Fv : M W) : M Fl := fun eta hp => (Fv eta hp).bind fun v h1 => (Fd eta h1).bind fun d h2 => (Fk eta h2).bind fun k h3 => match d, k with
 | .r i, .t (.int k) => (match getL h3 i with | some xs => (match ixN xs.length k with | some j => .ok Ycc (h3.set i (some (.lst (xs.set j v)))) | none => .bad) | none => .bad)
 | _, _ => .bad
section
variable {X : Cx} {Wx : WX} {o i value : Expr} {Fo Fi Fv : M W} {pos pos' : Pos}
theorem st_iput (ho : IE X Wx o Fo) (hi : IE X Wx i Fi) (hv : IE X Wx value Fv)
  (ha : ∀ v, assign (.Subscript o i pos') X.env v = (do
   let ov ← holding [v] Ydo
   let iv ← holding [v, ov] (eval i X.env)
   standAt pos'
   holding [v, ov, iv] (setItem ov iv v)
   release [v, ov, iv] []) := by intro _; rfl) (hs : swapsWithSole [.Subscript o i pos'] value pos.line X.env = pure false := by rfl) (hw : swappedStores [.Subscript o i pos'] value X.env = pure none := by rfl)
  (h1 : (assignEach [.Subscript o i pos'] X.env).map (·.2) = [assign (.Subscript o i pos') X.env] := by rfl) : ISt X Wx (.Assign [.Subscript o i pos'] value pos) (mIput Fo Fi Fv) :=
 PS.imp (ps_asg hv (pg_sub ho hi set_list ha) hs hw h1) fun D σ H h =>
  tM.bind1 (R := fun v H1 => tE X.K X.w Wx Fo σ H1 fun x H2 => tE X.K X.w Wx Fi σ H2 fun y H3 => rSetL x y v H3 fun H4 => D.nx σ H4)
   (k := fun v eta h1 => (Fo eta h1).bind fun d h2 => (Fi eta h2).bind fun k h3 => (match d, k with
    | .r i, .t (.int k) => (match getL h3 i with | some xs => (match ixN xs.length k with | some j => .ok (Fl.nx eta) (h3.set i (some (.lst (xs.set j v)))) | none => .bad) | none => .bad)
    | _, _ => .bad : Res Fl)) h fun s eta a b R1 S1 f1 g1 => by
   refine ⟨s, eta, rfl, R1, S1, Go.bind g1 fun d d' s2 A2 R2 r2 _ g2 => ?_⟩
   refine ⟨s2, eta, rfl, R2, S1.aft A2 R1, Go.bind g2 fun k k' s3 A3 R3 r3 _ g3 => ?_⟩
   have S3 := (S1.aft A2 R1).aft A3 R2
   have rd := r2.aft A3 R2
   have rv := (f1.aft A2 R1).aft A3 R2
   split at g3
   ·rename_i i k _ _
    split at g3
    ·rename_i xs hx
     split at g3
     ·rename_i j hj
      obtain ⟨p, vs, e, e1, e2, l, _⟩ := R3.lst hx rd
      have ek : k' = .int k := by simpa only [Rw, Rf] using r3
      have A := aft_setL R3 (zbj hx) e1 (c := .lst (xs.set j a)) (o := .lst (vs.set j b))
      exact ⟨p, vs, k, j, e, ek, e2, by rw [← RwL.length l]; exact hj, Go.nx (s := s3.setL i p (.lst (xs.set j a)) (.lst (vs.set j b))) (rel_setL R3 (zbj hx) e1 ⟨_, rfl, RwL.setL j l rv⟩) (S3.aft A R3) (Go.aft g3 A)⟩
     ·exact g3.elim
    ·exact g3.elim
   ·exact g3.elim
end
def mFz (i : Nat) (B : M Fl) : M Fl := fun eta hp => match eta[i]? with
 | some (some w) => (zbw w hp).bind fun w' h1 => B (eta.set i (some w')) h1
 | _ => .bad
section
variable {X : Cx} {Wx : WX} {rest : List Stmt} {B : M Fl}
theorem sl_same {K : PySem.W.Frag} {s : S4} {eta : IS} {σ : St} (S1 : Sl K s eta σ) (i : Nat) {w : W} {v : V} (h : σ[i]? = some (some v)) (r : Rw K s w v) : Sl K s Yed σ := by
 have q := S1.set i r
 have e : σ.set i (some v) = σ := by
  apply List.ext_getElem?
  intro j
  by_cases hj : i = j
  ·subst hj
   rw [List.getElem?_set_self (by exact (List.getElem?_eq_some_iff.mp h).1), h]
  ·rw [List.getElem?_set_ne hj]
 rw [e] at q
 exact q
theorem is_fz (i : Nat) (h : ISs X Wx rest B) : ISs X Wx rest (mFz i B) := PSs.imp h fun D σ H q => by
 obtain ⟨s, eta, e1, R1, S1, g⟩ := q
 unfold mFz at g
 split at g
 ·rename_i w hw
  obtain ⟨v, h1, h2⟩ := S1.2 i w hw
  cases w with
  | t x => exact ⟨s, _, e1, R1, sl_same S1 i h1 h2, g⟩
  | r j =>
   simp only [zbw] at g
   cases hl : (getL s.hp j).bind allT with
   | none => simp only [hl] at g; exact g.elim
   | some ts =>
    simp only [hl] at g
    rw [Option.bind_eq_some_iff] at hl
    obtain ⟨ws, q1, q2⟩ := hl
    obtain ⟨a, vs, e, ea, e2, l, _⟩ := R1.lst q1 h2
    subst e
    have A := aft_frz R1 (zbj q1) ea
    rw [zbh q2] at l
    refine ⟨s.frz j a, _, e1, rel_frz R1 (zbj q1) ea, sl_same (S1.aft A R1) i h1 ?_, Go.aft g A⟩
    simp only [Rw, Rf]
    exact ⟨a, vs, rfl, ⟨.inr rfl, e2⟩, RfL.aft A R1 _ _ Ycr⟩
 ·exact g.elim
end
end Mir
namespace Mir
open PySem PySem.Spec L2
open PyProof.Rows hiding St
/-- xs[::-1], a list that lives on -/
def oRevL : Op1 := fun a hp => match zcr hp a with
 | some ws => .ok Yb9 (hp ++ [some (.lst ws.reverse)])
 | none => .bad
theorem RwL.rev {K : PySem.W.Frag} {s : S4} : ∀ {ts : List W} {vs : List V}, RwL K s ts vs → RwL K s ts.reverse vs.reverse
 | [], _, h => by rw [show _ = [] from h]; rfl
 | x :: xs, vs, h => by
  obtain ⟨v, r, e, a, b⟩ := h
  subst e
  rw [List.reverse_cons, List.reverse_cons]
  exact RwL.append (RwL.rev b) (show RwL K s [x] [v] from ⟨v, [], rfl, a, rfl⟩)
section
variable {X : Cx} {Wx : WX} {e st a : Expr} {F : M W} {pos p3 p p1 pos1 : Pos} {live : Bool}
theorem t_revLv : ∀ σ H Q, tE X.K X.w Wx (mUn oRevL F) σ H Q → tRevL X.K (tE X.K X.w Wx F) σ H Q := fun σ H Q h =>
 tM.bind1 (R := fun (x : V) (H1 : Hp) => ∃ a xs, x = .ref a ∧ SqL X.K H1 a xs ∧ ∀ p, H1 p = none → Q (.ref p) (upd H1 p (.lst xs.reverse))) (k := fun (a : W) _ hp => oRevL a hp) h fun s eta a b R1 _ f1 g => by
  unfold oRevL at g
  split at g
  ·rename_i ws h1
   obtain ⟨p, us, e1, t1, q1⟩ := litems_sq R1 h1 f1
   exact ⟨p, us, e1, t1, fun q np => g (.ref q) (s.addL q (.lst ws.reverse) (.lst us.reverse)) rfl (aft_addL R1 np) (rel_addL R1 np ⟨_, rfl, RwL.rev q1⟩) (addL_r R1)⟩
  ·exact g.elim
theorem ie_revL {k : Nat} {p1 p2 : Pos} (he : IE X Wx e F) : IE X Wx (.Subscript e (.Slice none none (some (.UnaryOp .USub (.Constant (.int 1) k p1) p2)) p3) pos) (mUn oRevL F) := PE.imp (pe_revL he) t_revLv
end
end Mir
namespace Mir
open PySem PySem.Spec L2
open PyProof.Rows hiding St
end Mir
namespace Mir
open PySem PySem.Spec L2
open PyProof.Rows hiding St
theorem Sl.congr {K : PySem.W.Frag} {s s' : S4} {eta : IS} {σ : St} (hr : s'.rho = s.rho) (hf : ∀ a, s.fz a → s'.fz a) (k : ∀ a, s.fz a → s'.H a = s.H a) (h : Sl K s eta σ) : Sl K s' eta σ :=
 ⟨h.1, fun i w e => let ⟨v, a, b⟩ := h.2 i w e; ⟨v, a, b.congr hr hf k⟩⟩
end Mir
namespace Mir
open PySem PySem.Spec L2
open PyProof.Rows hiding St
end Mir
namespace Mir
open PySem PySem.Spec L2
open PyProof.Rows hiding St
end Mir
namespace Mir
open PySem PySem.Spec L2
open Sem (wp)
end Mir
namespace Mir
open PySem PySem.Spec L2
open PyProof.Rows hiding St
section
variable {K : PySem.W.Frag} {ω : World} {s : S4}
theorem RwK.split : ∀ {ws : List (Key × W)} {vs : List (Key × V)} {ts : List T}, RwK K s ws vs → allT (ws.map (·.2)) = some ts → RfL K s.fz s.H ts (vs.map (·.2)) ∧ vs = (ws.map (·.1)).zip (vs.map (·.2)) := by
 intro ws
 induction ws with
 | nil =>
  intro vs ts h e
  rw [show vs = [] from h]
  have e' : ts = [] := by simpa [allT] using e.symm
  subst e'
  exact ⟨by simp [RfL], rfl⟩
 | cons x xs ih =>
  intro vs ts h e
  obtain ⟨v, r, e1, a, b⟩ := h
  subst e1
  have q := zbh e
  cases ts with
  | nil => cases q
  | cons t ts =>
   simp only [List.map_cons, List.cons.injEq] at q
   obtain ⟨q1, q2⟩ := q
   have e2 : allT (xs.map (·.2)) = some ts := by
    rw [q2]
    clear e ih q2 b
    induction ts with
    | nil => rfl
    | cons u us ih => simp [allT, ih]
   obtain ⟨i1, i2⟩ := ih b e2
   rw [q1] at a
   refine ⟨?_, ?_⟩
   ·simp only [List.map_cons, RfL]
    exact ⟨v, _, rfl, a, i1⟩
   ·simp only [List.map_cons, List.zip_cons_cons]
    rw [← i2]
end
def freezeD (w : W) (hp : IH) : Res W := match w with
 | .r i => (match getD hp i with
  | some kvs => (match allT (kvs.map (·.2)) with | some ts => .ok (.t (.dic (kvs.map (·.1)) ts)) (hp.set i none) | none => .bad)
  | none => .bad)
 | _ => .bad
def mFrzD (F : M W) : M W := fun eta hp => (F eta hp).bind fun a h1 => freezeD a h1
section
variable {X : Cx} {Wx : WX} {e m k v : Expr} {F Fd Fk Fv : M W} {pos : Pos}
theorem RwK.isSome {K : PySem.W.Frag} {s : S4} (k : Key) {ws : List Yc8} {vs : List (Key × V)} (r : RwK K s ws vs) : (valV vs k).isSome = (valW ws k).isSome := by
 cases h : valW ws k with
 | none => rw [r.none k h]; rfl
 | some w => obtain ⟨v, h1, _⟩ := r.val k h; rw [h1]; rfl
end
end Mir
namespace Mir
open PySem PySem.Spec L2
open PyProof.Rows hiding St
end Mir
namespace Mir
open PySem PySem.Spec L2
open PyProof.Rows hiding St
end Mir
namespace Mir
open PySem PySem.Spec L2
open PyProof.Rows hiding St
def putG (kvs : List Yct) (k : List Key) (v : T) : List Yct :=
 if (kvs.any fun kv => decide (kv.1 = k)) = true then kvs.map (fun kv => if kv.1 = k then (kv.1, v) else kv) else kvs ++ [(k, v)]
def valD2 (kvs : List Yct) (k : List Key) : Option T := (kvs.find? fun kv => decide (kv.1 = k)).map (·.2)
section
variable {K : PySem.W.Frag} {ω : World} {Wx : WX} {s : S4}
abbrev RD (K : PySem.W.Frag) (fz : Addr → Prop) (H : Hp) : List Yct → List Yc7 → Prop := Paired fun e p => p.1 = e.1 ∧ Rf K fz H e.2 p.2
theorem RD.any {fz : Addr → Prop} {H : Hp} {l : List Yct} {kvs : List Yc7} (r : RD K fz H l kvs) (k : List Key) : (kvs.any fun kv => decide (kv.1 = k)) = l.any fun kv => decide (kv.1 = k) := by
 induction r with
 | nil => rfl
 | cons h t ih => simp only [List.any_cons, ih, h.1]
theorem RD.repl {fz : Addr → Prop} {H : Hp} {l : List Yct} {kvs : List Yc7} (r : RD K fz H l kvs) (k : List Key) {x : T} {v : V} (h : Rf K fz H x v) :
  RD K fz H (l.map fun kv => if kv.1 = k then (kv.1, x) else kv) (kvs.map fun kv => if kv.1 = k then (kv.1, v) else kv) := by
 induction r with
 | nil => exact .nil
 | @cons e p _ _ h1 t ih =>
  rw [List.map_cons, List.map_cons]
  refine .cons ?_ ih
  by_cases q : e.1 = k
  ·rw [if_pos q, if_pos (h1.1.trans q)]; exact ⟨h1.1, h⟩
  ·rw [if_neg q, if_neg (fun z => q (h1.1.symm.trans z))]; exact h1
theorem RD.put {fz : Addr → Prop} {H : Hp} {l : List Yct} {kvs : List Yc7} (r : RD K fz H l kvs) (k : List Key) {x : T} {v : V} (h : Rf K fz H x v) : RD K fz H (putG l k x) (putK kvs k v) := by
 unfold putG putK
 rw [r.any k]
 split
 ·exact r.repl k h
 ·exact Paired.snoc r ⟨rfl, h⟩
theorem RD.zip {fz : Addr → Prop} {H : Hp} {l : List Yct} {kvs : List Yc7} (r : RD K fz H l kvs) : kvs = (l.map (·.1)).zip (kvs.map (·.2)) ∧ RfL K fz H (l.map (·.2)) (kvs.map (·.2)) := by
 induction r with
 | nil => exact ⟨rfl, by simp [RfL]⟩
 | @cons e p _ _ h t ih =>
  refine ⟨?_, ?_⟩
  ·simp only [List.map_cons, List.zip_cons_cons]
   rw [← ih.1, ← h.1]
  ·simp only [List.map_cons, RfL]
   exact ⟨_, _, rfl, h.2, ih.2⟩
theorem RD.of {fz : Addr → Prop} {H : Hp} : ∀ {ks : List (List Key)} {ts : List T} {vs : List V}, RfL K fz H ts vs → RD K fz H (ks.zip ts) (ks.zip vs)
 | [], _, _, _ => .nil
 | k :: ks, [], vs, h => by simp only [RfL] at h; rw [h]; exact .nil
 | k :: ks, t :: ts, vs, h => by
  simp only [RfL] at h
  obtain ⟨v, r, rfl, a, b⟩ := h
  exact .cons ⟨rfl, a⟩ (RD.of b)
theorem RD.val {fz : Addr → Prop} {H : Hp} {l : List Yct} {kvs : List Yc7} (r : RD K fz H l kvs) (k : List Key) : (valD2 l k = none ∧ valV kvs k = none) ∨ ∃ x v, valD2 l k = some x ∧ valV kvs k = some v ∧ Rf K fz H x v := by
 induction r with
 | nil => exact .inl ⟨rfl, rfl⟩
 | @cons e p _ _ h t ih =>
  by_cases q : e.1 = k
  ·refine .inr ⟨e.2, p.2, ?_, valV_pos (h.1.trans q), h.2⟩
   simp [valD2, List.find?_cons, q]
  ·have e1 : valV (p :: _) k = valV _ k := valV_neg (r := by assumption) (fun z => q (h.1.symm.trans z))
   have e2 : ∀ r, valD2 (e :: r) k = valD2 r k := fun r => by simp [valD2, List.find?_cons, q]
   rw [e1, e2]
   exact ih
end
end Mir
namespace Mir
open PySem PySem.Spec L2
open PyProof.Rows hiding St
section
variable {prog : Program} {w : World}
theorem SeqH.there {h : Heap} {kd : Kd} {a : Addr} {its : Array Value} (x : SeqH h kd a its) : ∃ o, h.get? a = some o := by
 cases kd with
 | l => obtain ⟨o, e, _⟩ := x; exact ⟨o, e⟩
 | t => obtain ⟨o, e, _⟩ := x; exact ⟨o, e⟩
theorem SeqH.kp {h h' : Heap} {kd : Kd} {a : Addr} {its : Array Value} (x : SeqH h kd a its) (k : ∀ o, h.get? a = some o → h'.get? a = some o) : SeqH h' kd a its := by
 cases kd with
 | l => obtain ⟨o, e, r⟩ := x; exact ⟨o, k o e, r⟩
 | t => obtain ⟨o, e, r⟩ := x; exact ⟨o, k o e, r⟩
end
end Mir
namespace Mir
open PySem PySem.Spec L2
open PyProof.Rows hiding St
section
variable {A B : Type} {eta : IS} {hp : IH}
@[simp] theorem zae {a : A} {k : A → IH → Res B} : (Res.ok a hp).bind k = k a hp := rfl
@[simp] theorem bind_bad {k : A → IH → Res B} : (Res.bad : Res A).bind k = .bad := rfl
@[simp] theorem bind_er {e : Ex} {k : A → IH → Res B} : (Res.er e eta hp : Res A).bind k = .er e eta hp := rfl
@[simp] theorem zbp {a : A} : noEr (Res.ok a hp) = Res.ok a hp := rfl
@[simp] theorem noEr_bad : noEr (Res.bad : Res A) = .bad := rfl
@[simp] theorem then_nx {S : M Fl} {e : IS} : thenF S (.nx e) hp = S e hp := rfl
@[simp] theorem then_rt {S : M Fl} {w : W} : thenF S (.rt w) hp = .ok (.rt w) hp := rfl
@[simp] theorem then_bk {S : M Fl} {e : IS} : thenF S (.bk e) hp = .ok (.bk e) hp := rfl
@[simp] theorem then_ct {S : M Fl} {e : IS} : thenF S (.ct e) hp = .ok (.ct e) hp := rfl
@[simp] theorem p_var {i : Nat} : mVar i eta hp = (match eta[i]? with | some (some w) => .ok w hp | _ => .bad) := rfl
@[simp] theorem p_c {x : T} : mC x eta hp = (.ok (.t x) hp) := rfl
@[simp] theorem p_bin {f : Op2} {Fa Fb : M W} : mBin f Fa Fb eta hp = ((Fa eta hp).bind fun a h1 => (Fb eta h1).bind fun b h2 => f a b h2) := rfl
@[simp] theorem p_un {f : Op1} {Fa : M W} : mUn f Fa eta hp = ((Fa eta hp).bind fun a h1 => f a h1) := rfl
@[simp] theorem p_nil  : mNil eta hp = (.ok [] hp) := rfl
@[simp] theorem p_cons {Fa : M W} {Fr : M (List W)} : zab Fa Fr eta hp = ((Fa eta hp).bind fun a h1 => (Fr eta h1).bind fun r h2 => .ok (a :: r) h2) := rfl
@[simp] theorem p_star {Fa : M W} {Fr : M (List W)} : mStar Fa Fr eta hp = ((Fa eta hp).bind fun a h1 => match items h1 a with | some ws => (Fr eta h1).bind fun r h2 => .ok (ws ++ r) h2 | none => .bad) := rfl
@[simp] theorem p_app {f : OpN} {Fs : M (List W)} : mApp f Fs eta hp = ((Fs eta hp).bind fun a h1 => f a h1) := rfl
@[simp] theorem p_frz {F : M W} : mFrz F eta hp = ((F eta hp).bind fun a h1 => zbw a h1) := rfl
@[simp] theorem p_test {f : W → IH → Res Bool} {F : M W} : zaj f F eta hp = ((F eta hp).bind fun a h1 => f a h1) := rfl
@[simp] theorem p_and {U V : M Bool} : mAnd U V eta hp = ((U eta hp).bind fun a h1 => if a then V eta h1 else .ok false h1) := rfl
@[simp] theorem p_or {U V : M Bool} : mOr U V eta hp = ((U eta hp).bind fun a h1 => if a then .ok true h1 else V eta h1) := rfl
@[simp] theorem p_not {U : M Bool} : mNot U eta hp = ((U eta hp).bind fun a h1 => .ok (!a) h1) := rfl
@[simp] theorem p_if {A : Type} {U : M Bool} {F G : M A} : mIf U F G eta hp = ((U eta hp).bind fun b h1 => if b then F eta h1 else G eta h1) := rfl
@[simp] theorem p_andV {Fa Fb : M W} : mAndV Fa Fb eta hp = ((Fa eta hp).bind fun a h1 => match a with | .t (.bl true) => Fb eta h1 | .t (.bl false) => .ok (.t Ybc) h1 | _ => .bad) := rfl
@[simp] theorem p_orV {Fa Fb : M W} : mOrV Fa Fb eta hp = ((Fa eta hp).bind fun a h1 => match a with | .t (.bl true) => .ok (.t Yc9) h1 | .t (.bl false) => Fb eta h1 | _ => .bad) := rfl
@[simp] theorem p_notV {Fa : M W} : mNotV Fa eta hp = ((Fa eta hp).bind fun a h1 => match a with | .t (.bl b) => .ok (.t (.bl (!b))) h1 | _ => .bad) := rfl
@[simp] theorem p_chain {f g : Op2} {Fa Fb Fc : M W} : mChain f g Fa Fb Fc eta hp = ((Fa eta hp).bind fun a h1 => (Fb eta h1).bind fun b h2 => (f a b h2).bind fun z h3 => match z with | .t (.bl true) => (Fc eta h3).bind fun c h4 => g b c h4 | .t (.bl false) => .ok (.t Ybc) h3 | _ => .bad) := rfl
@[simp] theorem p_skip  : zcl eta hp = (.ok Ycc hp) := rfl
@[simp] theorem p_seq {S R : M Fl} : mSeq S R eta hp = ((S eta hp).bind (thenF R)) := rfl
@[simp] theorem p_ret {F : M W} : mRet F eta hp = ((F eta hp).bind fun a h1 => .ok (.rt a) h1) := rfl
@[simp] theorem p_retN  : mRetN eta hp = (.ok (.rt Yaw) hp) := rfl
@[simp] theorem p_drop {F : M W} : mDrop F eta hp = ((F eta hp).bind fun _ h1 => .ok Ycc h1) := rfl
@[simp] theorem p_brk  : mBrk eta hp = (.ok (.bk eta) hp) := rfl
@[simp] theorem p_cnt  : mCnt eta hp = (.ok (.ct eta) hp) := rfl
@[simp] theorem p_asg {F : M W} {G : W → IS → Option IS} : mAsg F G eta hp = ((F eta hp).bind fun a h1 => match G a eta with | some e => .ok (.nx e) h1 | none => .bad) := rfl
@[simp] theorem p_set {i : Nat} {F : M W} : mSet i F eta hp = ((F eta hp).bind fun a h1 => .ok (.nx Yc6) h1) := rfl
@[simp] theorem p_par {is : List Nat} {Fs : M (List W)} : mPar is Fs eta hp = ((Fs eta hp).bind fun ws h1 => if ws.length = is.length then .ok (.nx ((is.zip ws).foldl Yey eta)) h1 else .bad) := rfl
@[simp] theorem p_parG {n : Nat} {Fs : M (List W)} {Gs : List W → IS → Option IS} : mParG n Fs Gs eta hp = ((Fs eta hp).bind fun ws h1 => if ws.length = n ∧ n ≤ 16777216 then (match Gs ws eta with | some e => .ok (.nx e) h1 | none => .bad) else .bad) := rfl
@[simp] theorem p_aug {i : Nat} {f : Op2} {F : M W} : mAug i f F eta hp = (match eta[i]? with | some (some x) => (F eta hp).bind fun y h1 => (f x y h1).bind fun z h2 => .ok (.nx (eta.set i (some z))) h2 | _ => .bad) := rfl
@[simp] theorem p_for {Fi : M (List W)} {G : W → IS → Option IS} {S : M Fl} : mFor Fi G S eta hp = ((Fi eta hp).bind fun ws h1 => forL G S ws eta h1) := rfl
@[simp] theorem p_while {n : Nat} {U : M Bool} {S : M Fl} : mWhile n U S eta hp = (zcm U S n eta hp) := rfl
@[simp] theorem p_comp {fin : OpN} {Fi : M (List W)} {G : W → IS → Option IS} {U : M Bool} {E : M W} {vs : List Nat} : zb1 fin Fi G U E vs eta hp = ((Fi eta hp).bind fun ws h1 => if ws.length ≤ 16777216 then (zbv G U E (wipeI eta vs) ws h1).bind fun r h2 => fin r h2 else .bad) := rfl
@[simp] theorem p_sq {F : M W} : mSq F eta hp = ((F eta hp).bind sqI) := rfl
@[simp] theorem p_src {f : List W → IH → Res (List W)} {Fs : M (List W)} : mSrc f Fs eta hp = ((Fs eta hp).bind f) := rfl
@[simp] theorem p_yes  : mYes eta hp = (.ok true hp) := rfl
@[simp] theorem p_call {f : OpN} {ds : List T} {Fs : M (List W)} : zan f ds Fs eta hp = ((Fs eta hp).bind fun ws h1 => noEr (f (ws ++ ds.map W.t) h1)) := rfl
@[simp] theorem p_meth0 {ty : W → IH → Bool} {f : OpM} {Fo : M W} : mMeth0 ty f Fo eta hp = ((Fo eta hp).bind fun w h1 => if ty w h1 = true then f w [] h1 else .bad) := rfl
@[simp] theorem p_meth {ty : W → IH → Bool} {f : OpM} {Fo : M W} {Fs : M (List W)} : mMeth ty f Fo Fs eta hp = ((Fo eta hp).bind fun w h1 => if ty w h1 = true then (Fs eta h1).bind fun ws h2 => f w ws h2 else .bad) := rfl
@[simp] theorem p_sl {Fa : M W} {Fl Fh : MO} : mSl Fa Fl Fh eta hp = ((Fa eta hp).bind fun a h1 => (Fl eta h1).bind fun l h2 => (Fh eta h2).bind fun h h3 => slW a l h h3) := rfl
@[simp] theorem p_noPart  : zay eta hp = (.ok none hp) := rfl
@[simp] theorem p_part {F : M W} : zbn F eta hp = ((F eta hp).bind fun a h1 => match a with | .t (.int i) => .ok (some i) h1 | _ => .bad) := rfl
@[simp] theorem p_disp {ps : List (Key × M W)} : mDisp ps eta hp = ((mVals ps eta (hp ++ [some (.dic [])])).bind fun kvs h1 => match getD h1 hp.length with | some [] => if kvs.length ≤ 15 then .ok Yb9 (h1.set hp.length (some (.dic (mergeW [] kvs)))) else .bad | _ => .bad) := rfl
@[simp] theorem p_dput {Fd Fk Fv : M W} : mDPut Fd Fk Fv eta hp = ((Fv eta hp).bind fun v h1 => (Fd eta h1).bind fun d h2 => (Fk eta h2).bind fun k h3 => match d, asK k with | .r i, some k => (match getD h3 i with | some kvs => if kvs.length < 16777216 then .ok Ycc (h3.set i (some (.dic (putW kvs k v)))) else .bad | none => .bad) | _, _ => .bad) := rfl
@[simp] theorem p_fz {i : Nat} {S : M Fl} : mFz i S eta hp = (match eta[i]? with | some (some w) => (zbw w hp).bind fun w' h1 => S (eta.set i (some w')) h1 | _ => .bad) := rfl
@[simp] theorem p_gN {i : Nat} {w : W} : gN i w eta = some Yed := rfl
@[simp] theorem p_gsN : gsN [] eta = some eta := rfl
@[simp] theorem p_gsC {G : W → IS → Option IS} {Gs : List W → IS → Option IS} {w : W} {ws : List W} : gsC G Gs (w :: ws) eta = (G w eta).bind fun e => Gs ws e := rfl
@[simp] theorem p_gTp {n : Nat} {Gs : List W → IS → Option IS} {ts : List T} : gT n Gs (.t (.pr ts)) eta = if ts.length = n then Gs Yl eta else none := rfl
@[simp] theorem p_gTt {n : Nat} {Gs : List W → IS → Option IS} {ts : List T} : gT n Gs Yae eta = if ts.length = n then Gs Yl eta else none := rfl
@[simp] theorem p_gAp {n : Nat} {Gs : List W → IS → Option IS} {ts : List T} : gA n Gs (.t (.pr ts)) eta = if ts.length = n then Gs Yl eta else none := rfl
@[simp] theorem p_gAt {n : Nat} {Gs : List W → IS → Option IS} {ts : List T} : gA n Gs Yae eta = if ts.length = n then Gs Yl eta else none := rfl
@[simp] theorem p_gAl {n : Nat} {Gs : List W → IS → Option IS} {ts : List T} : gA n Gs Yw eta = if ts.length = n then Gs Yl eta else none := rfl
@[simp] theorem p_forN {G : W → IS → Option IS} {S : M Fl} : forL G S [] eta hp = .ok Ycc hp := rfl
@[simp] theorem p_compN {G : W → IS → Option IS} {U : M Bool} {E : M W} : zbv G U E eta [] hp = .ok [] hp := rfl
@[simp] theorem zbu {ts : List T} : allT Yl = some ts := by
 induction ts with
 | nil => rfl
 | cons t ts ih => simp [allT, ih]
@[simp] theorem seqT_t {ts : List T} : seqT Yae = some ts := rfl
@[simp] theorem seqT_l {ts : List T} : seqT Yw = some ts := rfl
@[simp] theorem seqT_s {ts : List T} : seqT (.t (.scr ts)) = some ts := rfl
@[simp] theorem items_t {ts : List T} : items hp Yae = some Yl := rfl
@[simp] theorem items_l {ts : List T} : items hp Yw = some Yl := rfl
@[simp] theorem items_s {ts : List T} : items hp (.t (.scr ts)) = some Yl := rfl
@[simp] theorem items_r {i : Nat} : items hp (.r i) = getL hp i := rfl
@[simp] theorem litems_l {ts : List T} : zcr hp Yw = some Yl := rfl
@[simp] theorem litems_s {ts : List T} : zcr hp (.t (.scr ts)) = some Yl := rfl
@[simp] theorem litems_r {i : Nat} : zcr hp (.r i) = getL hp i := rfl
@[simp] theorem hitems_l {ts : List T} : hitems hp Yw = some Yl := rfl
@[simp] theorem hitems_r {i : Nat} : hitems hp (.r i) = getL hp i := rfl
@[simp] theorem asT_t {x : T} : asT hp (.t x) = some x := rfl
@[simp] theorem asT_r {i : Nat} : asT hp (.r i) = ((getL hp i).bind allT).map T.lst := rfl
@[simp] theorem getL_new {ws : List W} : getL (hp ++ [some (.lst ws)]) hp.length = some ws := by simp [getL]
@[simp] theorem zbm {i : Nat} {ws : List W} (h : i < hp.length) : getL (hp.set i (some (.lst ws))) i = some ws := by simp [getL, h]
theorem getL_lt {i : Nat} {ws : List W} (h : getL hp i = some ws) : i < hp.length := (List.getElem?_eq_some_iff.mp (zbj h)).1
end
@[simp] theorem allI_map : ∀ {ns : List Int}, allW asI (ns.map fun n => W.t (.int n)) = some ns
 | [] => rfl
 | n :: ns => by simp [allW, asI, allI_map (ns := ns)]
@[simp] theorem allS_map : ∀ {ns : List Str}, allW asS (ns.map fun n => W.t (.str n)) = some ns
 | [] => rfl
 | n :: ns => by simp [allW, asS, allS_map (ns := ns)]
@[simp] theorem allB_map : ∀ {ns : List Bool}, allW asBl (ns.map fun n => W.t (.bl n)) = some ns
 | [] => rfl
 | n :: ns => by simp [allW, asBl, allB_map (ns := ns)]
section
variable {hp : IH} {i j : Int} {b c neg : Bool} {x y : Str} {u v : T}
@[simp] theorem asB_bl : asB Yc0 hp = .ok b hp := rfl
@[simp] theorem truW_bl : truW Yc0 hp = .ok b hp := rfl
@[simp] theorem iNeg_i : iNeg Yad hp = .ok (.t (.int (-i))) hp := rfl
@[simp] theorem opI_ii {C : Int → Int → Bool} {g : Int → Int → Int} : opI C g Yad Yba hp = if C i j = true then .ok (.t (.int (g i j))) hp else .bad := rfl
@[simp] theorem opC_ii {g : Int → Int → Bool} : opC g Yad Yba hp = .ok (.t (.bl (g i j))) hp := rfl
@[simp] theorem cYes_t : cYes i j = true := rfl
@[simp] theorem wLt_ii : wLt Yad Yba hp = .ok (.t (.bl (decide (i < j)))) hp := rfl
@[simp] theorem wLt_ss : wLt (.t (.str x)) (.t (.str y)) hp = .ok (.t (.bl (ltCps x.cps.toList y.cps.toList))) hp := rfl
@[simp] theorem wAdd_ii : wAdd Yad Yba hp = .ok (.t (.int (i + j))) hp := rfl
@[simp] theorem wAdd_tt {xs ys : List T} : wAdd (.t (.tup xs)) (.t (.tup ys)) hp = if xs.length + ys.length ≤ 16777216 then .ok (.t (.tup (xs ++ ys))) hp else .bad := rfl
@[simp] theorem wAdd_ll {xs ys : List T} : wAdd (.t (.lst xs)) (.t (.lst ys)) hp = if xs.length + ys.length ≤ 16777216 then .ok Yfa hp else .bad := by simp [wAdd]
@[simp] theorem wMul_ii : wMul Yad Yba hp = if cMul i j = true then .ok (.t (.int (i * j))) hp else .bad := rfl
@[simp] theorem wMul_li {xs : List T} : wMul (.t (.lst xs)) Yba hp = if -(2 ^ 63) ≤ j ∧ j < 2 ^ 63 ∧ xs.length * j.toNat ≤ 16777216 then .ok (.t (.lst (repT j.toNat xs))) hp else .bad := by simp [wMul]
@[simp] theorem eqW_tt : eqW neg (.t u) (.t v) hp = if fit u 60 = true ∧ fit v 60 = true then .ok (.t (.bl (if neg then !Mir.eqT u v else Mir.eqT u v))) hp else .bad := rfl
@[simp] theorem isN_n : isN neg Yaw Yaw hp = .ok (.t (.bl (!neg))) hp := rfl
@[simp] theorem isN_i : isN neg Yad Yaw hp = .ok (.t (.bl neg)) hp := rfl
@[simp] theorem isN_b : isN neg Yc0 Yaw hp = .ok (.t (.bl neg)) hp := rfl
@[simp] theorem isN_t {ts : List T} : isN neg Yae Yaw hp = .ok (.t (.bl neg)) hp := rfl
@[simp] theorem isB_bb : isB neg Yc0 (.t (.bl c)) hp = .ok Yfb hp := rfl
@[simp] theorem ixW_l {ts : List T} : ixW Yw Yad hp = (match atI Yl i with | some w => .ok w hp | none => .bad) := rfl
@[simp] theorem ixW_t {ts : List T} : ixW Yae Yad hp = (match atI Yl i with | some w => .ok w hp | none => .bad) := rfl
@[simp] theorem ixW_r {k : Nat} : ixW (.r k) Yad hp = (match (getL hp k).bind fun ws => atI ws i with | some w => .ok w hp | none => .bad) := rfl
@[simp] theorem oInt_i : oInt [.t (.int i)] hp = .ok Yad hp := rfl
@[simp] theorem oAbs_i : oAbs [.t (.int i)] hp = .ok (.t Ye6) hp := rfl
@[simp] theorem oMax2_i : oMax2 [.t (.int i), .t (.int j)] hp = .ok (.t (.int (if j > i then j else i))) hp := rfl
@[simp] theorem oMin2_i : oMin2 [.t (.int i), .t (.int j)] hp = .ok (.t (.int (if j < i then j else i))) hp := rfl
@[simp] theorem oLen_l {ts : List T} : oLen [.t Yc1] hp = .ok (.t (.int ts.length)) hp := by simp [oLen]
@[simp] theorem oLen_t {ts : List T} : oLen [.t (.tup ts)] hp = .ok (.t (.int ts.length)) hp := by simp [oLen]
@[simp] theorem oLen_r {k : Nat} : oLen [.r k] hp = (match getL hp k with | some xs => .ok (.t (.int xs.length)) hp | none => .bad) := rfl
@[simp] theorem oTup_t {ts : List T} : oTup [.t (.tup ts)] hp = .ok Yae hp := rfl
@[simp] theorem oTup_l {ts : List T} : oTup [.t Yc1] hp = .ok Yae hp := by simp [oTup]
@[simp] theorem oListF_l {ts : List T} : oListF [.t Yc1] hp = .ok Yw hp := by simp [oListF]
@[simp] theorem oListF_t {ts : List T} : oListF [.t (.tup ts)] hp = .ok Yw hp := by simp [oListF]
@[simp] theorem oListL_l {ts : List T} : oListL [.t Yc1] hp = .ok Yb9 (hp ++ [some (.lst Yl)]) := rfl
@[simp] theorem oListL_t {ts : List T} : oListL [.t (.tup ts)] hp = .ok Yb9 (hp ++ [some (.lst Yl)]) := rfl
@[simp] theorem sqI_l {ts : List T} : sqI Yw hp = .ok Yl hp := rfl
@[simp] theorem sqI_t {ts : List T} : sqI Yae hp = .ok Yl hp := rfl
@[simp] theorem sqI_s {ts : List T} : sqI (.t (.scr ts)) hp = .ok Yl hp := rfl
@[simp] theorem rng1_i : rng1 [.t (.int i)] hp = if -(2 ^ 62) ≤ i ∧ i < 2 ^ 62 then .ok ((List.range i.toNat).map fun k => W.t (.int (0 + (k : Nat)))) hp else .bad := rfl
@[simp] theorem rng2_i : rng2 [.t (.int i), .t (.int j)] hp = if -(2 ^ 62) ≤ i ∧ i < 2 ^ 62 ∧ -(2 ^ 62) ≤ j ∧ j < 2 ^ 62 then .ok Yel hp else .bad := rfl
@[simp] theorem enum1_1 {a : W} : enum1 [a] hp = (match seqT a with | some ts => .ok (enumT 0 ts) hp | none => .bad) := rfl
@[simp] theorem zip2_2 {a b : W} : zip2 [a, b] hp = (match seqT a, seqT b with | some ts, some us => .ok (zipT ts us) hp | _, _ => .bad) := rfl
@[simp] theorem isL_r {k : Nat} : isL (.r k) hp = (getL hp k).isSome := rfl
@[simp] theorem isL_l {ts : List T} : isL Yw hp = true := rfl
@[simp] theorem isTp_t {ts : List T} : isTp Yae hp = true := rfl
@[simp] theorem freeze_t : zbw (.t u) hp = .ok (.t u) hp := rfl
@[simp] theorem freeze_r {k : Nat} : zbw (.r k) hp = (match (getL hp k).bind allT with | some ts => .ok Yw (hp.set k none) | none => .bad) := rfl
@[simp] theorem fit_n {n : Nat} : fit .non n = true := by cases n <;> rfl
@[simp] theorem fit_b {n : Nat} : fit (.bl b) n = true := by cases n <;> rfl
@[simp] theorem fit_i {n : Nat} : fit (.int i) n = true := by cases n <;> rfl
@[simp] theorem fit_s {n : Nat} : fit (.str x) n = true := by cases n <;> rfl
@[simp] theorem fit_t {n : Nat} {ts : List T} : fit (.tup ts) (n + 1) = fitL ts n := rfl
@[simp] theorem fit_l {n : Nat} {ts : List T} : fit Yc1 (n + 1) = fitL ts n := rfl
@[simp] theorem fitL_n {n : Nat} : fitL [] n = true := by cases n <;> rfl
@[simp] theorem fitL_c {n : Nat} {ts : List T} : fitL (u :: ts) n = (fit u n && fitL ts n) := by cases n <;> rfl
@[simp] theorem eqT_nn : Mir.eqT .non .non = true := by simp [Mir.eqT]
@[simp] theorem eqT_ii : Mir.eqT (.int i) (.int j) = (i == j) := by simp [Mir.eqT]
@[simp] theorem eqT_bb : Mir.eqT (.bl b) (.bl c) = (b == c) := by simp [Mir.eqT]
@[simp] theorem eqT_ss : Mir.eqT (.str x) (.str y) = (x == y) := by simp [Mir.eqT]
@[simp] theorem eqT_tt {ts us : List T} : Mir.eqT (.tup ts) (.tup us) = eqTL ts us := by simp [Mir.eqT]
@[simp] theorem eqT_ll {ts us : List T} : Mir.eqT Yc1 (.lst us) = eqTL ts us := by simp [Mir.eqT]
@[simp] theorem eqTL_nn : eqTL [] [] = true := by simp [eqTL]
@[simp] theorem eqTL_cn {ts : List T} : eqTL (u :: ts) [] = false := by simp [eqTL]
@[simp] theorem eqTL_nc {ts : List T} : eqTL [] (u :: ts) = false := by simp [eqTL]
@[simp] theorem eqTL_cc {ts us : List T} : eqTL (u :: ts) (v :: us) = (Mir.eqT u v && eqTL ts us) := by simp [eqTL]
@[simp] theorem allT_n : allT [] = some [] := rfl
@[simp] theorem allT_c {ws : List W} : allT (.t u :: ws) = (allT ws).map (u :: ·) := rfl
@[simp] theorem lstOf_e {ws : List W} : zak ws hp = (match allT ws with | some ts => if ts.length ≤ 16777216 then .ok Yw hp else .bad | none => .bad) := rfl
@[simp] theorem tupOf_e {ws : List W} : zce ws hp = (match allT ws with | some ts => if ts.length ≤ 16777216 then .ok Yae hp else .bad | none => .bad) := rfl
@[simp] theorem newL_e {ws : List W} : newL ws hp = if ws.length ≤ 16777216 then .ok Yb9 (hp ++ [some (.lst ws)]) else .bad := rfl
@[simp] theorem oAppend_r {k : Nat} {w : W} : zcb (.r k) [w] hp = (match getL hp k with | some xs => if xs.length < 16777216 then .ok Yaw (hp.set k (some (.lst (xs ++ [w])))) else .bad | none => .bad) := rfl
@[simp] theorem oPop_r {k : Nat} : oPop (.r k) [] hp = (match getL hp k with | some xs => (match xs[xs.length - 1]? with | some y => .ok y (hp.set k (some (.lst xs.dropLast))) | none => .bad) | none => .bad) := rfl
@[simp] theorem asK_i : asK Yad = some (.inl i) := rfl
@[simp] theorem asK_s : asK (.t (.str x)) = some (.inr x) := rfl
@[simp] theorem dGet_s {k : Nat} {w : W} : dGet (.r k) w hp = (match asK w with | some q => (match (getD hp k).bind fun kvs => valW kvs q with | some w => .ok w hp | none => .bad) | none => .bad) := by
 unfold dGet
 cases asK w <;> rfl
end
theorem fitL_ints {ns : List Int} {n : Nat} : fitL (ns.map T.int) n = true := by
 induction ns with
 | nil => simp
 | cons x xs ih => simp [ih]
theorem fitL_strs {ns : List Str} {n : Nat} : fitL (ns.map T.str) n = true := by
 induction ns with
 | nil => simp
 | cons x xs ih => simp [ih]
theorem bin_ok {f : Op2} {Fa Fb : M W} {eta : IS} {hp h1 h2 : IH} {a b : W} {r : Res W} (ha : Fa eta hp = .ok a h1) (hb : Fb eta h1 = .ok b h2) (h : f a b h2 = r) : mBin f Fa Fb eta hp = r := by
 rw [p_bin, ha, zae, hb, zae]
 exact h
theorem zau {Fa : M W} {Fs : M (List W)} {eta : IS} {hp h1 h2 : IH} {a : W} {as : List W} (ha : Fa eta hp = .ok a h1) (hs : Fs eta h1 = .ok as h2) : zab Fa Fs eta hp = .ok (a :: as) h2 := by
 rw [p_cons, ha, zae, hs, zae]
theorem zao {f : OpN} {Fs : M (List W)} {eta : IS} {hp h1 h2 : IH} {w : W} {ws : List W} (hs : Fs eta hp = .ok ws h1) (h : f ws h1 = .ok w h2) : zan f [] Fs eta hp = .ok w h2 := by
 rw [p_call, hs, zae, List.map_nil, List.append_nil, h, zbp]
theorem test_ok {F : M W} {eta : IS} {hp h1 : IH} {b : Bool} (h : F eta hp = .ok Yc0 h1) : zaj asB F eta hp = .ok b h1 := by
 rw [p_test, h, zae, asB_bl]
theorem if_no {A : Type} {U : M Bool} {F G : M A} {eta : IS} {hp h1 : IH} (h : U eta hp = .ok false h1) : mIf U F G eta hp = G eta h1 := by
 rw [p_if, h, zae, if_neg Bool.false_ne_true]
theorem if_yes {A : Type} {U : M Bool} {F G : M A} {eta : IS} {hp h1 : IH} (h : U eta hp = .ok true h1) : mIf U F G eta hp = F eta h1 := by
 rw [p_if, h, zae, if_pos rfl]
theorem zbl {S R : M Fl} {eta e1 : IS} {hp h1 : IH} {r : Res Fl} (h : S eta hp = .ok (.nx e1) h1) (g : R e1 h1 = r) : mSeq S R eta hp = r := by
 rw [p_seq, h, zae, then_nx]
 exact g
theorem set_ok {i : Nat} {F : M W} {eta : IS} {hp h1 : IH} {w : W} (h : F eta hp = .ok w h1) : mSet i F eta hp = .ok (.nx Yed) h1 := by
 rw [p_set, h, zae]
theorem fnP_ok {n nn : Nat} {B : M Fl} {ts : List T} {hp h1 : IH} {x : T} {eta : IS} (hl : ts.length = n) (he : (ts.map W.t).map some ++ List.replicate (nn - n) none = eta) (h : B eta [] = .ok (.rt (.t x)) h1) : fnP n nn B Yl hp = .ok (.t x) hp := by
 unfold fnP
 rw [if_pos ⟨by rw [List.length_map]; exact hl, by rw [zbu]; rfl⟩, he, h]
theorem fnM_ok {n nn : Nat} {B : M Fl} {ws : List W} {hp h1 : IH} {x : W} {eta : IS} (hl : ws.length = n) (he : ws.map some ++ List.replicate (nn - n) none = eta) (h : B eta hp = .ok (.rt x) h1) : fnM n nn B ws hp = .ok x h1 := by
 unfold fnM
 rw [if_pos hl, he, h]
end Mir
namespace Mir
open PySem PySem.Spec L2
open PyProof.Rows hiding St
theorem comp_list {A : Type} {i : Nat} {U : M Bool} {E : M W} {f g : A → T} {p : A → Bool} {eta : IS} {hp : IH} : ∀ {as : List A}, (∀ a ∈ as, U (eta.set i (some (.t (f a)))) hp = .ok (p a) hp) → (∀ a ∈ as, p a = true → E (eta.set i (some (.t (f a)))) hp = .ok (.t (g a)) hp) →
  zbv (gN i) U E eta ((as.map f).map W.t) hp = .ok (((as.filter p).map g).map W.t) hp
 | [], _, _ => rfl
 | a :: as, h, k => by
  have h1 := h a Yan
  have ih := comp_list (i := i) (eta := eta) (as := as) (fun u hu => h u (List.mem_cons_of_mem _ hu)) fun u hu => k u (List.mem_cons_of_mem _ hu)
  cases q : p a with
  | true =>
   have k1 := k a Yan q
   simp only [List.map_cons, zbv, turnL, p_gN, h1, q, zae, if_true, k1, zbp, ih, List.filter_cons_of_pos q]
  | false =>
   simp only [List.map_cons, zbv, turnL, p_gN, h1, q, zae, Bool.false_eq_true, if_false, zbp, ih, List.filter_cons_of_neg (by simp [q] : ¬ p a = true)]
theorem comp_all {A : Type} {i : Nat} {E : M W} {f g : A → T} {eta : IS} {hp : IH} {as : List A} (h : ∀ a ∈ as, E (eta.set i (some (.t (f a)))) hp = .ok (.t (g a)) hp) : zbv (gN i) mYes E eta ((as.map f).map W.t) hp = .ok ((as.map g).map W.t) hp := by
 have := comp_list (i := i) (U := mYes) (E := E) (f := f) (g := g) (p := fun _ => true) (eta := eta) (hp := hp) (as := as) Ycx fun a ha _ => h a ha
 rw [List.filter_eq_self.mpr fun _ _ => rfl] at this
 exact this
theorem app1_ok {f : OpN} {F : M W} {eta : IS} {hp h1 : IH} {a : W} {r : Res W} (h : F eta hp = .ok a h1) (g : f [a] h1 = r) : mApp f (zab F mNil) eta hp = r := by
 rw [p_app, zau h rfl, zae]
 exact g
end Mir
namespace Mir
open PySem PySem.Spec L2
open PyProof.Rows hiding St
abbrev wI (n : Int) : W := .t (.int n)
theorem allT_ints (ns : List Int) : allT (ns.map wI) = some (ns.map T.int) := by
 have : ns.map wI = (ns.map T.int).map W.t := by simp [wI]
 rw [this, zbu]
theorem atI_end {A : Type} {xs : List A} {x : A} : atI (xs ++ [x]) (-1) = some x := by
 have h : ixN (xs.length + 1) (-1) = some xs.length := by
  unfold ixN
  rw [if_neg Yc, if_pos Yc]
  congr 1
  omega
 simp [atI, h]
theorem set_same {hp : IH} {j : Nat} {c : Option Cell} (h : hp[j]? = some c) : hp.set j c = hp := by
 apply List.ext_getElem?
 intro k
 by_cases hk : j = k
 ·subst hk
  rw [List.getElem?_set_self (List.getElem?_eq_some_iff.mp h).1, h]
 ·rw [List.getElem?_set_ne hk]
theorem getL_ne {hp : IH} {i j : Nat} {c : Option Cell} (h : j ≠ i) : getL (hp.set j c) i = getL hp i := by simp [getL, List.getElem?_set_ne h]
theorem cDiv_ok {x wide : Int} (hw : 0 < wide) (hw2 : wide < 2 ^ 64) : cDiv x wide = true := by
 simp only [cDiv, decide_eq_true_eq]
 refine ⟨hw, ?_⟩
 have : wide.natAbs.log2 < 64 := (Nat.log2_lt Yc).mpr Yc
 omega
theorem cMod_ok {x wide : Int} (hw : 0 < wide) : cMod x wide = true := by simpa [cMod] using hw
theorem cMul_ok {x y : Int} (hx : x.natAbs < 2 ^ 64) (hy : y.natAbs < 2 ^ 64) : cMul x y = true := by
 have h : ∀ n : Nat, n < 2 ^ 64 → n.log2 < 64 := fun n h => by
  by_cases h0 : n = 0
  ·subst h0; decide
  ·exact (Nat.log2_lt h0).mpr h
 simp only [cMul, decide_eq_true_eq]
 have := h _ hx
 have := h _ hy
 omega
theorem getL_keep {hp hp' : IH} {k : Nat} (h : hp'[k]? = hp[k]?) : getL hp' k = getL hp k := by unfold getL; rw [h]
theorem atI_nn {A : Type} {xs : List A} {n : Int} (h0 : 0 ≤ n) (h1 : n < xs.length) : atI xs n = xs[n.toNat]? := by
 unfold atI ixN
 rw [if_pos h0, if_pos h1]
 rfl
theorem fitL_erase {n : Nat} : ∀ {ts : List T} (k : Nat), fitL ts n = true → fitL (ts.eraseIdx k) n = true
 | [], _, _ => by simp
 | t :: ts, 0, h => by simp only [fitL_c, Bool.and_eq_true] at h; exact h.2
 | t :: ts, k + 1, h => by
  simp only [fitL_c, Bool.and_eq_true] at h
  simp only [List.eraseIdx_cons_succ, fitL_c, Bool.and_eq_true]
  exact ⟨h.1, fitL_erase k h.2⟩
theorem erase_map {A B : Type} (f : A → B) : ∀ (l : List A) (k : Nat), (l.map f).eraseIdx k = (l.eraseIdx k).map f
 | [], _ => rfl
 | _ :: _, 0 => rfl
 | x :: l, k + 1 => by simp [erase_map f l k]
theorem erase_perm {A : Type} : ∀ (l : List A) (k : Nat) (h : k < l.length), (l[k] :: l.eraseIdx k).Perm l
 | [], _, h => absurd h (Nat.not_lt_zero _)
 | x :: l, 0, _ => .refl _
 | x :: l, k + 1, h => by
  simp only [List.getElem_cons_succ, List.eraseIdx_cons_succ]
  exact (List.Perm.swap _ _ _).trans ((erase_perm l k (by simpa using h)).cons x)
theorem getL_app {hp : IH} {k : Nat} {c : List (Option Cell)} (h : k < hp.length) : getL (hp ++ c) k = getL hp k := by unfold getL; rw [List.getElem?_append_left h]
theorem perm_strs {zs : List T} {l : List Str} (h : zs.Perm (l.map T.str)) : ∃ l' : List Str, l'.Perm l ∧ zs = l'.map T.str := by
 let g : T → Str := fun t => match t with | .str x => x | _ => "a"
 have e1 : (l.map T.str).map g = l := by simp [g, Function.comp_def]
 refine ⟨zs.map g, by rw [← e1]; exact h.map g, ?_⟩
 have : ∀ t ∈ zs, T.str (g t) = t := fun t ht => by
  have := h.mem_iff.mp ht
  rw [List.mem_map] at this
  obtain ⟨x, _, e⟩ := this
  rw [← e]
 rw [List.map_map]
 conv => lhs; rw [← List.map_id zs]
 exact List.map_congr_left fun t ht => (this t ht).symm
theorem cutL_map {A B : Type} (f : A → B) (xs : List A) (lo hi : Option Int) : cutL (xs.map f) lo hi = (cutL xs lo hi).map f := by
 unfold cutL
 rw [List.length_map, List.map_take, List.map_drop]
theorem cutL_len {A : Type} (xs : List A) (lo hi : Option Int) : (cutL xs lo hi).length ≤ xs.length := by
 unfold cutL
 rw [List.length_take, List.length_drop]
 omega
theorem cutL_to {A : Type} (xs : List A) (k : Nat) : cutL xs none (some (k : Int)) = xs.take k := by
 unfold cutL
 rw [HT.sIx_none, HT.sIx_nat]
 simp only [List.drop_zero, Nat.sub_zero]
 rcases Nat.le_total k xs.length with h | h
 ·rw [Nat.min_eq_left h]
 ·rw [Nat.min_eq_right h, List.take_of_length_le h, List.take_of_length_le Ydy]
def oT : Option Int → T | none => .non | some i => .int i
/-- a list or a tuple -/
def sqT (b : Bool) (ts : List T) : T := if b then .tup ts else .lst ts
def pos (w : List Str) (x : Str) : Nat := w.idxOf x
def natW (k : Nat) : W := .t (.int (0 + (k : Nat)))
theorem rng_is {n : Nat} {hp : IH} (hn : n < 100000) : rng1 [.t (.int n)] hp = .ok ((List.range n).map natW) hp := by
 have c : -(2 ^ 62) ≤ (n : Int) ∧ (n : Int) < 2 ^ 62 := ⟨by omega, by omega⟩
 rw [rng1_i, if_pos c, Int.toNat_natCast]
 rfl
theorem for_ok {Fi : M (List W)} {G : W → IS → Option IS} {S : M Fl} {eta : IS} {hp h1 : IH} {ws : List W} (h : Fi eta hp = .ok ws h1) : mFor Fi G S eta hp = forL G S ws eta h1 := by
 rw [p_for, h]
 rfl
theorem comp_ok {fin : OpN} {Fi : M (List W)} {G : W → IS → Option IS} {U : M Bool} {E : M W} {vs : List Nat} {eta : IS} {hp h1 h2 : IH} {ws ys : List W} {r : Res W} (h : Fi eta hp = .ok ws h1) (hl : ws.length ≤ 16777216) (hc : zbv G U E (wipeI eta vs) ws h1 = .ok ys h2) (hf : fin ys h2 = r) :
  zb1 fin Fi G U E vs eta hp = r := by
 rw [p_comp, h, zae, if_pos hl, hc, zae]
 exact hf
end Mir
namespace Mir
open PySem PySem.Spec L2
open PyProof.Rows hiding St
theorem binP {f : Op2} {Fa Fb : M W} {eta : IS} {hp : IH} {a b : W} {r : Res W} (ha : Fa eta hp = .ok a hp) (hb : Fb eta hp = .ok b hp) (h : f a b hp = r) : mBin f Fa Fb eta hp = r := bin_ok ha hb h
theorem zco {F : M W} {eta : IS} {hp : IH} {b : Bool} (h : F eta hp = .ok Yc0 hp) : zaj asB F eta hp = .ok b hp := test_ok h
theorem app1P {f : OpN} {F : M W} {eta : IS} {hp : IH} {a : W} {r : Res W} (h : F eta hp = .ok a hp) (g : f [a] hp = r) : mApp f (zab F mNil) eta hp = r := app1_ok h g
theorem varP {i : Nat} {eta : IS} {hp : IH} {w : W} (h : eta[i]? = some (some w)) : mVar i eta hp = .ok w hp := by rw [p_var, h]
theorem iGt_ii {i j : Int} {hp : IH} : iGt Yad Yba hp = .ok (.t (.bl (decide (j < i)))) hp := rfl
theorem wMul_ok {i j : Int} {hp : IH} (h : cMul i j = true) : wMul Yad Yba hp = .ok (.t (.int (i * j))) hp := by rw [wMul_ii, if_pos h]
theorem frz_ok {k : Nat} {ts : List T} {hp : IH} (h : getL hp k = some Yl) : zbw (.r k) hp = .ok Yw (hp.set k none) := by
 rw [freeze_r, h, Option.bind_some, zbu]
theorem iMod_ok {i j : Int} {hp : IH} (h : cMod i j = true) : iMod Yad Yba hp = .ok (.t (.int (i % j))) hp := by unfold iMod; rw [opI_ii, if_pos h]
theorem iDiv_ok {i j : Int} {hp : IH} (h : cDiv i j = true) : iDiv Yad Yba hp = .ok (.t (.int (i / j))) hp := by unfold iDiv; rw [opI_ii, if_pos h]
theorem iput_ok {Fd Fk Fv : M W} {eta : IS} {hp h1 : IH} {i k : Nat} {v : W} {xs : List W} (hv : Fv eta hp = .ok v h1) (hd : Fd eta h1 = .ok (.r i) h1) (hk : Fk eta h1 = .ok (.t (.int k)) h1) (hx : getL h1 i = some xs) (hl : k < xs.length) : mIput Fd Fk Fv eta hp = .ok Ycc (h1.set i (some (.lst (xs.set k v)))) := by
 have e : ixN xs.length (k : Int) = some k := by
  unfold ixN
  rw [if_pos Yc, if_pos Yc]
  rfl
 unfold mIput
 rw [hv, zae, hd, zae, hk, zae]
 simp only [hx, e]
theorem any_str {x : Str} : ∀ {l : List Str}, (l.map T.str).any (fun y => Mir.eqT y (.str x)) = decide (x ∈ l)
 | [] => by simp
 | y :: l => by
  have ih := any_str (x := x) (l := l)
  simp only [List.map_cons, List.any_cons, ih, eqT_ss]
  by_cases h : y = x
  ·subst h; simp
  ·have : ¬ x = y := fun e => h e.symm
   simp [h, this]
theorem bools_all {l : List Bool} {hp : IH} : oAll [.t (.lst (l.map T.bl))] hp = .ok (.t (.bl (l.all id))) hp := by
 have al : allW asBl ((l.map T.bl).map W.t) = some l := by rw [List.map_map]; exact allB_map
 simp only [oOnL, litems_l, Option.bind_some, al]
theorem sqI_sq {b : Bool} {ts : List T} {hp : IH} : sqI (.t (sqT b ts)) hp = .ok Yl hp := by cases b <;> rfl
theorem oTup_sq {b : Bool} {ts : List T} {hp : IH} : oTup [.t (sqT b ts)] hp = .ok Yae hp := by cases b <;> simp [sqT]
end Mir
namespace Mir
open PySem PySem.Spec L2
open PyProof.Rows hiding St
section
variable {hp : IH} {i j : Int} {x y z u v : T} {ts us : List T} {w : W} {b c : Bool} {s r : Str}
theorem ev_for0 {G : W → IS → Option IS} {S : M Fl} {eta : IS} : forL G S [] eta hp = .ok Ycc hp := rfl
theorem ev_for1 {G : W → IS → Option IS} {S : M Fl} {eta : IS} {ws : List W} : forL G S (w :: ws) eta hp = (match G w eta with | none => .bad | some e1 => (S e1 hp).bind fun f h1 => match f with | .nx e2 => forL G S ws e2 h1 | .ct e2 => forL G S ws e2 h1 | .bk e2 => .ok (.nx e2) h1 | .rt w => .ok (.rt w) h1) := rfl
theorem ev_atl0 {A : Type} {a : A} {l : List A} : atI (a :: l) 0 = some a := by rw [atI_nn Yc (by rw [List.length_cons]; omega)]; rfl
theorem ev_atl1 {A : Type} {a a1 : A} {l : List A} : atI (a :: a1 :: l) 1 = some a1 := by rw [atI_nn Yc (by rw [List.length_cons, List.length_cons]; omega)]; rfl
theorem ev_atl2 {A : Type} {a a1 a2 : A} {l : List A} : atI (a :: a1 :: a2 :: l) 2 = some a2 := by rw [atI_nn Yc Yb6]; rfl
theorem ev_atl3 {A : Type} {a a1 a2 a3 : A} {l : List A} : atI (a :: a1 :: a2 :: a3 :: l) 3 = some a3 := by rw [atI_nn Yc Yb6]; rfl
theorem ev_ixl0 {a0 : T} : ixW (.t (.lst (a0 :: ts))) (.t (.int 0)) hp = .ok (.t a0) hp := by rw [ixW_l]; simp only [List.map_cons, ev_atl0]
theorem ev_ixt0 {a0 : T} : ixW (.t (.tup (a0 :: ts))) (.t (.int 0)) hp = .ok (.t a0) hp := by rw [ixW_t]; simp only [List.map_cons, ev_atl0]
theorem ev_ixl1 {a0 a1 : T} : ixW (.t (.lst (a0 :: a1 :: ts))) (.t (.int 1)) hp = .ok (.t a1) hp := by rw [ixW_l]; simp only [List.map_cons, ev_atl1]
theorem ev_ixt1 {a0 a1 : T} : ixW (.t (.tup (a0 :: a1 :: ts))) (.t (.int 1)) hp = .ok (.t a1) hp := by rw [ixW_t]; simp only [List.map_cons, ev_atl1]
theorem ev_ixl2 {a0 a1 a2 : T} : ixW (.t (.lst (a0 :: a1 :: a2 :: ts))) (.t (.int 2)) hp = .ok (.t a2) hp := by rw [ixW_l]; simp only [List.map_cons, ev_atl2]
theorem ev_ixt2 {a0 a1 a2 : T} : ixW (.t (.tup (a0 :: a1 :: a2 :: ts))) (.t (.int 2)) hp = .ok (.t a2) hp := by rw [ixW_t]; simp only [List.map_cons, ev_atl2]
theorem ev_ixl3 {a0 a1 a2 a3 : T} : ixW (.t (.lst (a0 :: a1 :: a2 :: a3 :: ts))) (.t (.int 3)) hp = .ok (.t a3) hp := by rw [ixW_l]; simp only [List.map_cons, ev_atl3]
theorem ev_ixt3 {a0 a1 a2 a3 : T} : ixW (.t (.tup (a0 :: a1 :: a2 :: a3 :: ts))) (.t (.int 3)) hp = .ok (.t a3) hp := by rw [ixW_t]; simp only [List.map_cons, ev_atl3]
theorem ev_atl4 {A : Type} {a a1 a2 a3 a4 : A} {l : List A} : atI (a :: a1 :: a2 :: a3 :: a4 :: l) 4 = some a4 := by rw [atI_nn Yc Yb6]; rfl
theorem ev_ixl4 {a0 a1 a2 a3 a4 : T} : ixW (.t (.lst (a0 :: a1 :: a2 :: a3 :: a4 :: ts))) (.t (.int 4)) hp = .ok (.t a4) hp := by rw [ixW_l]; simp only [List.map_cons, ev_atl4]
theorem ev_ixt4 {a0 a1 a2 a3 a4 : T} : ixW (.t (.tup (a0 :: a1 :: a2 :: a3 :: a4 :: ts))) (.t (.int 4)) hp = .ok (.t a4) hp := by rw [ixW_t]; simp only [List.map_cons, ev_atl4]
theorem ev_gt : iGt Yad Yba hp = .ok (.t (.bl (decide (j < i)))) hp := rfl
theorem ev_ge : iGe Yad Yba hp = .ok (.t (.bl (decide (j ≤ i)))) hp := rfl
theorem ev_le : iLe Yad Yba hp = .ok (.t (.bl (decide (i ≤ j)))) hp := rfl
theorem ev_sub : iSub Yad Yba hp = .ok (.t (.int (i - j))) hp := rfl
theorem ev_eqi {neg : Bool} : eqW neg Yad Yba hp = .ok Ye9 hp := by
 rw [eqW_tt, if_pos ⟨rfl, rfl⟩]
 rfl
theorem ev_eqs {neg : Bool} : eqW neg (.t (.str s)) (.t (.str r)) hp = .ok (.t (.bl (if neg then !decide (s = r) else decide (s = r)))) hp := by
 have h : (s == r) = decide (s = r) := by
  by_cases q : s = r
  ·subst q; simp
  ·simp [q]
 rw [eqW_tt, if_pos ⟨by simp, by simp⟩, eqT_ss, h]
theorem ev_eqb {neg : Bool} : eqW neg Yc0 (.t (.bl c)) hp = .ok Yfb hp := by
 rw [eqW_tt, if_pos ⟨by simp, by simp⟩, eqT_bb]
 cases neg <;> cases b <;> cases c <;> rfl
theorem ev_wipe0 {eta : IS} : wipeI eta [] = eta := rfl
theorem ev_wipe1 {eta : IS} {k : Nat} {l : List Nat} : wipeI eta (k :: l) = (wipeI eta l).set k none := rfl
theorem ev_comp1 {G : W → IS → Option IS} {U : M Bool} {E : M W} {eta : IS} {ws : List W} : zbv G U E eta (w :: ws) hp = (noEr (match G w eta with | none => .bad | some e1 => (U e1 hp).bind fun b h1 => if b then (E e1 h1).bind fun y h2 => .ok (some y) h2 else .ok none h1)).bind fun o h1 => (zbv G U E eta ws h1).bind fun r h2 => .ok (match o with | some y => y :: r | none => r) h2 := rfl
end
end Mir
namespace Mir
open PySem PySem.Spec L2
open PyProof.Rows hiding St
theorem CN.inj {K : PySem.W.Frag} {c : Str} {C D : Addr} (h : CN K c C) (g : CN K c D) : C = D := by
 have e : some (some (Value.ref C)) = some (some (Value.ref D)) := h.symm.trans g
 cases e
 rfl
def insOf (hp : IH) : W → Option (Str × List Yd9)
 | .t (.ins c ns vs) => some (c, ns.zip (vs.map W.t))
 | .r i => (match hp[i]? with | some (some (.ins c fs)) => some (c, fs) | _ => none)
 | _ => none
section
variable {K : PySem.W.Frag} {ω : World} {s : S4}
theorem RwF.look (f : Str) : ∀ {fs : List (Str × W)} {vs : List (Str × V)}, RwF K s fs vs → (∀ w, fs.lookup f = some w → ∃ v, vs.lookup f = some v ∧ Rw K s w v) ∧ (fs.lookup f = none → vs.lookup f = none)
 | [], vs, h => by rw [show vs = [] from h]; exact ⟨fun w e => by simp at e, fun _ => rfl⟩
 | (g, w) :: fs, vs, h => by
  obtain ⟨v, r, rfl, a, b⟩ := h
  obtain ⟨i1, i2⟩ := RwF.look f b
  by_cases e : f = g
  ·have hb : (f == g) = true := beq_iff_eq.mpr e
   exact ⟨fun u q => by
    simp only [List.lookup, hb, Option.some.injEq] at q ⊢
    subst q
    exact ⟨v, rfl, a⟩, fun q => by simp [List.lookup, hb] at q⟩
  ·have hb : (f == g) = false := beq_eq_false_iff_ne.mpr e
   exact ⟨fun u q => by
    simp only [List.lookup, hb] at q ⊢
    exact i1 u q, fun q => by
    simp only [List.lookup, hb] at q ⊢
    exact i2 q⟩
theorem RwF.names : ∀ {fs : List (Str × W)} {vs : List (Str × V)}, RwF K s fs vs → vs.map (·.1) = fs.map (·.1)
 | [], vs, h => by rw [show vs = [] from h]; rfl
 | (g, w) :: fs, vs, h => by
  obtain ⟨v, r, rfl, a, b⟩ := h
  rw [List.map_cons, List.map_cons, RwF.names b]
theorem RwF.length {fs : List Yd9} {vs : List Ydn} (h : RwF K s fs vs) : fs.length = vs.length := by
 have := congrArg List.length h.names
 rw [List.length_map, List.length_map] at this
 exact this.symm
end
/-- f may be read of, stored in an instance of the class c: no class of it has the name -/
structure FldOk (K : PySem.W.Frag) (c f : Str) : Prop where
 ex : ∃ C, CN K c C ∧ Cls K C ∧ NoAttr K C f
theorem FldOk.at_ {K : PySem.W.Frag} {c f : Str} {C : Addr} (h : FldOk K c f) (n : CN K c C) : Cls K C ∧ NoAttr K C f := by
 obtain ⟨D, n', h1, h2⟩ := h.ex
 cases n.inj n'
 exact ⟨h1, h2⟩
def fldW (cs : List Str) (f : Str) (w : W) (hp : IH) : Res W := match insOf hp w with
 | some (c, fs) => if c ∈ cs then (match fs.lookup f with | some x => .ok x hp | none => .bad) else .bad
 | none => .bad
def mFld (cs : List Str) (f : Str) (F : M W) : M W := fun eta hp => (F eta hp).bind fun a h1 => fldW cs f a h1
def putA (f : Str) (w : W) : List Yd9 → List Yd9
 | [] => [(f, w)]
 | (g, x) :: r => if g = f then (g, w) :: r else (g, x) :: putA f w r
def fldSet (cs : List Str) (f : Str) (eta : IS) (o v : W) (hp : IH) : Res Fl := match o with
 | .r i => (match hp[i]? with
  | some (some (.ins c fs)) => if c ∈ cs ∧ fs.length < 1000 then .ok Ycc (hp.set i (some Yfc)) else .bad
  | _ => .bad)
 | _ => .bad
def mFldSet (cs : List Str) (f : Str) (Fo Fv : M W) : M Fl := fun eta hp => (Fv eta hp).bind fun v h1 => (Fo eta h1).bind fun o h2 => fldSet cs f eta o v h2
theorem RwF.put {K : PySem.W.Frag} {s : S4} {f : Str} {w : W} {v : V} (r : Rw K s w v) : ∀ {fs : List (Str × W)} {vs : List (Str × V)}, RwF K s fs vs → RwF K s (putA f w fs) (putF f v vs)
 | [], vs, h => by rw [show vs = [] from h]; exact ⟨v, [], rfl, r, rfl⟩
 | (g, x) :: fs, vs, h => by
  obtain ⟨u, q, rfl, a, b⟩ := h
  unfold putA putF
  by_cases e : g = f
  ·rw [if_pos e, if_pos e]
   exact ⟨v, q, rfl, r, b⟩
  ·rw [if_neg e, if_neg e]
   exact ⟨u, _, rfl, a, RwF.put r b⟩
section
variable {X : Cx} {Wx : WX} {e o val : Expr} {F Fo Fv : M W} {cs : List Str} {f : Str} {pos pos' : Pos}
theorem st_fld (h : ∀ c ∈ cs, FldOk X.K c f) (ho : IE X Wx o Fo) (hv : IE X Wx val Fv) (hs : swapsWith val (some (.Attribute o f pos')) pos.line X.env = pure false := by rfl) : ISt X Wx (.Assign [.Attribute o f pos'] val pos) (mFldSet cs f Fo Fv) :=
 PS.imp (ps_fld ho hv hs) fun D σ H q => by
  obtain ⟨s0, eta, e1, R0, S0, g0⟩ := q
  refine ⟨s0, eta, e1, R0, S0, Go.bind g0 fun v vv s1 A1 R1 f1 _ g1 => ?_⟩
  refine ⟨s1, eta, rfl, R1, S0.aft A1 R0, Go.bind g1 fun w ov s2 A2 R2 f2 eok g2 => ?_⟩
  clear eok
  have f1' := f1.aft A2 R1
  have S2 := (S0.aft A1 R0).aft A2 R1
  unfold fldSet at g2
  split at g2
  ·rename_i i
   split at g2
   ·rename_i c fs hc
    split at g2
    ·rename_i hh
     obtain ⟨a, e1, e2⟩ := f2
     obtain ⟨C, dx, vs, h1, h2, h3⟩ := R2.cell i _ a hc e1
     obtain ⟨c1, c2⟩ := (h c hh.1).at_ h2
     have ok : CellOk X.K X.w s2 a Yfc (some (.ins C dx (putF f vv vs))) := ⟨C, dx, _, rfl, h2, h3.put f1'⟩
     refine ⟨a, C, dx, vs, e2, h1, c1, c2, by rw [← h3.length]; exact hh.2, ?_⟩
     have A := aft_setL (c := .ins c (putA f v fs)) (o := .ins C dx (putF f vv vs)) R2 hc e1
     exact g2 (.nx σ) (s2.setL i a Yfc (.ins C dx (putF f vv vs))) rfl A (rel_setL R2 hc e1 ok) (S2.aft A R2)
    ·exact g2.elim
   ·exact g2.elim
  ·exact g2.elim
end
def frzAll : List Yd9 → IH → Res (List T)
 | [], hp => .ok [] hp
 | x :: r, hp => (zbw x.2 hp).bind fun w h1 => match w with
  | .t t => (frzAll r h1).bind fun ts h2 => .ok (t :: ts) h2
  | .r _ => .bad
def freezeI (w : W) (hp : IH) : Res W := match w with
 | .r i => (match hp[i]? with
  | some (some (.ins c fs)) => (frzAll fs hp).bind fun ts h1 => (match h1[i]? with | some (some (.ins _ _)) => .ok (.t (.ins c (fs.map (·.1)) ts)) (h1.set i none) | _ => .bad)
  | _ => .bad)
 | _ => .bad
def mFrzI (F : M W) : M W := fun eta hp => (F eta hp).bind fun w h1 => freezeI w h1
section
variable {K : PySem.W.Frag} {ω : World} {Wx : WX}
theorem frz_one {s : S4} {w : W} {v : V} {x : W} {h1 : IH} (R : Rel K ω s) (r : Rw K s w v) (g : zbw w s.hp = .ok x h1) : ∃ s', s'.H = s.H ∧ s'.hp = h1 ∧ s'.rho = s.rho ∧ Aft s s' ∧ Rel K ω s' ∧ Rw K s' x v := by
 cases w with
 | t t =>
  simp only [zbw, Res.ok.injEq] at g
  obtain ⟨rfl, rfl⟩ := g
  exact ⟨s, rfl, rfl, rfl, Aft.refl s, R, r⟩
 | r i =>
  simp only [zbw] at g
  cases hq : (getL s.hp i).bind allT with
  | none => simp only [hq] at g; cases g
  | some ts =>
   simp only [hq, Res.ok.injEq] at g
   obtain ⟨rfl, rfl⟩ := g
   rw [Option.bind_eq_some_iff] at hq
   obtain ⟨ws, h1, h2⟩ := hq
   obtain ⟨a, vs, e, e1, e2, l, nf⟩ := R.lst h1 r
   subst e
   have A := aft_frz R (zbj h1) e1
   refine ⟨s.frz i a, rfl, rfl, rfl, A, rel_frz R (zbj h1) e1, ?_⟩
   rw [zbh h2] at l
   simp only [Rw, Rf]
   exact ⟨a, vs, rfl, ⟨.inr rfl, e2⟩, RfL.aft A R _ _ Ycr⟩
theorem frz_all : ∀ (fs : List (Str × W)) {s : S4} {vs : List (Str × V)} {ts : List T} {h1 : IH}, Rel K ω s → RwF K s fs vs → frzAll fs s.hp = .ok ts h1 → ∃ s', s'.H = s.H ∧ s'.hp = h1 ∧ s'.rho = s.rho ∧ Aft s s' ∧ Rel K ω s' ∧ RfL K s'.fz s'.H ts (vs.map (·.2)) ∧ ts.length = fs.length
 | [], s, vs, ts, h1, R, l, g => by
  simp only [frzAll, Res.ok.injEq] at g
  obtain ⟨rfl, rfl⟩ := g
  rw [show vs = [] from l]
  exact ⟨s, rfl, rfl, rfl, Aft.refl s, R, by simp [RfL], rfl⟩
 | (n, w) :: fs, s, vs, ts, h1, R, l, g => by
  obtain ⟨v, r, rfl, a, b⟩ := l
  simp only [frzAll] at g
  cases hf : zbw w s.hp with
  | bad => rw [hf] at g; cases g
  | er _ _ _ => rw [hf] at g; cases g
  | ok x h2 =>
   rw [hf] at g
   obtain ⟨s2, e1, e2, e3, A2, R2, r2⟩ := frz_one R a hf
   cases x with
   | r _ => cases g
   | t t =>
    subst e2
    simp only [Res.bind] at g
    cases hg : frzAll fs s2.hp with
    | bad => rw [hg] at g; cases g
    | er _ _ _ => rw [hg] at g; cases g
    | ok us h3 =>
     rw [hg] at g
     simp only [Res.ok.injEq] at g
     obtain ⟨rfl, rfl⟩ := g
     obtain ⟨s3, q1, q2, q3, A3, R3, l3, n3⟩ := frz_all fs R2 (RwF.aft A2 R _ _ b) hg
     refine ⟨s3, q1.trans e1, q2, q3.trans e3, A2.trans A3, R3, ?_, by rw [List.length_cons, List.length_cons, n3]⟩
     rw [List.map_cons]
     simp only [RfL]
     exact ⟨v, _, rfl, Rf.aft A3 R2 _ _ r2, l3⟩
theorem zip_parts {A B : Type} : ∀ l : List (A × B), (l.map (·.1)).zip (l.map (·.2)) = l
 | [] => rfl
 | x :: l => by rw [List.map_cons, List.map_cons, List.zip_cons_cons, zip_parts l]
theorem go_freezeI {s : S4} {w : W} {v : V} {Q : VK} (R : Rel K ω s) (r : Rw K s w v) (g : Go K ω Wx (Rw K) s (freezeI w s.hp) Q) : Q v s.H := by
 unfold freezeI at g
 split at g
 ·rename_i i
  split at g
  ·rename_i c fs hc
   obtain ⟨a, e1, e2⟩ := r
   obtain ⟨C, dx, vs, h1, h2, h3⟩ := R.cell i _ a hc e1
   cases hg : frzAll fs s.hp with
   | bad => rw [hg] at g; exact g.elim
   | er _ _ _ =>
    exfalso
    have : ∀ (fs : List (Str × W)) (hp : IH) e eta h, frzAll fs hp ≠ .er e eta h := by
     intro fs
     induction fs with
     | nil => intro hp e eta h z; cases z
     | cons x fs ih =>
      intro hp e eta h z
      simp only [frzAll] at z
      cases hf : zbw x.2 hp with
      | bad => rw [hf] at z; cases z
      | er _ _ _ =>
       cases hx : x.2 with
       | t t => rw [hx] at hf; cases hf
       | r j =>
        rw [hx] at hf
        simp only [zbw] at hf
        split at hf <;> cases hf
      | ok y h2 =>
       rw [hf] at z
       cases y with
       | r _ => cases z
       | t t =>
        simp only [Res.bind] at z
        cases hg : frzAll fs h2 with
        | bad => rw [hg] at z; cases z
        | ok _ _ => rw [hg] at z; cases z
        | er _ _ _ => exact ih _ _ _ _ hg
    exact this _ _ _ _ _ hg
   | ok ts h5 =>
    rw [hg] at g
    obtain ⟨s2, q1, q2, q3, A2, R2, l2, n2⟩ := frz_all fs R h3 hg
    subst q2
    simp only [Res.bind] at g
    split at g
    ·rename_i c' fs' hc'
     have ha : s2.rho[i]? = some a := by rw [q3]; exact e1
     have A3 := aft_frz R2 hc' ha
     have R3 := rel_frz R2 hc' ha
     have fin := g v (s2.frz i a) rfl (A2.trans A3) R3 (by
      simp only [Rw, Rf]
      refine ⟨a, C, vs.map (·.2), e2, h2, ⟨.inr rfl, dx, ?_⟩, by rw [List.length_map, n2], RfL.aft A3 R2 _ _ l2⟩
      rw [← h3.names, zip_parts]
      show s2.H a = _
      rw [q1]
      exact h1)
     have eH : (s2.frz i a).H = s.H := q1
     rw [eH] at fin
     exact fin
    ·exact g.elim
  ·exact g.elim
 ·exact g.elim
theorem ie_frzI {X : Cx} {e : Expr} {F : M W} (he : IE X Wx e F) : IE X Wx e (mFrzI F) := PE.imp he fun σ H Q h => by
 obtain ⟨s, eta, e1, R1, S1, g⟩ := h
 exact ⟨s, eta, e1, R1, S1, Go.bind g fun a b s' A' R' f' _ g' => go_freezeI R' f' g'⟩
end
end Mir
namespace Mir
open PySem PySem.Spec L2
open PyProof.Rows hiding St
section
variable {prog : Program} {w : World} {A : Around} {E : Value → Shared → Prop} {h : Heap} {g : Array GenState} {d : Drawn} {t : Nat} {os : OsState}
variable {nm q : Str} {C N : Addr} {bs bm : List Value} {hdct : Bool} {sn : List Str} {sub : List Value} {ab : Bool} {col : Option Bool} {dd : Option Addr} {k0 k1 k2 k3 k5 : Option Value}
/-- the built-in __init__ bound to the exception, called -/
theorem call_mw {B newId i : String} {bmB : List Value} (FB : PySem.ExcBaseFacts B newId i bmB) {u e t0 : Addr} {rest : List Value} {Q : Value → Shared → Prop}
  (hC : h.get? C = some (excClassObj nm q C N bs bm hdct sn sub ab col dd k0 k1 k2 k3 k5 newId)) (he : h.get? e = some (PySem.HandSPX.excO C t0)) (hu : h.get? u = some (PySem.W.kxs_mw i e)) (hrest : rest.length ≤ sizeLine)
  (hq : ∀ h' t1, (∀ b o, b ≠ e → h.get? b = some o → h'.get? b = some o) → h'.get? e = some (PySem.HandSPX.excO C t1) → Q .none ⟨h', g, d, t, os⟩) :
  wpAny (model prog w) A (call (.ref u) rest) Q E ⟨h, g, d, t, os⟩ := by
 refine wpAny_call (codeAny_of_tree ?_)
 show wpAny _ A.in1 (callAny (.ref u) ⟨rest, []⟩) _ _ _
 simp only [callAny]
 refine wpAny_bind (wpAny_load hu ?_)
 simp only [PySem.W.kxs_mw, show (Value.type "method-wrapper" == Value.type "method" || Value.type "method-wrapper" == Value.type "builtin_function_or_method" || Value.type "method-wrapper" == Value.type "method-wrapper") = true by decide, if_true]
 refine PySem.W.KFB.if_so Yaz ?_
 refine wpAny_bind (PySem.W.check_bound_init FB.toExcCallFacts hC he rfl ?_)
 refine wpAny_bind (wpAny_pure (wpAny_pure ?_))
 refine ⟨plainId_quiet FB.init.plain _, codeAny_builtin FB.initEntry ?_⟩
 rw [Around.under_plainId FB.init.plain _]
 wp_walk
 refine hq _ h.objs.size (fun b o hb ho => ?_) ?_
 ·rw [Heap.get?_update_other _ _ (Ne.symm hb)]
  exact Heap.get?_push_of_some _ ho
 ·rw [Heap.get?_update_self _ (Heap.get?_push_of_some _ he) rfl]
  rfl
end
theorem ldL' {M : Model} {A : Around} {E : Value → Shared → Prop} {s : Shared} {env : Env} {m : Str → Option Value} {x : Str} {pos : Pos} {v : Value} {Q : Value → Shared → Prop} (hn : s.heap.Ns env.locals m) (hv : m x = some v) (h : Q v s)
  (hk : env.scope.kind = .function) (hl : env.kindOf x = some .local) (hd : (x == ("__debug__" : Str)) = false) : wpAny M A (eval Yex env) Q E s := wpAny_Name (wpAny_loadName_local hk hl hn hv h) hd
/-- what the written part says of such a class -/
structure XIni (P : Program) (K : PySem.W.Frag) (C fI : Addr) (qual fld : Str) (params : Arguments) (body : List Stmt) (scope : Scope) (fd : FuncData) : Prop where
 T : OexC K C
 ex : ∃ (oc : Value) (od : Option Addr) (kV doc pm : Value) (an : Option Addr) (cda : Addr) (ct : Value) (cc : Addr) (osl : Array Yc4) (ccl : Value) (cdd : Option Addr) (vs : Array Value) (ccs : Array Yc4) (file : Str) (tf : Tok) (cl : Value) (cld : Option Addr) (csl : Array Yc4),
  fd = PySem.W.ksFn "__init__" qual params body scope .none kV doc pm an Ydp ct cc ∧ K.lookup fI = some ⟨oc, od, .func fd, osl⟩ ∧ PySem.W.codeIn K Ydp qual = true ∧
  K.lookup cda = some ⟨ccl, cdd, .fields vs, ccs⟩ ∧ vs[2]? = some (.str file tf) ∧ ((P.main.file : Str) == file) = true ∧ K.lookup cc = some ⟨cl, cld, .cell (some (.ref C)), csl⟩
 iC : PySem.W.findIn K (.ref C) "__init__" = some (some (.ref fI))
 tI : PySem.W.typeIn K (.ref fI) = some Ye1
 sup : PySem.W.ks_superIn K C C "__init__" = some Yd1
 sub : PySem.W.subIn K (.ref C) (.type "ValueError") = some true
 mro : PySem.W.mroIn K C (.ref C) = some true
 gs : PySem.W.nsIn K mainGlobals "super" = some none
 ta : PySem.W.nsIn K PySem.cStatics "thirdparty.any" = some none
 fl : PySem.W.findIn K (.ref C) fld = some none
 top : (P.main.scope.names.lookup ("super" : Str)).isSome = false
/-- .. and its scope -/
structure XSc (par : Str) (ar : Arg) (params : Arguments) (scope : Scope) : Prop where
 hp : (params.posonlyargs ++ params.args).head? = some ar
 ha : ar.arg = ("self" : Str)
 ks : scope.names.lookup ("super" : Str) = some .globalImplicit
 kc : scope.names.lookup ("__class__" : Str) = some .free
 kself : scope.names.lookup Ydq = some .local
 kpar : scope.names.lookup par = some .local
 kind : scope.kind = .function
 co : scope.isCoroutine = false
 gen : scope.isGenerator = false
 cell : ∀ x ∈ scope.names, x.2 ≠ .cell
 ne : par ≠ ("self" : Str)
 db : (par == ("__debug__" : Str)) = false
section
variable {P : Program} {w : World} {K : PySem.W.Frag} {mg mb : Str → Option Value} {A : Around} {R : Result → Shared → Prop} {hp : Heap} {g : Array GenState} {d : Drawn} {t : Nat} {os : OsState}
theorem xini_code {C fI e t0 : Addr} {qual fld par txt : Str} {params : Arguments} {scope : Scope} {fd : FuncData} {ar : Arg} {args : Args} {u : Value} {p0 p1 p2 p3 p4 p5 p6 p7 p8 p9 : Pos} {j : Nat}
  (X : XIni P K C fI qual fld params [.Expr Ya p5, .Assign [.Attribute (.Name "self" p6) fld p7] (.Name par p8) p9] scope fd) (S : XSc par ar params scope)
  (KX : K.In hp) (Gg : hp.Ns mainGlobals mg) (Gb : hp.Ns builtinsNs mb) (Gbb : ∀ x : Str, x ≠ "__name__" → mb x = bootBuiltins x) (nl : hp.NoLimit) (hroom : A.depth < recursionLimit)
  (Ke : K.lookup e = none) (he : hp.get? e = some (PySem.HandSPX.excO C t0)) (hbind : BindsTo ⟨hp, g, d, t, os⟩ fd args [("self", .ref e), (par, u)])
  (hq : ∀ h' tk' dx t1, (∀ b o, b ≠ e → hp.get? b = some o → h'.get? b = some o) → hp.objs.size ≤ dx → dx ≠ e → h'.get? e = some ({ cls := .ref C, dict := some dx, data := .fields #[.ref t1, .none, .none, .none, .bool false, .none] } : Obj) →
   h'.Ns1 dx (fun y => if y = fld then some u else none) → R (.ok (.ret .none)) ⟨h', g, d, tk', os⟩)
  (hev : ∀ env : Env, eval Ya env = (do
   let ov ← attributeBase Ya0 "__init__" env (eval Ya0 env)
   standAt p2.atName
   let (f, first) ← holding [ov] Yr
   callWith p4 f first (backTo p4 Ybz) [])) :
  codeAny (model P w) A (.call (.ref fI) args) R ⟨hp, g, d, t, os⟩ := by
 obtain ⟨oc, od, kV, doc, pm, an, cda, ct, cc, osl, ccl, cdd, vs, ccs, file, tf, cl, cld, csl, rfl, lk, hcd, hcode, hvs, hfile, hcell⟩ := X.ex
 obtain ⟨nm, q, N, bs, bm, sn, sub, ab, col, dd, k0, k1, k2, k3, k5, hC, hbm⟩ := X.T.cls
 have hcl : PySem.W.clsIn K C = some { name := nm, bases := bs, mro := .ref C :: bm, ns := N, qualname := q, hasDict := true, slotNames := sn, subclasses := sub, abstract := ab, collection := col, hasDel := false } := by unfold PySem.W.clsIn; rw [hC] <;> rfl
 have kn : PySem.HandSPX.excO C t0 = PySem.HandSPX.excO C t0 := rfl
 refine PySem.ks_codeAny_call_defAt (binds := [("self", .ref e), (par, u)]) hroom (KX _ _ lk) rfl nl (PySem.W.codeRec_of KX hcd) rfl hbind S.cell ?_ (fun h₁ hns k1' => ?_) S.co S.gen S.kind
 ·intro x hx
  simp only [List.mem_cons, List.not_mem_nil, or_false] at hx
  rcases hx with rfl | rfl
  ·exact S.kself
  ·exact S.kpar
 have X1 : K.In h₁ := KX.keeps k1'
 have he1 := k1' _ _ he
 have hb1 : ([Ych, (par, u)] : List (Str × Value)).reverse.lookup Ydq = some (Value.ref e) := by
  have : ((("self" : Str) == par)) = false := beq_eq_false_iff_ne.mpr (Ne.symm S.ne)
  show List.lookup Ydq [(par, u), Ych] = _
  rw [List.lookup_cons, this]
  show List.lookup Ydq [Ych] = _
  rw [List.lookup_cons, beq_self_eq_true]
 have hb2 : ([Ych, (par, u)] : List (Str × Value)).reverse.lookup par = some u := by
  show List.lookup par [(par, u), Ych] = _
  rw [List.lookup_cons, beq_self_eq_true]
 have hCg := X1 _ _ hC
 have heC : e ≠ C := by
  intro z
  rw [z, hCg] at he1
  cases he1
 have hal : PySem.W.alongIn K "__init__" bm = some Yd1 := by
  have q := X.sup
  unfold PySem.W.ks_superIn at q
  rw [hcl] at q
  have z : (((Value.ref C) :: bm).dropWhile (· != .ref C)).drop 1 = bm := by simp [List.dropWhile_cons]
  rw [← z]
  exact q
 have hi : interactive (PySem.W.ksEnv qual scope hp.objs.size fI Ydp cc) = false := by simp [interactive, S.kind]
 have FB := PySem.F.excBase_ValueError
 refine PySem.ks_wpAt_execs_cons (PySem.ks_wpAt_Expr_any (env := PySem.W.ksEnv qual scope hp.objs.size fI Ydp cc) (PySem.ks_wpAt_MethodCall ?_ (hev _)) hi)
 refine PySem.ks_wpAt_super_base (env := PySem.W.ksEnv qual scope hp.objs.size fI Ydp cc) S.ks S.kc Yaz rfl (X1 _ _ lk) rfl S.hp rfl (X1 _ _ hcode) rfl hvs hfile X.top ?_
 refine PySem.W.ks_loadName_global (env := PySem.W.ksEnv qual scope hp.objs.size fI Ydp cc) S.kind S.ks (PySem.Calls.loadGlobal_builtin (env := PySem.W.ksEnv qual scope hp.objs.size fI Ydp cc) (Gg.keeps k1') (PySem.W.mg_none_of KX Gg X.gs) (Gb.keeps k1') ((Gbb _ Ym).trans Ym) ⟨rfl, ?_⟩)
 refine wpAny_loadName_free (env := PySem.W.ksEnv qual scope hp.objs.size fI Ydp cc) S.kind S.kc rfl ⟨_, X1 _ _ hcell, rfl⟩ ?_
 rw [S.ha]
 refine wpAny_loadName_local (env := PySem.W.ksEnv qual scope hp.objs.size fI Ydp cc) S.kind S.kself hns hb1 ?_
 refine PySem.ks_wpAny_isType_cls hCg rfl ⟨rfl, ?_⟩
 refine PySem.ks_wpAny_call_super hCg rfl he1 rfl (fun c z => by cases z) (PySem.W.looks_mroIn X1 X.mro) (fun h2 e2 k2 => ?_)
 have X2 := X1.keeps k2
 have he2 := k2 _ _ he1
 refine PySem.W.kxs_getMethod PySem.W.kxs_ValueError e2 (PySem.W.looks_opaque X2 X.ta) (l₀ := .ref C :: bm) ((PySem.W.looks_clsIn X2 hcl).andThen .now) (l := bm) (by simp [List.dropWhile_cons]) X2 hal ?_ heC Yaz ?_
 ·exact (⟨he2, rfl, rfl, trivial⟩ : PySem.W.InstAt h2 e (PySem.HandSPX.excO C t0) C none).type.andThen (PySem.W.looks_subIn X2 X.sub)
 have k3 : ∀ b o, h2.get? b = some o → (h2.push Ydv).get? b = some o := fun b o q => Heap.get?_push_of_some _ q
 have hu : (h2.push Ydv).get? h2.objs.size = some Ydv := Heap.get?_push_at rfl rfl
 have X3 := X2.keeps k3
 have he3 := k3 _ _ he2
 refine PySem.W.kxs_callWith (i := "ValueError.__init__") (x := e) rfl (Calls.evalArgs_plain (x := eval (.Constant (.str txt) j p3) (PySem.W.ksEnv qual scope hp.objs.size fI Ydp cc)) (rest := []) (Calls.spliced_cons (Calls.Constant_str (Calls.spliced_nil ⟨hu, ?_⟩))))
 refine call_mw (rest := [_]) FB (X3 _ _ hC) he3 hu (by rw [sizeLine_eq]; simp) fun h4 t1 k4 he4 => ?_
 -- self.fld = par
 have k14 : ∀ b o, b ≠ e → h₁.get? b = some o → h4.get? b = some o := fun b o hb q => k4 b o hb (k3 _ _ (k2 _ _ q))
 have X4 : K.In h4 := fun b o q => k4 b o (fun z => by rw [z, Ke] at q; cases q) (X3 b o q)
 have hL : e ≠ hp.objs.size := Nat.ne_of_lt (Heap.lt_size he)
 have hns4 : h4.Ns hp.objs.size _ := hns.at fun o q => k14 _ o (Ne.symm hL) q
 refine PySem.ks_wpAt_execs_cons (PySem.ks_wpAt_Assign_Attr (wpAt_of_wpAny (ldL' (env := PySem.W.ksEnv qual scope hp.objs.size fI Ydp cc) hns4 hb2 (ldL' (env := PySem.W.ksEnv qual scope hp.objs.size fI Ydp cc) hns4 hb1 ?_ S.kind S.kself Yaz) S.kind S.kpar S.db)))
 refine PySem.W.set_plain X4 (ox := { cls := .ref C, dict := none, data := .fields #[.ref t1, .none, .none, .none, .bool false, .none] }) (od := none) ⟨he4, rfl, rfl, trivial⟩ X.T.sa ?_
 refine PySem.HandSPX.exc_osa X4 he4 hcl (show PySem.HandSPX.refsVE (.ref C :: bm) = true from hbm) rfl X.fl (fun h5 tk5 dx k5' dn dne hx hn => ?_)
 refine wpAt_of_wpAny (wpAny_execs_nil ?_)
 refine hq h5 tk5 dx t1 (fun b o hb q => k5' b o hb (k14 b o hb (k1' b o q))) ?_ dne hx hn
 have : hp.objs.size ≤ h4.objs.size := by
  obtain ⟨oL, es, ep, hL2, _⟩ := hns4
  exact Nat.le_of_lt (Heap.lt_size hL2)
 exact Nat.le_trans this dn
end
/-- the promise of such an __init__ -/
def spI (C : Addr) (fld : Str) : Sp := fun vs H Q _ => ∃ (e : Addr) (y : V), vs = [.ref e, y] ∧ H e = some (exo e C none) ∧ ∀ dx, H dx = none → dx ≠ e → Q .non (upd (upd H dx (exd dx [(fld, y)])) e (exo e C (some dx)))
section
variable {P : Program} {w : World} {K : PySem.W.Frag} {mg : Str → Option Value} {base : Heap} {CX : CXT} {C fI : Addr} {qual fld par txt : Str} {params : Arguments} {scope : Scope} {fd : FuncData} {ar : Arg} {p0 p1 p2 p3 p4 p5 p6 p7 p8 p9 : Pos} {j : Nat}
theorem xini_run (X : XIni P K C fI qual fld params [.Expr Ya p5, .Assign [.Attribute (.Name "self" p6) fld p7] (.Name par p8) p9] scope fd) (S : XSc par ar params scope)
  (hev : ∀ env : Env, eval Ya env = (do
   let ov ← attributeBase Ya0 "__init__" env (eval Ya0 env)
   standAt p2.atName
   let (f, first) ← holding [ov] Yr
   callWith p4 f first (backTo p4 Ybz) []))
  {A : Around} {outer : List Env} {s : Shared} {H : Hp} {args : Args} {us : List Value} {vs : List V} {Q : VK} {E : XK} (hroom : A.depth < recursionLimit) (e0 : Env0 P w K mg base A outer s H) (hb : BindsTo s fd args (([Ydq, par] : List Str).zip us)) (r : Vals vs us) (h : spI C fld vs H Q E) :
  codeAny (model P w) A (.call (.ref fI) args) (CR CX outer P w H s Q E) s := by
 obtain ⟨e, y, rfl, he, q⟩ := h
 cases r with
 | @cons _ u0 _ ur ra rb =>
  cases rb with
  | @cons _ u _ ur2 ry rc =>
   cases rc
   obtain rfl : u0 = Value.ref e := ra
   obtain ⟨t0, ho⟩ := exo_at e0.hok he
   have keep : ∀ b o, base.get? b = some o → s.heap.get? b = some o := fun b o z => (e0.bs b o z).1
   have Ke : K.lookup e = none := by
    cases z : K.lookup e with
    | none => rfl
    | some o =>
     have z1 := (e0.bs e o (e0.mod.kin _ _ z)).2
     rw [he] at z1
     cases z1
   obtain ⟨mb, Gb, Gbb⟩ := e0.mod.blt
   have ok := e0.hok
   have bare := e0.bare
   have KX := e0.mod.kin.keeps keep
   have Gg : s.heap.Ns mainGlobals mg := e0.mod.glob.at fun o z => keep _ _ z
   have Gb' : s.heap.Ns builtinsNs mb := Gb.at fun o z => keep _ _ z
   have nl : s.heap.NoLimit := e0.mod.nolimit.keeps keep
   clear e0
   obtain ⟨hp, g, d, t, os⟩ := s
   refine xini_code X S KX Gg Gb' Gbb nl hroom Ke ho hb (fun h' tk' dx t1 k dn dne hx hn => ?_) hev
   have hnd : H dx = none := ok.fresh dn
   have nd : ∀ {b : Addr} {o : Obj}, hp.get? b = some o → b ≠ dx := fun {b o} q => Nat.ne_of_lt (Nat.lt_of_lt_of_le (Heap.lt_size q) dn)
   have na : ∀ {b : Addr}, H b = none → b ≠ e := fun {b} n z => by
    rw [z, he] at n
    cases n
   refine ⟨.non, upd (upd H dx (exd dx [(fld, y)])) e (exo e C (some dx)), rfl, bare, ?_, ?_, rfl, q dx hnd dne⟩
   ·exact {
     keep := fun b o q n _ _ => k b o (na n) q
     slot := fun b o q n _ _ => ⟨o.slots, k b o (na n) q⟩
     free := fun b o q n _ => by rw [upd_ne (na n), upd_ne (nd q)]; exact n
     there := fun b o q _ => by
      by_cases hb : b = e
      ·exact ⟨_, by rw [hb]; exact hx⟩
      ·exact ⟨o, k b o hb q⟩
     tups := fun b xs q => by rw [upd_ne (at_ne he q exo_tup), upd_ne (ne_of_none q hnd)]; exact q
     frzs := fun b o v q => by rw [upd_ne (at_ne he q exo_frz), upd_ne (ne_of_none q hnd)]; exact q
     tbls := fun b ps q => ⟨#[], by rw [upd_ne (at_ne he q exo_tbl), upd_ne (ne_of_none q hnd), q]; simp⟩ }
   ·intro b o q
    by_cases hb : b = e
    ·subst hb
     rw [upd_same] at q
     cases q
     exact exo_ok hx
    ·rw [upd_ne hb] at q
     by_cases hd : b = dx
     ·subst hd
      rw [upd_same] at q
      cases q
      exact exd_ok hn (relO_put (fs := []) ry fun g => True.intro)
     ·rw [upd_ne hd] at q
      exact (ok b o q).stay (fun c v hc z => k c v (by
        rcases hc with hc | hc
        ·rw [hc]
         exact hb
        ·exact at_ne he hc exo_own) z)
       (fun c hc => by rw [upd_ne (at_ne he hc exo_own), upd_ne (ne_of_none hc hnd)]; exact hc) (fun c xs hc => by rw [upd_ne (at_ne he hc exo_tup), upd_ne (ne_of_none hc hnd)]; exact hc)
theorem spI_len {vs : List V} {H : Hp} {Q : VK} {E : XK} (h : spI C fld vs H Q E) : vs.length = ([Ydq, par] : List Str).length := by
 obtain ⟨e, y, rfl, _⟩ := h
 rfl
theorem xini_ok (X : XIni P K C fI qual fld params [.Expr Ya p5, .Assign [.Attribute (.Name "self" p6) fld p7] (.Name par p8) p9] scope fd) (S : XSc par ar params scope)
  (hev : ∀ env : Env, eval Ya env = (do
   let ov ← attributeBase Ya0 "__init__" env (eval Ya0 env)
   standAt p2.atName
   let (f, first) ← holding [ov] Yr
   callWith p4 f first (backTo p4 Ybz) [])) : FnOk P w K mg base CX 1 fI fd [Ydq, par] (spI C fld) :=
 ⟨fun vs H Q E h => spI_len h, fun A outer s H args us vs Q E hr e0 hb r h => xini_run X S hev hr.depth e0 hb r h⟩
theorem xini_hot (X : XIni P K C fI qual fld params [.Expr Ya p5, .Assign [.Attribute (.Name "self" p6) fld p7] (.Name par p8) p9] scope fd) (S : XSc par ar params scope)
  (hev : ∀ env : Env, eval Ya env = (do
   let ov ← attributeBase Ya0 "__init__" env (eval Ya0 env)
   standAt p2.atName
   let (f, first) ← holding [ov] Yr
   callWith p4 f first (backTo p4 Ybz) [])) : L2H.FnH P w K mg base CX 1 fI fd [Ydq, par] (spI C fld) :=
 ⟨fun vs H Q E h => spI_len h, fun A outer s H args us vs Q E p hr _ _ e0 hb r h => xini_run X S hev hr.depth e0 hb r h⟩
end
end Mir
namespace Mir
open PySem PySem.Spec L2
open PyProof.Rows hiding St
section
variable {X : Cx} {CX : CXT} {k : Nat} {f C g p1 : Addr} {fd : FuncData} {ps : List Str} {sp : Sp} {dvs : List V} {ds : List Value} {E : L2.St → XK} {x m fl : Str} {p pos apos : Pos} {e o : Expr} {es : List Expr} {ta : TE} {t : TA} {pl : Sem Bool} {mc : Value}
theorem run_makeX {pins : List Ycz} {σ : L2.St} {H : Hp} {s : Shared} {Q : VK} {us : List Value} {vs : List V} (M : Mk X.K C f) (F : FnG X.prog X.w X.K X.mg X.base CX k f fd ps sp) (hr : Room (k + 1) X.A) (hgd : X.A.guards = some []) (hb : Binds X.K fd ps ds) (hd : Vals dvs ds) (hx : PassesAt CX X σ (E σ)) (I : Inv X pins σ H s) (r : Vals vs us)
  (h : ∀ x dx, H x = none → H dx = none → dx ≠ x → sp Ye2 (upd (upd H dx (.own x)) x Yeh) Yb7 (E σ)) : wpAny Yaa X.A (call (.ref C) us) (EP X pins σ Q) X.xe s := by
 have q0 := h Yax s.heap.objs.size (I.hok.fresh (Nat.le_succ _)) (I.hok.fresh Ydy) (Nat.ne_of_lt (Nat.lt_succ_self _))
 have J := Inv.made (C := C) I
 have r2 : Vals (V.ref Yax :: (vs ++ dvs)) (Value.ref Yax :: (us ++ ds)) := .cons rfl (r.append hd)
 have el : (Value.ref Yax :: us ++ ds).length = ps.length := (show _ = _ from r2.length.symm).trans (F.len _ _ _ _ q0)
 have cod := F.run (X.A.under (.builtin "type.__call__" ⟨.ref C :: us, []⟩)) X.stack _ _ ⟨Value.ref Yax :: us, []⟩ (Value.ref Yax :: (us ++ ds)) _ _ (E σ) (hr.make C us []) hgd (J.env0.make C us []) (hb _ (Value.ref Yax :: us) J.kIn el) r2 q0
 refine wpAny_call (make_map (f := f) I.kIn M.makes M.init (beq_iff_eq.mp M.fn) (codeAny_mono cod ?_))
 rintro (er | fl) s' q
 ·exact hx pins _ _ er s' J q
 ·cases fl with
  | ret u =>
   obtain ⟨v, H', J2, rv, ev, q3⟩ := J.after q
   subst ev
   exact ⟨rv, V.ref Yax, H', J2, rfl, q3⟩
  | next => exact (show False from q).elim
  | brk => exact (show False from q).elim
  | cont => exact (show False from q).elim
def tMakeX (C : Addr) (sp : Sp) (dvs : List V) (E : L2.St → XK) (t : TA) : TE := fun σ H Q => t σ H fun vs H1 => ∀ x dx, H1 x = none → H1 dx = none → dx ≠ x → sp Ye2 (upd (upd H1 dx (.own x)) x Yeh) Yb7 (E σ)
theorem pe_makeX (M : Mk X.K C f) (F : FnG X.prog X.w X.K X.mg X.base CX k f fd ps sp) (hr : Room (k + 1) X.A) (hgd : X.A.guards = some []) (hg : Gl X x) (hm : X.mg x = some (.ref C)) (hb : Binds X.K fd ps ds) (hd : Vals dvs ds) (hx : ∀ σ, PassesAt CX X σ (E σ)) (ha : PA X Ybi t)
  (hdb : (x == ("__debug__" : Str)) = false := by decide) (he : starEach Ybi X.env = (false, eval e X.env) :: starEach es X.env := by rfl) (hpl : (backTo pos Ybe).any (·.1) = false := by rfl) : PE X Y8 (tMakeX C sp dvs E t) :=
 ⟨fun pins s σ H Q I h => wpAny_Call_Name_kw (ld_glob I hg hm (PySem.W.callWith_K (h₀ := X.base) I.ok.mod.kin M.kp (thn (ha.run pos pins s σ H _ I h) fun us s1 ⟨vs, H1, I1, r, q⟩ => ⟨I1.kIn, run_makeX M F hr hgd hb hd (hx σ) I1 r q⟩) he hpl) hdb)⟩
end
def reEr {A : Type} (eta : IS) (r : Res A) : Res A := match r with
 | .er e _ h => .er e eta h
 | r => r
def spX (K : PySem.W.Frag) (ω : World) (f : OpN) (n : Nat) : Sp := fun vs H Q E => ∃ (s : S4) (ws : List W), s.H = H ∧ Rel K ω s ∧ RwL K s ws vs ∧ ws.length = n ∧ Go K ω (fun cls d _ H' => E cls d H') (Rw K) s (f ws s.hp) Q
/-- a def's function: exceptions go on; its cells stay -/
def fnX (n nn : Nat) (B : M Fl) : OpN := fun ws hp => if ws.length = n then (match B Yda hp with
  | .ok (.rt w) h => .ok w h
  | .ok (.nx _) h => .ok Yaw h
  | .er e _ h => .er e [] h
  | _ => .bad) else .bad
theorem fnX_len {n nn : Nat} {B : M Fl} : ∀ ws hp, ws.length ≠ n → fnX n nn B ws hp = .bad := fun ws hp h => by unfold fnX; rw [if_neg h]
section
variable {K : PySem.W.Frag} {ω : World}
theorem spX_len {f : OpN} {n : Nat} {vs : List V} {H : Hp} {Q : VK} {E : XK} (h : spX K ω f n vs H Q E) : vs.length = n := by
 obtain ⟨s, ws, _, _, l, e, _⟩ := h
 rw [← RwL.length l, e]
variable {P : Program} {w : World} {mg : Str → Option Value} {base : Heap} {CX : CXT}
theorem okX {x qual : Str} {st : Stmt} {f : Addr} {fd : FuncData} {N ps : List Str} {k : Nat} {B : M Fl} {dfs : List V} {kws : List Ydn} (F : FunD K x qual (defArgs st) Yeu Yau dfs kws f fd) (S : FnScope N ps Yau)
  (hb : ∀ (cdv : Value) (A : Around) (outer : List Env) (s : Shared) (H : Hp) (E : XK), Room k Yap → A.guards = some [] → ISs Yck (fun cls d _ H' => E cls d H') Yeu B) :
  FnG P w K mg base CX (k + 1) f fd ps (spX K w (fnX ps.length N.length B) ps.length) := by
 refine Fun.okG F S (fun vs H Q E h => spX_len h) fun cdv A outer s H vs Q E hr hgd h => ⟨_, hb cdv A outer s H E hr hgd, ?_⟩
 obtain ⟨s0, ws, e1, R1, l, el, g⟩ := h
 refine ⟨s0, _, e1, R1, sl_start l, ?_⟩
 unfold fnX at g
 rw [if_pos el] at g
 rw [el]
 cases hB : B (ws.map some ++ List.replicate (N.length - ps.length) none) s0.hp with
 | ok fl hp =>
  rw [hB] at g
  cases fl with
  | rt wr => exact fun b s' h1 h2 h3 h4 => by cases b <;> first | exact h4.elim | exact g _ s' h1 h2 h3 h4
  | nx e => exact fun b s' h1 h2 h3 h4 => by cases b <;> first | exact h4.elim | exact g .non s' h1 h2 h3 (by simp [Rw, Rf])
  | bk e => exact g.elim
  | ct e => exact g.elim
 | er e eta hp =>
  rw [hB] at g
  exact fun s' σ' cls d h1 h2 h3 h4 h5 => g s' [] cls d h1 h2 h3 ⟨rfl, fun i w z => by simp at z⟩ h5
 | bad => rw [hB] at g; exact g.elim
end
def mMakeX (c : Str) (f : OpN) (ds : List T) (Fs : M (List W)) : M W := fun eta hp => (Fs eta hp).bind fun ws h1 => (reEr eta (f Yei (h1 ++ [some (.ins c [])]))).bind fun w h2 => match w with
 | .t .non => .ok (.r h1.length) h2
 | _ => .bad
section
variable {X : Cx} {Wx : WX} {CX : CXT} {k : Nat} {f C g p1 : Addr} {fd : FuncData} {ps : List Str} {m : OpN} {n : Nat} {c x mn fl : Str} {p pos apos : Pos} {e o : Expr} {es : List Expr} {Fo : M W} {Fs : M (List W)} {dvs : List V} {ds : List Value} {dts : List T} {pl : Sem Bool} {mc : Value}
theorem go_madeX {s : S4} {eta : IS} {σ : L2.St} {x dx : Addr} {ws : List W} {vs : List V} {Q : VK} (R : Rel X.K X.w s) (S : Sl X.K s eta σ) (cn : CN X.K c C) (f1 : RwL X.K s ws vs) (hdt : ∀ s, RwL X.K s (dts.map W.t) dvs) (hl : ∀ ws hp, ws.length ≠ n → m ws hp = .bad) (nx : s.H x = none) (ndx : s.H dx = none) (ne : dx ≠ x)
  (g : Go X.K X.w Wx (Rw X.K) s ((reEr eta Yec).bind fun w h2 => match w with | .t .non => .ok (.r s.hp.length) h2 | _ => .bad) Q) :
  spX X.K X.w m n Ye2 (upd (upd s.H dx (.own x)) x Yeh) Yb7 (WE Wx σ) := by
 have A0 := (Aft.refl s).setD (D := dx) (o' := .own x) ndx
 have R0 : Rel X.K X.w (s.setD dx (.own x)) := rel_setD R (R.fresh ndx).1 (R.fresh ndx).2
 have nx0 : (s.setD dx (.own x)).H x = none := by show upd s.H dx (.own x) x = none; rw [upd_ne (Ne.symm ne)]; exact nx
 have ok0 : CellOk X.K X.w (s.setD dx (.own x)) x (.ins c []) (some Yeh) := ⟨C, dx, [], rfl, cn, rfl⟩
 have A1 := aft_addL (c := .ins c []) (o := .ins C dx []) R0 nx0
 have R1 := rel_addL R0 nx0 ok0
 have A := A0.trans A1
 refine ⟨(s.setD dx (.own x)).addL x (.ins c []) Yeh, .r s.hp.length :: (ws ++ dts.map W.t), rfl, R1, ?_, ?_, ?_⟩
 ·exact ⟨.ref x, _, rfl, addL_r (s := s.setD dx (.own x)) R0, RwL.append (RwL.aft A R _ _ f1) (hdt _)⟩
 ·by_cases q : (W.r s.hp.length :: (ws ++ dts.map W.t)).length = n
  ·exact q
  ·rw [hl _ _ q] at g; exact g.elim
 ·have g' := Go.aft g A
  show Go X.K X.w (fun cls d _ H' => Wx cls d σ H') (Rw X.K) _ Yec _
  cases hq : m (.r s.hp.length :: (ws ++ dts.map W.t)) (s.hp ++ [some (.ins c [])]) with
  | er e1 eta1 h1 =>
   rw [hq] at g'
   exact fun s' σ' cls d q1 q2 q3 q4 q5 => g' s' σ cls d q1 q2 q3 (S.aft (A.trans q2) R) q5
  | bad => rw [hq] at g'; exact g'.elim
  | ok a h =>
   rw [hq] at g'
   intro b s' e1 e2 e3 e4
   simp only [Mir.reEr, Res.bind] at g'
   split at g'
   ·have hb : b = .non := by simpa only [Rw, Rf] using e4
    refine ⟨hb, g' (.ref x) s' e1 e2 e3 ?_⟩
    obtain ⟨ex, pre, _⟩ := e2.pre
    refine ⟨x, ?_, rfl⟩
    rw [pre]
    have h0 : ((s.setD dx (.own x)).addL x (.ins c []) Yeh).rho[s.hp.length]? = some x := by
     obtain ⟨a, q1, q2⟩ := addL_r (K := X.K) (p := x) (c := .ins c []) (o := .ins C dx []) (s := s.setD dx (.own x)) R0
     cases q2
     exact q1
    rw [List.getElem?_append_left (List.getElem?_eq_some_iff.mp h0).1]
    exact h0
   ·exact g'.elim
theorem ie_makeX (M : Mk X.K C f) (cn : CN X.K c C) (Fk : FnG X.prog X.w X.K X.mg X.base CX k f fd ps (spX X.K X.w m n)) (hr : Room (k + 1) X.A) (hgd : X.A.guards = some []) (hg : Gl X x) (hm : X.mg x = some (.ref C)) (hb : Binds X.K fd ps ds) (hd : Vals dvs ds) (hdt : ∀ s, RwL X.K s (dts.map W.t) dvs) (hl : ∀ ws hp, ws.length ≠ n → m ws hp = .bad)
  (hx : ∀ σ, PassesAt CX X σ (WE Wx σ)) (ha : IA X Wx Ybi Fs)
  (hdb : (x == ("__debug__" : Str)) = false := by decide) (he : starEach Ybi X.env = (false, eval e X.env) :: starEach es X.env := by rfl) (hpl : (backTo pos Ybe).any (·.1) = false := by rfl) : IE X Wx Y8 (mMakeX c m dts Fs) :=
 PE.imp (pe_makeX (E := WE Wx) M Fk hr hgd hg hm hb hd hx ha hdb he hpl) fun σ H Q h =>
  tM.bind1 (R := fun (vs : List V) (H1 : Hp) => ∀ x dx, H1 x = none → H1 dx = none → dx ≠ x → spX X.K X.w m n Ye2 (upd (upd H1 dx (.own x)) x Yeh) Yb7 (WE Wx σ))
   (C := W) (k := fun (ws : List W) (eta : IS) (h1 : IH) => (reEr eta (m (W.r h1.length :: (ws ++ dts.map W.t)) (h1 ++ [some (Cell.ins c [])]))).bind fun w h2 => match w with | .t .non => (Res.ok (W.r h1.length) h2 : Res W) | _ => .bad) h fun s eta ws vs R1 S1 f1 g x dx nx ndx ne => go_madeX R1 S1 cn f1 hdt hl nx ndx ne g
end
end Mir
namespace Mir
open PySem PySem.Spec L2
open PyProof.Rows hiding St
/-- .. which a context that takes any takes -/
theorem takesN {X : Cx} {W : WX} (t : L2.Takes X W) : L2N.Takes X W := fun u s' ⟨a, B, sI, pins, σ, H, cls, d, e, I, nb, up, sky, na, os, ag, w⟩ =>
 t u s' ⟨a, B, sI, pins, σ, H, cls, d, e, I, nb, up, by
  rcases sky with ⟨h1, h2, h3, oe, vs, h4, h5, h6⟩ | h | ⟨h1, h2, h3, h4⟩
  ·exact .inl ⟨h1, h2, h3, oe, vs, h4, h5.zc, h6⟩
  ·exact .inr (.inl (L2H.flyingZ_imp (fun o z => z.zc) h))
  ·exact .inr (.inr ⟨h1, h2, h3, L2H.tracedZ_imp (fun o z => z.zc) h4⟩), na, os, ag, w⟩
theorem pmk_oexN {X : Cx} {CX : CXT} {x : Str} {e : Expr} {es : List Expr} {ta : TA} {p pos : Pos} {C fI : Addr} {k : Nat} {fd : FuncData} {ps : List Str} {sp : Sp} (T : OexC X.K C) (iC : PySem.W.findIn X.K (.ref C) "__init__" = some (some (.ref fI))) (tI : PySem.W.typeIn X.K (.ref fI) = some Ye1)
  (F1 : FnOk X.prog X.w X.K X.mg X.base CX k fI fd ps sp) (hr : Room (k + 1) X.A) (hb : Binds X.K fd ps []) (hx : Passes CX X Ycl) (hg : Gl X x) (hm : X.mg x = some (.ref C)) (ha : PA X Ybi ta)
  (hdb : (x == ("__debug__" : Str)) = false := by decide) (he : starEach Ybi X.env = (false, eval e X.env) :: starEach es X.env := by rfl) (hpl : (backTo pos Ybe).any (·.1) = false := by rfl) :
  L2N.PMk X Y8 (tMkO C sp [] ta) := by
 intro pins s σ H Q I h
 obtain ⟨nm, q, N, bs, bm, sn, sub, ab, col, dd, k0, k1, k2, k3, k5, hC, hbm⟩ := T.cls
 refine wpAny_Call_Name_kw (ld_glob I hg hm ?_ hdb)
 refine PySem.W.callWith_K (h₀ := X.base) I.ok.mod.kin T.kC (thn (ha.run pos pins s σ H _ I h) fun us s1 ⟨vs, H1, I1, r1, hz, q1⟩ => ⟨I1.kIn, ?_⟩) he hpl
 show wpAny _ _ (call (.ref C) us) _ _ _
 obtain ⟨hp, g, dr, tk, os⟩ := s1
 have hsz : hp.objs.size ≤ hp.objs.size + 1 := Nat.le_succ _
 have hn : H1 Yas = none := I1.hok.fresh hsz
 have hq := q1 Yas hn
 rw [List.append_nil] at hq
 have kk : ∀ b o, hp.get? b = some o → ((hp.push (PySem.W.kdv_tup us)).push Ybf).get? b = some o := fun b o e => Heap.get?_push_of_some _ (Heap.get?_push_of_some _ e)
 have hget : ((hp.push (PySem.W.kdv_tup us)).push Ybf).get? Yas = some Ybf := by heap_get
 have I2 : Inv X pins σ (upd H1 Yas (exo Yas C none)) ⟨(hp.push (PySem.W.kdv_tup us)).push Ybf, g, dr, tk, os⟩ :=
  I1.laid (t' := tk) (a := hp.objs.size + 1) (o := exo Yas C none) (h' := (hp.push (PySem.W.kdv_tup us)).push Ybf) kk hsz (exo_ok hget)
 have r2 : Vals (V.ref Yas :: vs) (Value.ref Yas :: us) := .cons rfl r1
 have hl : (Value.ref Yas :: us ++ []).length = ps.length := by
  have e := r2.length
  rw [F1.len _ _ _ _ hq] at e
  rw [List.append_nil]
  exact e.symm
 have hus : us.length ≤ sizeLine := by
  rw [← Paired.length r1, sizeLine_eq]
  omega
 have b2 := hb _ (Value.ref Yas :: us) I2.kIn hl
 rw [List.append_nil] at b2
 refine wpAny_call (PySem.HandSPX.call_own F.excBase_ValueError (fun Y => PySem.HandSPX.refsVE_contains Y bm hbm) (I1.kIn _ _ hC) (PySem.W.looks_findIn I1.kIn iC) (fun self => PySem.W.bind_fn I1.kIn self tI) hus
  (codeAny_mono (F1.run _ X.stack _ _ ⟨Value.ref Yas :: us, []⟩ (Value.ref Yas :: us) _ _ Ycl (hr.make C us []) (I2.env0.make C us []) b2 r2 hq) fun r s' hq' => ?_))
 cases r with
 | error er => exact hx pins σ _ _ er s' I2 hq'
 | ok fl =>
  cases fl with
  | ret u =>
   obtain ⟨v, H2, os2, bare2, un2, hok2, rv, ev, d, fs, ea, ed, hd1, q2⟩ := hq'
   subst ev
   obtain ⟨h2, g2, d2, t2, os'⟩ := s'
   obtain ⟨t0, G, J, kG, ge, hoe, na⟩ := mk_end0 (d2 := d2) (t2 := t2) I1 hsz kk un2 hok2 os2 bare2 ea ed hd1
   exact ⟨rv, hp.objs.size + 1, _, _, ⟨G, g2, d2, t2, os'⟩, _, .ref C, some d, rfl, J, kG, ge, hoe, ⟨rfl, rfl, fun vs hv => by cases hv; rfl⟩, rfl, rfl, na, rfl, bare2, raises_own T.exC T.tyC, q2⟩
  | next => exact False.elim hq'
  | brk => exact False.elim hq'
  | cont => exact False.elim hq'
/-- the mirror's exceptions -/
def ExF (K : PySem.W.Frag) (s : S4) (a : Ex) (b : Value × Option Addr) : Prop := ExR K s a b.1 b.2
abbrev tX (K : PySem.W.Frag) (ω : World) (Wx : WX) (F : M Ex) : L2.St → Hp → XK → Prop := fun σ H Q => tM K ω Wx (ExF K) F σ H (fun b H' => Q b.1 b.2 H')
def mExc (c fld : Str) (Fs : M (List W)) : M Ex := fun eta hp => (Fs eta hp).bind fun ws h => match ws with
 | [w] => .ok ⟨c, [(fld, w)]⟩ h
 | _ => .bad
def mRaise (F : M Ex) : M Fl := fun eta hp => (F eta hp).bind fun e h => .er e eta h
section
variable {X : Cx} {Wx : WX} {C : Addr} {c fld : Str} {Fs : M (List W)} {F : M Ex} {e : Expr} {pos : Pos}
theorem tmk_of (cn : CN X.K c C) : ∀ σ H Q, tX X.K X.w Wx (mExc c fld Fs) σ H Q → tMkO C (spI C fld) [] (tA X.K X.w Wx Fs) σ H Q := fun σ H Q h => by
 refine tM.bind1 (R := fun (vs : List V) (H1 : Hp) => vs.length ≤ 1000 ∧ ∀ a, H1 a = none → spI C fld (.ref a :: (vs ++ [])) (upd H1 a (exo a C none)) (fun v H2 => v = .non ∧ ∃ (d : Addr) (fs : List Ydn), H2 a = some (exo a C (some d)) ∧ H2 d = some (exd d fs) ∧ H1 d = none ∧ Q (.ref C) (some d) (upd (del H2 a) d (.xd fs))) Ycl)
  (C := Ex) (k := fun (ws : List W) (_ : IS) (h : IH) => match ws with | [w] => (Res.ok (⟨c, [(fld, w)]⟩ : Ex) h : Res Ex) | _ => .bad) h fun s eta ws vs R1 S1 f1 g => ?_
 split at g
 ·rename_i w
  obtain ⟨v, r, e1, f2, e2⟩ := f1
  subst e1
  cases (show r = [] from e2)
  refine ⟨by simp, fun a na => ⟨a, v, rfl, upd_same, fun dx hdx hne => ⟨rfl, dx, [(fld, v)], upd_same, ?_, ?_, ?_⟩⟩⟩
  ·rw [upd_ne hne, upd_same]
  ·rw [upd_ne hne] at hdx
   exact hdx
  ·rw [upd_ne hne] at hdx
   have eH : upd (del (upd (upd (upd s.H a (exo a C none)) dx (exd dx [(fld, v)])) a (exo a C (some dx))) a) dx (.xd [(fld, v)]) = upd s.H dx (.xd [(fld, v)]) := by
    funext b
    by_cases h1 : b = dx
    ·rw [h1, upd_same, upd_same]
    ·rw [upd_ne h1, upd_ne h1]
     by_cases h2 : b = a
     ·rw [h2, del_same, na]
     ·rw [del_ne h2, upd_ne h2, upd_ne h1, upd_ne h2]
   rw [eH]
   have A := (Aft.refl s).setD (D := dx) (o' := .xd [(fld, v)]) hdx
   have R' : Rel X.K X.w (s.setD dx (.xd [(fld, v)])) := rel_setD R1 (R1.fresh hdx).1 (R1.fresh hdx).2
   exact g (.ref C, some dx) (s.setD dx (.xd [(fld, v)])) rfl A R' ⟨C, rfl, cn, .inr ⟨dx, _, rfl, upd_same, v, [], rfl, f2.aft A R1, rfl⟩⟩
 ·exact g.elim
/-- raise C(e) -/
theorem st_raise (hc : X.calm = true) (tk : L2N.Takes X Wx) (he : L2N.PMk X e (tX X.K X.w Wx F)) : ISt X Wx (.Raise (some e) none pos) (mRaise F) := PS.imp (L2N.ps_raise hc tk he) fun D σ H h => by
 obtain ⟨s, eta, e1, R1, S1, g⟩ := h
 refine ⟨s, eta, e1, R1, S1, Go.bind g fun a b s' A R f _ g' => ?_⟩
 exact g' s' σ b.1 b.2 rfl (Aft.refl s') R (S1.aft A R1) f
end
end Mir
namespace Mir
open PySem PySem.Spec L2
open PyProof.Rows hiding St
open HotX (HotAt)
end Mir
namespace Mir
open PySem PySem.Spec L2
open PyProof.Rows hiding St
/-- which classes a clause names -/
def HitOk (K : PySem.W.Frag) (c : Value) (hit : Str → Option Bool) : Prop := ∀ (c' : Str) (C' : Addr) (b : Bool), hit c' = some b → CN K c' C' → PySem.W.exmOne K (.ref C') c = some b
theorem Sl.unset {K : PySem.W.Frag} {s : S4} {eta : IS} {σ : L2.St} (h : Sl K s eta σ) (i : Nat) (x : Option V) : Sl K s Yem (σ.set i x) := by
 refine ⟨by rw [List.length_set, List.length_set]; exact h.1, fun j w q => ?_⟩
 by_cases e : i = j
 ·subst e
  by_cases hl : i < eta.length
  ·rw [List.getElem?_set_self hl] at q; cases q
  ·rw [List.getElem?_eq_none Yen] at q; cases q
 ·rw [List.getElem?_set_ne e] at q
  obtain ⟨v, h1, h2⟩ := h.2 j w q
  exact ⟨v, by rw [List.getElem?_set_ne e]; exact h1, h2⟩
section
variable {X : Cx} {Wx : WX} {C fI : Addr} {c fld x : Str} {fd : FuncData} {ps : List Str} {e : Expr} {es : List Expr} {Fs : M (List W)} {p pos : Pos} {CX : CXT}
theorem xc_cold (T : OexC X.K C) (iC : PySem.W.findIn X.K (.ref C) "__init__" = some (some (.ref fI))) (tI : PySem.W.typeIn X.K (.ref fI) = some Ye1) (cn : CN X.K c C) (F1 : FnOk X.prog X.w X.K X.mg X.base Yez 1 fI fd ps (spI C fld)) (hr : Room 2 X.A) (hb : Binds X.K fd ps []) (hg : Gl X x) (hm : X.mg x = some (.ref C)) (ha : IA X Wx Ybi Fs)
  (hdb : (x == ("__debug__" : Str)) = false := by decide) (he : starEach Ybi X.env = (false, eval e X.env) :: starEach es X.env := by rfl) (hpl : (backTo pos Ybe).any (·.1) = false := by rfl) : L2N.PMk X Y8 (tX X.K X.w Wx (mExc c fld Fs)) :=
 fun pins s σ H Q I h => pmk_oexN T iC tI F1 hr hb passL hg hm ha hdb he hpl pins s σ H Q I (tmk_of cn σ H Q h)
end
end Mir
namespace Mir
open PySem PySem.Spec L2
open PyProof.Rows hiding St
/-- a class: a built-in type or an own class by name -/
abbrev CT := String ⊕ Str
def tyC (hp : IH) : W → Option CT
 | .t .non => some (.inl "NoneType") | .t (.bl _) => some (.inl "bool") | .t (.int _) => some (.inl "int") | .t (.str _) => some (.inl "str")
 | .t (.tup _) => some (.inl "tuple") | .t (.pr _) => some (.inl "tuple") | .t (.lst _) => some (.inl "list") | .t (.scr _) => some (.inl "list")
 | .t (.dic _ _) => some (.inl "dict") | .t (.ins c _ _) => some (.inr c)
 | .t (.ty _) => none | .t (.cls _) => none | .t (.dit _ _) => none | .t (.exc _ _ _) => none
 | .r i => match hp[i]? with
  | some (some (.lst _)) => some (.inl "list")
  | some (some (.dic _)) => some (.inl "dict")
  | some (some (.ins c _)) => some (.inr c)
  | _ => none
def clC : T → Option CT
 | .ty n => some (.inl n) | .cls c => some (.inr c) | _ => none
def clCs : List T → Option (List CT)
 | [] => some []
 | x :: r => match clC x, clCs r with
  | some a, some b => some (a :: b)
  | _, _ => none
/-- the value of a class -/
def CVal (K : PySem.W.Frag) : CT → Value → Prop
 | .inl n, v => v = .type n
 | .inr c, v => ∃ C, v = .ref C ∧ CN K c C
/-- what isinstance asks of an own class -/
structure InsC (K : PySem.W.Frag) (C : Addr) : Prop where
 cl : Cls K C
 ha : PySem.W.findIn K (.ref C) "__class__" = some (some Y6)
 hn : PySem.W.specialIn K Y6 "__get__" = some Ydb
 htk : PySem.W.takesIn K Y6 = some true
 hm : PySem.W.mroIn K C (.type "object") = some true
structure IsTab (K : PySem.W.Frag) (tab : CT → CT → Option Bool) : Prop where
 ok : ∀ t c b tv cv, tab t c = some b → CVal K t tv → CVal K c cv → PySem.W.kitOne K tv cv = some b
 ins : ∀ c d b C, tab (.inr c) d = some b → CN K c C → InsC K C
def anyC (tab : CT → CT → Option Bool) (t : CT) : List CT → Option Bool
 | [] => some false
 | c :: r => match tab t c with
  | some true => some true
  | some false => anyC tab t r
  | none => none
def oIsi (tab : CT → CT → Option Bool) : OpN := fun ws hp => match ws with
 | [x, .t (.tup cs)] => (match tyC hp x, clCs cs with
  | some t, some ds => (match ds with
   | [] => .bad
   | _ :: _ => (match anyC tab t ds with
    | some b => .ok Yc0 hp
    | none => .bad))
  | _, _ => .bad)
 | [x, .t c] => (match tyC hp x, clC c with
  | some t, some d => (match tab t d with
   | some b => .ok Yc0 hp
   | none => .bad)
  | _, _ => .bad)
 | _ => .bad
section
variable {K : PySem.W.Frag} {ω : World} {s : S4}
/-- the type of such a value; own classes by the table -/
theorem ty_at (R : Rel K ω s) {w : W} {v : V} {t : CT} (h : tyC s.hp w = some t) (r : Rw K s w v) (hI : ∀ c C, t = .inr c → CN K c C → InsC K C) : ∃ tv, CVal K t tv ∧ TyX K s.H v tv := by
 cases w with
 | t x =>
  cases x with
  | non => simp only [tyC, Option.some.injEq] at h; subst h; simp only [Rw, Rf] at r; subst r; exact ⟨_, rfl, .base .non⟩
  | bl b => simp only [tyC, Option.some.injEq] at h; subst h; simp only [Rw, Rf] at r; subst r; exact ⟨_, rfl, .base (.bl b)⟩
  | int b => simp only [tyC, Option.some.injEq] at h; subst h; simp only [Rw, Rf] at r; subst r; exact ⟨_, rfl, .base (.int b)⟩
  | str b => simp only [tyC, Option.some.injEq] at h; subst h; simp only [Rw, Rf] at r; subst r; exact ⟨_, rfl, .base (.str b)⟩
  | tup xs =>
   simp only [tyC, Option.some.injEq] at h; subst h; simp only [Rw, Rf] at r
   obtain ⟨a, vs, e, f, _⟩ := r
   subst e
   rcases f with ⟨_, o, h, _⟩ | ⟨o, its, n, h1, h2, _⟩
   ·exact ⟨_, rfl, .fTuple h⟩
   ·exact ⟨_, rfl, .kTuple h1 h2⟩
  | pr xs =>
   simp only [tyC, Option.some.injEq] at h; subst h; simp only [Rw, Rf] at r
   obtain ⟨a, vs, e, ⟨_, f⟩, _⟩ := r
   subst e
   exact ⟨_, rfl, .base (.tup f)⟩
  | lst xs =>
   simp only [tyC, Option.some.injEq] at h; subst h; simp only [Rw, Rf] at r
   obtain ⟨a, vs, e, ⟨_, f⟩, _⟩ := r
   subst e
   exact ⟨_, rfl, .base (.lst f)⟩
  | scr xs =>
   simp only [tyC, Option.some.injEq] at h; subst h; simp only [Rw, Rf] at r
   obtain ⟨a, vs, e, f, _⟩ := r
   subst e
   rcases f with ⟨_, o, h⟩ | ⟨o, its, n, h1, h2, _⟩
   ·exact ⟨_, rfl, .base (.frz h)⟩
   ·exact ⟨_, rfl, .kList h1 h2⟩
  | dic ks xs =>
   simp only [tyC, Option.some.injEq] at h; subst h; simp only [Rw, Rf] at r
   obtain ⟨a, vs, e, ⟨_, o, f⟩, _⟩ := r
   subst e
   exact ⟨_, rfl, .fDict f⟩
  | ins c ns xs =>
   simp only [tyC, Option.some.injEq] at h; subst h; simp only [Rw, Rf] at r
   obtain ⟨a, C, vs, e, cn, ⟨_, dx, f⟩, _⟩ := r
   subst e
   have q := hI c C rfl cn
   exact ⟨_, ⟨C, rfl, cn⟩, .base (.ins f q.cl q.ha q.hn q.htk q.hm)⟩
  | ty n => simp [tyC] at h
  | cls c => simp [tyC] at h
  | dit _ _ => simp [tyC] at h
  | exc _ _ _ => simp [tyC] at h
 | r i =>
  obtain ⟨a, e1, e2⟩ := r
  subst e2
  simp only [tyC] at h
  split at h
  ·rename_i xs q
   obtain ⟨vs, h1, _⟩ := R.cell i _ a q e1
   cases h
   exact ⟨_, rfl, .base (.lst h1)⟩
  ·rename_i xs q
   obtain ⟨vs, h1, _⟩ := R.cell i _ a q e1
   cases h
   exact ⟨_, rfl, .base (.dK h1)⟩
  ·rename_i c fs q
   obtain ⟨C, dx, vs, h1, cn, _⟩ := R.cell i _ a q e1
   cases h
   have q := hI c C rfl cn
   exact ⟨_, ⟨C, rfl, cn⟩, .base (.ins h1 q.cl q.ha q.hn q.htk q.hm)⟩
  ·cases h
theorem cl_at {x : T} {v : V} {d : CT} (h : clC x = some d) (r : Rf K s.fz s.H x v) : ∃ cv, CVal K d cv ∧ ClsV v cv := by
 cases x with
 | ty n => simp only [clC, Option.some.injEq] at h; subst h; simp only [Rf] at r; subst r; exact ⟨_, rfl, .ty n⟩
 | cls c => simp only [clC, Option.some.injEq] at h; subst h; simp only [Rf] at r; obtain ⟨C, e, cn⟩ := r; subst e; exact ⟨_, ⟨C, rfl, cn⟩, .own C⟩
 | _ => simp [clC] at h
end
/-- isinstance(x, (c, ..)), the tuple frozen -/
def rIsiF (K : PySem.W.Frag) : List V → Hp → VK → Prop := fun xs H Q => ∃ (x : V) (tp : Addr) (o : Obj) (cs : List V) (t : Value) (us : List Value) (b : Bool), xs = [x, .ref tp] ∧ H tp = some (.frz o (.tup cs)) ∧ Paired ClsV cs us ∧ TyX K H x t ∧ PySem.W.kitAny K t us = some b ∧ Q (.bl b) H
theorem call_isiF {X : Cx} : CallR X Ye3 (rIsiF X.K) := by
 intro pins s σ H xs us Q I r h
 obtain ⟨x, tp, o, cs, t, ws, b, rfl, hT, k, ty, e, q⟩ := h
 obtain ⟨u1, u2, rfl, r1, r2⟩ := vals2 r
 cases (show u2 = Value.ref tp from r2)
 obtain ⟨P, Z, p, hx⟩ := kit_of I r1 ty
 obtain ⟨_, _, its, rv, o1, h1, h2, n, h3⟩ := (show ObjOk X.prog X.w H s.heap tp (.frz o (.tup cs)) from I.hok tp _ hT)
 have e3 := ClsV.all k rv
 subst e3
 obtain ⟨oc, od, dt, sl⟩ := o1
 simp only at h2 h3
 subst h2 h3
 exact PySem.W.kia_tup Z I.kIn p h1 e hx fun tk => ⟨.bl b, H, I.tok tk, rfl, q⟩
def rIsiA (K : PySem.W.Frag) : List V → Hp → VK → Prop := fun xs H Q => rIsi K xs H Q ∨ (rIsiF K xs H Q ∨ rIsiK K xs H Q)
theorem call_isiA {X : Cx} : CallR X Ye3 (rIsiA X.K) := CallR.or call_isi (CallR.or call_isiF call_isiK)
section
variable {K : PySem.W.Frag} {ω : World} {s : S4} {Wx : WX} {tab : CT → CT → Option Bool}
theorem cls_at : ∀ {xs : List T} {vs : List V} {ds : List CT}, clCs xs = some ds → RfL K s.fz s.H xs vs → ∃ us : List Value, Paired ClsV vs us ∧ Paired (CVal K) ds us
 | [], vs, ds, h, r => by
  simp only [RfL] at r
  simp only [clCs, Option.some.injEq] at h
  subst r h
  exact ⟨[], .nil, .nil⟩
 | x :: xs, vs, ds, h, r => by
  simp only [RfL] at r
  obtain ⟨v, t, e, a, b⟩ := r
  subst e
  simp only [clCs] at h
  split at h
  ·rename_i d ds' h1 h2
   cases h
   obtain ⟨cv, c1, c2⟩ := cl_at h1 a
   obtain ⟨us, p1, p2⟩ := cls_at h2 b
   exact ⟨cv :: us, .cons c2 p1, .cons c1 p2⟩
  ·cases h
theorem any_at (h : IsTab K tab) {t : CT} {tv : Value} (ht : CVal K t tv) : ∀ {ds : List CT} {us : List Value} {b : Bool}, anyC tab t ds = some b → Paired (CVal K) ds us → PySem.W.kitAny K tv us = some b
 | [], us, b, e, p => by
  cases p
  simp only [anyC, Option.some.injEq] at e
  subst e
  rfl
 | c :: r, us, b, e, p => by
  cases p with
  | cons q p =>
   simp only [anyC] at e
   unfold PySem.W.kitAny
   split at e
   ·rename_i h1
    rw [h.ok _ _ _ _ _ h1 ht q]
    exact e
   ·rename_i h1
    rw [h.ok _ _ _ _ _ h1 ht q]
    exact any_at h ht e p
   ·cases e
theorem any_some {t : CT} : ∀ {d : CT} {ds : List CT} {b : Bool}, anyC tab t (d :: ds) = some b → ∃ b', tab t d = some b'
 | d, ds, b, e => by
  simp only [anyC] at e
  split at e
  ·exact ⟨_, by assumption⟩
  ·exact ⟨_, by assumption⟩
  ·cases e
theorem ok_isi (ht : IsTab K tab) : OpNOk K ω Wx (oIsi tab) (rIsiA K) := by
 intro s ws xs Q R r go
 unfold oIsi at go
 split at go
 ·rename_i x cs
  obtain ⟨v, c, e, rv, rc⟩ := RwL.two r
  subst e
  split at go
  ·rename_i t ds h1 h2
   split at go
   ·exact go.elim
   ·rename_i d ds
    split at go
    ·rename_i b hb
     have q := go (.bl b) s rfl Ye R (by simp only [Rw, Rf])
     obtain ⟨b', hb'⟩ := any_some hb
     obtain ⟨tv, c1, ty⟩ := ty_at R h1 rv (fun c C e cn => ht.ins c d b' C (by rw [← e]; exact hb') cn)
     simp only [Rw, Rf] at rc
     obtain ⟨a, vs, e, f, l⟩ := rc
     subst e
     obtain ⟨us, p1, p2⟩ := cls_at h2 l
     have ka := any_at ht c1 hb p2
     rcases f with ⟨_, o, hH, _⟩ | ⟨o, its, n, k1, k2, _, k3, _, k4⟩
     ·exact .inr (.inl ⟨v, a, o, vs, tv, us, b, rfl, hH, p1, ty, ka, q⟩)
     ·refine .inr (.inr ⟨v, a, o.dict, us, n, o.slots, tv, b, rfl, ?_, ty, ka, q⟩)
      have e3 := ClsV.all p1 k4
      obtain ⟨oc, od, dt, sl⟩ := o
      simp only at k2 k3
      subst k2 k3
      rw [k1, ← e3]
    ·exact go.elim
  ·exact go.elim
 ·rename_i x c hne
  obtain ⟨v, c', e, rv, rc⟩ := RwL.two r
  subst e
  split at go
  ·rename_i t d h1 h2
   split at go
   ·rename_i b hb
    have q := go (.bl b) s rfl Ye R (by simp only [Rw, Rf])
    obtain ⟨tv, c1, ty⟩ := ty_at R h1 rv (fun c C e cn => ht.ins c d b C (by rw [← e]; exact hb) cn)
    obtain ⟨cv, c2, c3⟩ := cl_at h2 (by simpa only [Rw] using rc)
    exact .inl ⟨v, c', tv, cv, b, rfl, c3, ty, ht.ok _ _ _ _ _ hb c1 c2, q⟩
   ·exact go.elim
  ·exact go.elim
 ·exact go.elim
end
end Mir
namespace Mir
open PySem PySem.Spec L2
open PyProof.Rows hiding St
def mSM (f : OpM) (Fo Fe : M W) : M W := fun eta hp => (Fo eta hp).bind fun w h1 => match w with
 | .t (.str a) => (Fe eta h1).bind fun u h2 => f Yea [u] h2
 | _ => .bad
def oSplit : OpM := fun w ws hp => match w, ws with
 | .t (.str a), [.t (.str b)] => if (b.length == 0) = false ∧ a.length + 2 ≤ 16777216 then .ok (.t (.lst ((Txt.split a b).map T.str))) hp else .bad
 | _, _ => .bad
section
variable {K : PySem.W.Frag} {ω : World} {s : S4} {Wx : WX}
theorem ok_split : OpMOk K ω Wx oSplit (fun x xs H Q => ∃ a b, x = .str a ∧ xs = [.str b] ∧ (b.length == 0) = false ∧ a.length + 2 ≤ sizeLine ∧ rNewStrs (Txt.split a b) H Q) := by
 intro s w ws x xs Q R r rs go
 unfold oSplit at go
 split at go
 ·rename_i a b
  split at go
  ·rename_i hh
   simp only [Rw, Rf] at r
   obtain ⟨v, e, rv⟩ := RwL.one rs
   simp only [Rw, Rf] at rv
   subst r rv e
   exact ⟨a, b, rfl, rfl, hh.1, by rw [sizeLine_eq]; exact hh.2, fun p hp => go (.ref p) (s.addF p (.lst ((Txt.split a b).map V.str))) rfl (za4 R hp) (zbi R hp) (zci R hp (strs_rf _))⟩
  ·exact go.elim
 ·exact go.elim
end
section
variable {X : Cx} {Wx : WX} {o e : Expr} {Fo Fe : M W} {name : Str} {apos cpos : Pos} {id : String} {f : OpM} {r : V → List V → Hp → VK → Prop}
theorem ie_sm (slot : Slot "str" name id) (hty : typeOf (.builtin id) = pure (.type "method_descriptor")) (hm : MtR X id r) (hf : OpMOk X.K X.w Wx f r) (ho : IE X Wx o Fo) (he : IE X Wx e Fe)
  (hs : starEach [e] X.env = [(false, eval e X.env)] := by rfl) (hbase : attributeBase o name X.env Ydo = eval o X.env := by rfl) (hline : (apos.endLine == cpos.line) = true := by rfl) :
  IE X Wx (.Call (.Attribute o name apos) [e] [] cpos) (mSM f Fo Fe) :=
 PE.imp (pe_m1 slot hty hm ho he hs hbase hline) fun σ H Q h =>
  tM.bind1 (R := fun (x : V) (H1 : Hp) => (∃ a, x = .str a) ∧ tE X.K X.w Wx Fe σ H1 fun y H2 => r x [y] H2 Q) (k := fun (w : W) eta h1 => match w with | .t (.str a) => ((Fe eta h1).bind fun u h2 => f Yea [u] h2 : Res W) | _ => .bad) h fun s eta a b R1 S1 f1 g => by
   split at g
   ·rename_i a
    refine ⟨⟨a, by simpa only [Rw, Rf] using f1⟩, s, eta, rfl, R1, S1, Go.bind g fun u y s' A' R' r' _ g' => hf s' Yea [u] b [y] Q R' (f1.aft A' R1) ⟨y, [], rfl, r', rfl⟩ g'⟩
   ·exact g.elim
theorem ie_split (ho : IE X Wx o Fo) (he : IE X Wx e Fe) (hs : starEach [e] X.env = [(false, eval e X.env)] := by rfl) (hbase : attributeBase o "split" X.env Ydo = eval o X.env := by rfl) (hline : (apos.endLine == cpos.line) = true := by rfl) :
  IE X Wx (.Call (.Attribute o "split" apos) [e] [] cpos) (mSM oSplit Fo Fe) := ie_sm F.slot_str_split F.type_str_split mt_split ok_split ho he hs hbase hline
end
def inS (neg : Bool) : Op2 := fun a b hp => match a, b with
 | .t (.str i), .t (.str j) => (match i.cps.toList with
  | [c] => .ok (.t (.bl (if neg then !decide (c ∈ j.cps.toList) else decide (c ∈ j.cps.toList)))) hp
  | _ => .bad)
 | _, _ => .bad
section
variable {X : Cx} {Wx : WX} {a b : Expr} {Fa Fb : M W} {pos : Pos}
theorem ok_inS {K : PySem.W.Frag} {ω : World} : zcd K ω Wx (inS false) (fun x y H Q => ∃ (c : Nat) (z : Str), x = .str ⟨#[c]⟩ ∧ y = .str z ∧ Q (.bl (decide (c ∈ z.cps.toList))) H) := by
 intro s a b x y Q R ra rb go
 unfold inS at go
 split at go
 ·rename_i i j
  split at go
  ·rename_i c hc
   simp only [Rw, Rf] at ra rb
   subst ra rb
   have ei : i = ⟨#[c]⟩ := Str.ext' (Array.toList_inj.mp (by rw [hc]))
   subst ei
   exact ⟨c, j, rfl, rfl, go _ s rfl Ye R Yf⟩
  ·exact go.elim
 ·exact go.elim
theorem ie_inS (ha : IE X Wx a Fa) (hb : IE X Wx b Fb) (hm : behindInMarks .In b = false := by rfl) : IE X Wx (.Compare a [.In] [b] pos) (mBin (inS false) Fa Fb) := ie_cmp op_in_sign ok_inS ha hb hm
end
end Mir
namespace Mir
open PySem PySem.Spec L2
open PyProof.Rows hiding St
section
variable {prog : Program} {w : World} {A : Around} {E : Value → Shared → Prop} {s : Shared}
/-- the loop: Ph i holds of the heap behind i elements -/
theorem addAll {R : Result → Shared → Prop} {I S l : Addr} {items : Array Value} (hh : A.in1.handled = none) (nl : l ≠ I) (nS : S ≠ I) (nSl : S ≠ l) (Ph : Nat → Heap → Prop)
  (stay : ∀ i h h', Ph i h → (∀ b o, b ≠ I → h.get? b = some o → h'.get? b = some o) → Ph i h')
  (step : ∀ (i : Nat) (v : Value) (s1 : Shared) (Q : Bool → Shared → Prop) (E1 : Value → Shared → Prop), items[i]? = some v → Ph i s1.heap → (∀ b h' tk, Heap.SameBut S s1.heap h' → s1.toks ≤ tk → Ph (i + 1) h' → Q b { s1 with heap := h', toks := tk }) → wpAny (model prog w) A.in1 (setAdd S v) Q E1 s1) :
  ∀ (k i : Nat) (s0 : Shared), items.size - i = k → i ≤ items.size → (s0.heap.IsListIter I l i ∧ s0.heap.IsList l items) → Ph i s0.heap →
   (∀ s' : Shared, Moved [S, I] (fun a b => b = a) s0 s' → Ph items.size s'.heap → R (.ok (.ret .none)) s') →
   codeAny (model prog w) A (.builtin "set.update.loop" ⟨[.ref S, .ref I], []⟩) R s0 := by
 have W := (Walks.list (prog := prog) (w := w) hh I l nl items).toS
 have wide : ∀ {a b : Shared}, Moved [I] (fun x y => y = x) a b → Moved [S, I] (fun x y => y = x) a b := fun m => ⟨fun b o hb q => m.heap b o (fun z => hb (List.mem_cons_of_mem _ z)) q, m.gens, m.drawn, m.os, m.toks⟩
 intro k
 induction k with
 | zero =>
  intro i s0 hk hi st ph hR
  obtain rfl : i = items.size := by omega
  refine codeAny_builtin F.entry_set_update_loop ?_
  rw [Around.under_plainId F.plain_set_update_loop _]
  refine wpAny_bind (W.done s0 _ _ st fun s' hm => wpAny_pure (hR s' (wide hm) (stay _ _ _ ph fun b o hb q => hm.heap b o (by simpa using hb) q)))
 | succ k ih =>
  intro i s0 hk hi st ph hR
  have hlt : i < items.size := by omega
  refine codeAny_builtin F.entry_set_update_loop ?_
  rw [Around.under_plainId F.plain_set_update_loop _]
  refine wpAny_bind (W.item i s0 _ _ hlt st fun v s1 hv st1 hm => ?_)
  have ph1 : Ph i s1.heap := stay _ _ _ ph fun b o hb q => hm.heap b o (by simpa using hb) q
  refine wpAny_bind (wpAny_holding (step i v s1 _ _ hv ph1 fun b h' tk sb ht ph2 => ?_))
  have kp : ∀ b o, b ≠ S → s1.heap.get? b = some o → h'.get? b = some o := fun b o hb q => (sb.2 b hb).trans q
  refine wpAny_pure ⟨plainId_quiet F.plain_set_update_loop _, ih (i + 1) _ Yc hlt (W.frame _ s1 _ _ st1 ht fun b hb o q => kp b o (fun z => ?_) q) ph2 fun s2 hm2 ph3 => hR s2 ⟨fun b o hb q => ?_, ?_, ?_, ?_, ?_⟩ ph3⟩
  ·subst z
   simp only [List.mem_cons, List.not_mem_nil, or_false] at hb
   rcases hb with z | z
   ·exact nS z
   ·exact nSl z
  ·have h1 := (wide hm).heap b o hb q
   exact hm2.heap b o hb (kp b o (fun z => hb (by simp [z])) h1)
  ·exact hm2.gens.trans hm.gens
  ·exact hm2.drawn.trans hm.drawn
  ·exact hm2.os.trans hm.os
  ·exact Nat.le_trans (Nat.le_trans hm.toks ht) hm2.toks
/-- an empty set -/
abbrev zb7 (led : Bool) : Obj := { cls := .type "set", dict := none, data := .set #[] 0 (.fresh 0 0 led) }
/-- set(l) -/
theorem call_setL {l : Addr} {items : Array Value} {Q : Value → Shared → Prop} (hh : A.handled = none) (hl : s.heap.IsList l items) (Ph : Nat → Heap → Prop)
  (base : ∀ led h, h.get? s.heap.objs.size = some (zb7 led) → (∀ b o, s.heap.get? b = some o → h.get? b = some o) → Ph 0 h)
  (stay : ∀ i h h', Ph i h → (∀ b o, b ≠ s.heap.objs.size + 1 → h.get? b = some o → h'.get? b = some o) → Ph i h')
  (step : ∀ (A' : Around) (i : Nat) (v : Value) (s1 : Shared) (Q : Bool → Shared → Prop) (E1 : Value → Shared → Prop), A'.handled = none → A'.units ≤ A.units + 8 → items[i]? = some v → Ph i s1.heap → (∀ b h' tk, Heap.SameBut s.heap.objs.size s1.heap h' → s1.toks ≤ tk → Ph (i + 1) h' → Q b { s1 with heap := h', toks := tk }) → wpAny (model prog w) A' (setAdd s.heap.objs.size v) Q E1 s1)
  (hq : ∀ h' tk, Ph items.size h' → (∀ b o, s.heap.get? b = some o → h'.get? b = some o) → Q (.ref s.heap.objs.size) { s with heap := h', toks := tk }) :
  wpAny (model prog w) A (call (.type "set") [.ref l]) Q E s := by
 have TC := PySem.F.called_set
 obtain ⟨c, tl, hmro⟩ := TC.mro
 have hmade := TC.made
 have hsub := TC.sub
 have hnt := TC.notType
 have hcc := TC.canCreate
 have hct := PySem.F.typeCall_set_1 (.ref l)
 refine wpAny_call (codeAny_of_tree (wpAny_pure ⟨Code.quiet_builtin _ Ym, codeAny_builtin PySem.F.entry_type_call ?_⟩))
 rw [Around.under_plain (weight_type_call_type "set" [.ref l] []) rfl]
 repeat (any_goals (first | assumption | wp_step))
 refine codeAny_mono (code_set_new_1 (.ref l) (E := E) (Q₁ := fun obj s₁ => ∃ led : Bool, obj = .ref s.heap.objs.size ∧ s₁ = { s with heap := s.heap.push (zb7 led) }) fun led => ⟨led, rfl, rfl⟩) fun r s₁ hr => ?_
 rcases r with e | fl
 ·exact hr
 cases fl with
 | ret obj =>
  obtain ⟨led, rfl, rfl⟩ := hr
  have gS : (s.heap.push (zb7 led)).get? s.heap.objs.size = some (zb7 led) := Heap.get?_push_size _ rfl
  have tS : Shared.TypeIs { s with heap := s.heap.push (zb7 led) } (.ref s.heap.objs.size) "set" := ⟨_, gS, rfl⟩
  have hli := TC.init.lookup
  have hbi := TC.init.bind (.ref s.heap.objs.size)
  have lS : l < s.heap.objs.size := let ⟨_, q, _⟩ := hl; Heap.lt_size q
  have zS : (s.heap.push (zb7 led)).objs.size = s.heap.objs.size + 1 := Heap.size_push ..
  repeat (any_goals (first | assumption | wp_step))
  refine codeAny_mono (codeAny_call_builtin (R := wants (fun r s₂ => r = .none ∧ ∃ h' tk, s₂ = { s with heap := h', toks := tk } ∧ Ph items.size h' ∧ ∀ b o, s.heap.get? b = some o → h'.get? b = some o) E) TC.init.plain PySem.F.entry_set_init (check_set_init_1 tS ?_)) fun r₂ s₂ hr₂ => ?_
  ·have hl1 : (s.heap.push (zb7 led)).IsList l items := hl.push _
   obtain ⟨ol, hol, hcl, nl, hdl⟩ := id hl1
   have t1 : Shared.TypeIs { s with heap := s.heap.push (zb7 led) } (.ref l) "list" := ⟨ol, hol, hcl⟩
   have hsls := PySem.F.sub_list_set
   have hslf := PySem.F.sub_list_frozenset
   have hne : (Value.type "list" == Value.type "dict") = false := by decide
   obtain ⟨ocls, odict, odata, oslots⟩ := ol
   simp only at hcl hdl
   subst hcl hdl
   unfold Builtin.«set.__init__» noKeywords Builtin.Frozenset.updateFrom
   generalize hPI : pyIter = PI
   wp_walk
   subst hPI
   refine wpAny_pyIter_list hl1 (wpAny_bind (wpAny_runValue ?_))
   refine addAll (A := A.in1.in1) (S := s.heap.objs.size) (I := (s.heap.push (zb7 led)).objs.size) (l := l) (items := items) (by simp [hh]) (by rw [zS]; exact Nat.ne_of_lt (Nat.lt_succ_of_lt lS)) (by rw [zS]; exact Nat.ne_of_lt (Nat.lt_succ_self _)) (Nat.ne_of_gt lS) Ph (fun i h h' p k => stay i h h' p fun b o hb q => k b o (by rw [zS]; exact hb) q) (fun i v s1 Q1 E1 hv p k => step _ i v s1 Q1 E1 (by simp [hh]) (by simp only [Around.in1_units]; omega) hv p k) _ 0 _ rfl (Nat.zero_le _) ?_ ?_ ?_
   ·exact ⟨⟨_, Heap.get?_push_size _ rfl, rfl, rfl⟩, hl1.push _⟩
   ·exact base led _ (Heap.get?_push_of_some _ gS) fun b o q => Heap.get?_push_of_some _ (Heap.get?_push_of_some _ q)
   ·intro s' hm ph
    obtain ⟨h', g', d', tk', os'⟩ := s'
    obtain rfl : g' = s.gens := hm.gens
    obtain rfl : d' = s.drawn := hm.drawn
    obtain rfl : os' = s.os := hm.os
    show wpAny _ _ _ _ _ _
    refine wpAny_pure ?_
    show wpAny _ _ (ret Value.none) _ _ _
    refine wpAny_pure ⟨rfl, h', tk', rfl, ph, fun b o q => ?_⟩
    have hb := Heap.lt_size q
    refine hm.heap b o (fun z => ?_) (Heap.get?_push_of_some _ (Heap.get?_push_of_some _ q))
    simp only [List.mem_cons, List.not_mem_nil, or_false, zS] at z
    rcases z with z | z
    ·rw [z] at hb; exact Nat.lt_irrefl _ hb
    ·rw [z] at hb; exact Nat.lt_irrefl _ (Nat.lt_trans (Nat.lt_succ_self _) hb)
  ·rcases r₂ with e | fl₂
   ·exact hr₂
   cases fl₂ with
   | ret r =>
    obtain ⟨rfl, h', tk, rfl, ph, k⟩ := hr₂
    repeat (any_goals (first | assumption | wp_step))
    exact hq h' tk ph k
   | _ => exact hr₂.elim
 | _ => exact hr.elim
end
def memK (k : Key) (l : List Key) : Bool := l.any fun j => decide (k = j)
def addK (acc : List Key) (k : Key) : List Key := if memK k acc = true then acc else acc ++ [k]
/-- each once, where it first comes -/
def zb4 (ks : List Key) : List Key := ks.foldl addK []
theorem addK_mem {acc : List Key} {k j : Key} : memK j (addK acc k) = (memK j acc || decide (j = k)) := by
 unfold addK
 split
 ·rename_i h
  by_cases e : j = k
  ·subst e
   rw [h, Bool.true_or]
  ·simp [e]
 ·simp [memK]
theorem addK_len {acc : List Key} {k : Key} : (addK acc k).length = if memK k acc = true then acc.length else acc.length + 1 := by
 unfold addK
 split <;> simp
theorem onceK_snoc (ks : List Key) (k : Key) : zb4 (ks ++ [k]) = addK (zb4 ks) k := by simp [zb4, List.foldl_append]
theorem onceK_le : ∀ (ks acc : List Key), (ks.foldl addK acc).length ≤ acc.length + ks.length
 | [], acc => by simp
 | k :: r, acc => by
  have h := onceK_le r (addK acc k)
  have h2 : (addK acc k).length ≤ acc.length + 1 := by rw [addK_len]; split <;> omega
  simp only [List.foldl_cons, List.length_cons]
  omega
section
variable {X : Cx}
/-- the set behind the first i -/
def PhK (P : Program) (w : World) (S : Addr) (ks : List Key) (i : Nat) (h : Heap) : Prop := h.SetOf (mixKind P w) S (fun k => memK k (zb4 (ks.take i))) (zb4 (ks.take i)).length
def tLenSetK (K : PySem.W.Frag) (ta : TE) : TE := fun σ H Q => ta σ H fun x H1 => ∃ (l : Addr) (ks : List Key), x = .ref l ∧ SqL K H1 l (ks.map kV) ∧ ks.length ≤ 4000 ∧ Q (.int Yb3) H1
theorem pe_lenSetK {a : Expr} {ta : TE} {p p2 q pos : Pos} (hc : X.calm = true) (hg : Gl X "len") (hm : X.mg "len" = none) (hg2 : Gl X "set") (hm2 : X.mg "set" = none) (ha : PE X a ta)
  (na : starEach [a] X.env = (false, eval a X.env) :: starEach [] X.env := by rfl) : PE X Yew (tLenSetK X.K ta) := ⟨fun pins s σ H Q I h => by
 refine Call_ (ld_blt I hg hm boot_len (callWith_builtin1 (args_cons (Call_ (ld_blt I hg2 hm2 boot_set (callWith_type1 (args_cons (thn (ha.run pins s σ H _ I h) ?_) na) na rfl))) rfl) rfl rfl))
 rintro v s1 ⟨x, H1, I1, r1, l, ks, rfl, hq, hz, q1⟩
 cases r1
 obtain ⟨its, rv, pl, _⟩ := I1.list hq
 have hn : its.length = ks.length := by rw [← rv.length, List.length_map]
 refine args_nil (call_setL (items := its.toArray) (I1.ok.hd hc) pl.isList (PhK X.prog X.w s1.heap.objs.size ks) ?_ ?_ ?_ ?_)
 ·intro led h g k
  refine ⟨_, #[], 0, _, g, ⟨rfl, rfl, rfl⟩, rfl, (fun e he => by simp at he), (fun k => by simp [zb4, memK]), by simp [scanBound], rfl, ?_⟩
  simp [zb4]
 ·rintro i h h' ⟨o, es, ep, t, ho, r⟩ k
  exact ⟨o, es, ep, t, k _ _ (Nat.ne_of_lt (Nat.lt_succ_self _)) ho, r⟩
 ·intro A' i v s2 Q2 E2 hA _ hv ph k
  have hi : i < ks.length := by
   have := (Array.getElem?_eq_some_iff.mp hv).1
   simpa [hn] using this
  have hk : ks.take (i + 1) = ks.take i ++ [ks[i]] := by rw [List.take_succ_eq_append_getElem hi]
  have rv2 : RelV (kV ks[i]) v := by
   obtain ⟨u, e1, e2⟩ := Vals.get rv (i := i) (x := kV ks[i]) (by rw [List.getElem?_map, List.getElem?_eq_getElem hi]; rfl)
   have e3 : its[i]? = some v := by simpa using hv
   rw [e3] at e1
   cases e1
   exact e2
  unfold setAdd
  refine wpAny_holding (wpAny_bind ((mixKind X.prog X.w).pyHash (k := ks[i]) (kV_is rv2) ?_))
  have hroom : (zb4 (ks.take i)).length + 1 < scanBound := by
   have := onceK_le (ks.take i) []
   have e : (ks.take i).length ≤ ks.length := by rw [List.length_take]; omega
   simp only [List.length_nil, scanBound] at *
   unfold zb4
   omega
  refine wpAny_setAddHashed_of (knd := mixKind X.prog X.w) (s := { s2 with toks := s2.toks + 1 }) (kV_is rv2) (key_scan rv2) ph hroom fun h' sb hS => ?_
  refine k _ h' _ sb (Nat.le_succ _) ?_
  have e1 : (fun j => memK j (zb4 (ks.take i)) || decide (j = ks[i])) = fun j => memK j (zb4 (ks.take (i + 1))) := funext fun j => by rw [hk, onceK_snoc, addK_mem]
  have e2 : (if memK ks[i] (zb4 (ks.take i)) = true then (zb4 (ks.take i)).length else (zb4 (ks.take i)).length + 1) = (zb4 (ks.take (i + 1))).length := by rw [hk, onceK_snoc, addK_len]
  rw [e1, e2] at hS
  exact hS
 ·intro h' tk ph k
  have I2 : Inv X pins σ H1 { s1 with heap := h', toks := tk } := I1.kept k
  obtain ⟨o, es, ep, t, ho, hex, hd, _, _, hb, hf, hn2⟩ := ph
  rw [List.take_of_length_le (by simp [hn])] at hn2
  exact args_nil (call_len_set ho hex hd hf (by have : es.size < 4096 := hb; omega) ⟨.int Yb3, H1, I2.tok _, ⟨_, by rw [hn2]⟩, q1⟩)⟩
end
/-- texts and ints as keys -/
def keysOf : List W → Option (List Key)
 | [] => some []
 | .t (.str x) :: r => (keysOf r).map (Sum.inr x :: ·)
 | .t (.int x) :: r => (keysOf r).map (Sum.inl x :: ·)
 | _ => none
def mLenSet (F : M W) : M W := fun eta hp => (F eta hp).bind fun w h => match (zcr h w).bind keysOf with
 | some ks => if ks.length ≤ 4000 then .ok (.t (.int Yb3)) h else .bad
 | none => .bad
section
variable {X : Cx} {Wx : WX} {a : Expr} {F : M W} {p p2 q pos : Pos}
theorem keys_rw {K : PySem.W.Frag} {s : S4} : ∀ {ws : List W} {vs : List V} {ks : List Key}, keysOf ws = some ks → RwL K s ws vs → vs = ks.map kV := by
 intro ws
 induction ws with
 | nil =>
  intro vs ks h r
  simp only [keysOf, Option.some.injEq] at h
  subst h
  exact r
 | cons w ws ih =>
  intro vs ks h r
  obtain ⟨v, t, e, a, b⟩ := r
  unfold keysOf at h
  split at h
  ·rename_i e2
   cases e2
  ·rename_i x r' e2
   cases e2
   obtain ⟨zs, h1, h2⟩ := Option.map_eq_some_iff.mp h
   simp only [Rw, Rf] at a
   rw [← h2, e, a, ih h1 b]
   rfl
  ·rename_i x r' e2
   cases e2
   obtain ⟨zs, h1, h2⟩ := Option.map_eq_some_iff.mp h
   simp only [Rw, Rf] at a
   rw [← h2, e, a, ih h1 b]
   rfl
  ·cases h
theorem ie_lenSet (hc : X.calm = true) (hm : X.mg "len" = none) (hm2 : X.mg "set" = none) (ha : IE X Wx a F) (hg : Gl X "len" := by rfl) (hg2 : Gl X "set" := by rfl)
  (na : starEach [a] X.env = (false, eval a X.env) :: starEach [] X.env := by rfl) : IE X Wx Yew (mLenSet F) :=
 PE.imp (pe_lenSetK hc hg hm hg2 hm2 ha na) fun σ H Q h =>
  tM.bind1 (R := fun (x : V) (H1 : Hp) => ∃ (l : Addr) (ks : List Key), x = .ref l ∧ SqL X.K H1 l (ks.map kV) ∧ ks.length ≤ 4000 ∧ Q (.int Yb3) H1)
   (k := fun (w : W) _ h => match (zcr h w).bind keysOf with | some ks => (if ks.length ≤ 4000 then .ok (.t (.int Yb3)) h else .bad : Res W) | none => .bad) h fun s eta w v R1 S1 f1 g => by
   split at g
   ·rename_i ks hk
    split at g
    ·rename_i hz
     obtain ⟨ws, h1, h2⟩ := Option.bind_eq_some_iff.mp hk
     obtain ⟨l, xs, e, sq, rl⟩ := litems_sq R1 h1 f1
     subst e
     have ev := keys_rw h2 rl
     subst ev
     exact ⟨l, ks, rfl, sq, hz, g _ s rfl Ye R1 Yf⟩
    ·exact g.elim
   ·exact g.elim
end
section
variable {X : Cx} {Wx : WX} {x : Str} {pos : Pos}
theorem ie_globS {v : Str} {t : Tok} (hm : X.mg x = some (.str v t)) (hg : Gl X x := by rfl) (hd : (x == ("__debug__" : Str)) = false := by decide) : IE X Wx Yex (mC (.str v)) :=
 ie_glob hg hm (v := .str v) ⟨_, rfl⟩ (fun s => by simp [Rw, Rf]) hd
/-- a tuple of texts -/
theorem ie_globT {a : Addr} {o : Obj} {us : List Value} {vs : List Str} {n : Nat} (hm : X.mg x = some (.ref a)) (hl : X.K.lookup a = some o) (hc : o.cls = .type "tuple") (hdn : o.dict = none) (hd : o.data = .seq us.toArray n) (hr : Vals (vs.map V.str) us) (hz : us.length ≤ 1000) (hg : Gl X x := by rfl) (hdb : (x == ("__debug__" : Str)) = false := by decide) : IE X Wx Yex (mC (.tup (vs.map T.str))) :=
 ie_glob hg hm (v := .ref a) rfl (fun s => by
  simp only [Rw, Rf]
  exact ⟨a, vs.map V.str, rfl, .inr ⟨o, us.toArray, n, hl, hc, hdn, hd, by rw [sizeLine_eq, List.size_toArray]; omega, by simpa using hr⟩, strs_rf vs⟩) hdb
/-- an own class -/
theorem ie_cls {c : Str} {C : Addr} (cn : CN X.K c C) (hm : X.mg x = some (.ref C)) (hg : Gl X x := by rfl) (hdb : (x == ("__debug__" : Str)) = false := by decide) : IE X Wx Yex (mC (.cls c)) :=
 ie_glob hg hm (v := .ref C) rfl (fun s => by
  simp only [Rw, Rf]
  exact ⟨C, rfl, cn⟩) hdb
/-- a built-in type -/
theorem ie_ty {n : String} (hm : X.mg x = none) (hb : bootBuiltins x = some (.type n)) (hg : Gl X x := by rfl) (hn : x ≠ "__name__" := by decide) (hdb : (x == ("__debug__" : Str)) = false := by decide) : IE X Wx Yex (mC (.ty n)) := ⟨fun pins s σ H Q I h => by
 refine ld_blt I hg hm hb ⟨.ty n, H, I, rfl, ?_⟩ hn hdb
 obtain ⟨s0, eta, e1, R1, S1, g⟩ := h
 subst e1
 exact g _ s0 rfl (Aft.refl s0) R1 Yf⟩
end
structure ClsF (K : PySem.W.Frag) (mg : Str → Option Value) (c : Str) (C : Addr) : Prop where
 cn : CN K c C
 mg : mg c = some (.ref C)
 cl : Cls K C
structure XF (P : Program) (w : World) (K : PySem.W.Frag) (mg : Str → Option Value) (base : Heap) (c : Str) (C fI : Addr) (fd : FuncData) (ps : List Str) (fld : Str) : Prop where
 T : OexC K C
 iC : PySem.W.findIn K (.ref C) "__init__" = some (some (.ref fI))
 tI : PySem.W.typeIn K (.ref fI) = some Ye1
 cn : CN K c C
 ok : FnOk P w K mg base Yn 1 fI fd ps (spI C fld)
 hot : L2H.FnH P w K mg base Yn 1 fI fd ps (spI C fld)
 mg : mg c = some (.ref C)
 bd : Binds K fd ps []
 em : PySem.W.exmOne K (.ref C) (.ref C) = some true
def hitC (c : Str) : Str → Option Bool := fun x => if x = c then some true else none
section
variable {P : Program} {w : World} {K : PySem.W.Frag} {mg : Str → Option Value} {base : Heap} {c : Str} {C fI : Addr} {fd : FuncData} {ps : List Str} {fld : Str}
theorem XF.hit (x : XF P w K mg base c C fI fd ps fld) : HitOk K (.ref C) (hitC c) := fun c' C' b h n => by
 unfold hitC at h
 split at h
 ·rename_i e
  cases h
  subst e
  cases n.inj x.cn
  exact x.em
 ·cases h
theorem XF.sub (x : XF P w K mg base c C fI fd ps fld) : ∀ (c' : Str) (C' : Addr), hitC c c' = some true → CN K c' C' → PySem.W.subIn K (.ref C') Ye4 = some true := fun c' C' h n => by
 unfold hitC at h
 split at h
 ·rename_i e
  subst e
  cases n.inj x.cn
  exact x.T.exC
 ·cases h
theorem takes_nox {X : Cx} : L2.Takes X.nox W0 := fun u s' x => by
 obtain ⟨_, _, _, _, _, _, _, _, _, _, _, _, _, _, _, _, f⟩ := x
 exact f.elim
end
end Mir
namespace Mir
open PySem PySem.Spec L2
open PyProof.Rows hiding St
end Mir
namespace Mir
open PySem PySem.Spec L2
open PyProof.Rows hiding St
end Mir
namespace Mir
open PySem PySem.Spec L2
open PyProof.Rows hiding St
end Mir
namespace Mir
open PySem PySem.Spec L2
open PyProof.Rows hiding St
section
variable {P : Program} {w : World} {A : Around} {E : Value → Shared → Prop} {s : Shared}
abbrev hK (P : Program) (w : World) (k : List Key) : Int := tupleKeyHash (mixKind P w) k
abbrev IsK (P : Program) (w : World) (h : Heap) (k : List Key) (a : Addr) : Prop := IsTupleKey (mixKind P w) h k a
/-- at a stands the set of the tuples L, with room to spare -/
structure SetM (P : Program) (w : World) (h : Heap) (a : Addr) (L : List (Addr × List Key)) (es : Array (Int × Value)) (ep : Nat) (t : SetTable) : Prop where
 ob : ∃ o, h.get? a = some o ∧ o.ExactSet ∧ o.data = .set es ep t
 rows : es.toList = L.map fun p => (hK P w p.2, Value.ref p.1)
 tab : TabOk t (L.map fun p => hK P w p.2)
 nd : (L.map (·.2)).Nodup
 tup : ∀ p ∈ L, IsK P w h p.2 p.1
 m7 : t.mask = 7
 few : L.length ≤ 4
variable {a : Addr} {L : List (Addr × List Key)} {es : Array (Int × Value)} {ep : Nat} {t : SetTable}
theorem SetM.size (R : SetM P w s.heap a L es ep t) : es.size = L.length := by
 rw [← Array.length_toList, R.rows, List.length_map]
theorem SetM.at_ (R : SetM P w s.heap a L es ep t) {i : Nat} {p : Addr × List Key} (h : L[i]? = some p) : es[i]? = some (hK P w p.2, Value.ref p.1) := by
 rw [← Array.getElem?_toList, R.rows, List.getElem?_map, h]
 rfl
end
end Mir
namespace Mir
open PySem PySem.Spec L2
open PyProof.Rows hiding St
end Mir
namespace Mir
open PySem PySem.Spec L2
open PyProof.Rows hiding St
def slL (a : W) (lo hi : Option Int) (hp : IH) : Res W := match zcr hp a with
 | some ws => .ok Yb9 (hp ++ [some (.lst (cutL ws lo hi))])
 | none => .bad
def mSlL (Fa : M W) (Fl Fh : MO) : M W := fun eta hp => (Fa eta hp).bind fun a h1 => (Fl eta h1).bind fun l h2 => (Fh eta h2).bind fun h h3 => slL a l h h3
end Mir
namespace Mir
open PySem PySem.Spec L2
open PyProof.Rows hiding St
end Mir
namespace Mir
open PySem PySem.Spec L2
open PyProof.Rows hiding St
end Mir
namespace Mir
open PySem PySem.Spec L2
open PyProof.Rows hiding St
/-- the lists that live -/
def LiveL (s : S4) (a : Addr) : Prop := ∃ (i : Nat) (ws : List W), getL s.hp i = some ws ∧ s.rho[i]? = some a
section
variable {K : PySem.W.Frag} {ω : World} {s s2 : S4}
theorem LiveL.live {a : Addr} (h : LiveL s a) : Live s a := by
 obtain ⟨i, ws, g, r⟩ := h
 exact ⟨i, _, ⟨zbj g, True.intro⟩, r⟩
theorem LiveL.H (R : Rel K ω s) {a : Addr} (h : LiveL s a) : ∃ vs, s.H a = some (.lst vs) := by
 obtain ⟨i, ws, g, r⟩ := h
 obtain ⟨vs, e, _⟩ := R.cell i _ a (zbj g) r
 exact ⟨vs, e⟩
theorem Live.some (R : Rel K ω s) {a : Addr} (h : Live s a) : s.H a ≠ none := by
 obtain ⟨i, c, g, r⟩ := h
 exact R.trk a (List.mem_of_getElem? r)
end
end Mir
namespace Mir
open PySem PySem.Spec L2
open PyProof.Rows hiding St
end Mir
namespace Mir
open PySem PySem.Spec L2
open PyProof.Rows hiding St
section
variable {P : Program} {w : World}
/-- the set of the texts ks at a; its table can be walked -/
def SetS (P : Program) (w : World) (h : Heap) (a : Addr) (ks : List Str) : Prop :=
 ks.Nodup ∧ ∃ D : PySem.Froz.SD, h.get? a = some (PySem.Froz.sObj "set" D) ∧ PySem.Froz.TxOk P w D ks ∧ Ris D.2.2.place.toList ∧ (w.params.followText "set-order" = true ∨ D.2.2.led = true)
theorem SetS.at {h h' : Heap} {a : Addr} {ks : List Str} (z : SetS P w h a ks) (k : ∀ o, h.get? a = some o → h'.get? a = some o) : SetS P w h' a ks := by
 obtain ⟨nd, D, g, r⟩ := z
 exact ⟨nd, D, k _ g, r⟩
variable {A : Around} {E : Value → Shared → Prop} {s : Shared}
end
end Mir
namespace Mir
open PySem PySem.Spec L2
open PyProof.Rows hiding St
end Mir
namespace Mir
open PySem PySem.Spec L2
open PyProof.Rows hiding St
end Mir
namespace Mir
open PySem PySem.Spec L2
open PyProof.Rows hiding St
abbrev bare (kvs : List Yc8) : List Yd9 := kvs.map fun p => (Str.empty, p.2)
section
variable {K : PySem.W.Frag} {ω : World}
theorem RwK.bare {s : S4} : ∀ {ks : List (Key × W)} {vs : List (Key × V)}, RwK K s ks vs → RwF K s (bare ks) (vs.map fun p => (Str.empty, p.2))
 | [], _, h => by rw [show _ = [] from h]; rfl
 | x :: ks, vs, h => by
  obtain ⟨v, r, rfl, a, b⟩ := h
  exact ⟨v, _, rfl, a, RwK.bare b⟩
end
end Mir
namespace Mir
open PySem PySem.Spec L2
open PyProof.Rows hiding St
end Mir
namespace Mir
open PySem PySem.Spec L2
open PyProof.Rows hiding St
def getT (hp : IH) (i : Nat) : Option (List (T × W)) := match hp[i]? with
 | some (some (.dit kvs)) => some kvs
 | _ => none
def valT (kvs : List (T × W)) (k : NestedKey) : Option W := (kvs.find? fun kv => decide (nkT kv.1 = some k)).map (·.2)
def putT (kvs : List (T × W)) (t : T) (k : NestedKey) (w : W) : List (T × W) :=
 if (kvs.any fun kv => decide (nkT kv.1 = some k)) = true then kvs.map (fun kv => if nkT kv.1 = some k then (kv.1, w) else kv) else kvs ++ [(t, w)]
theorem getT_eq {hp : IH} {i : Nat} {ws : List (T × W)} (h : getT hp i = some ws) : hp[i]? = some (some (.dit ws)) := by
 unfold getT at h
 split at h
 ·rename_i kvs e
  simp only [Option.some.injEq] at h
  rw [e, h]
 ·cases h
/-- what the entries hold at a key -/
def valN (xs : List Yx) (k : NestedKey) : Option V := (xs.find? fun x => decide (x.1 = k)).map (·.2.2)
def putN (xs : List Yx) (k : NestedKey) (a : Addr) (v : V) : List Yx :=
 if (xs.find? fun x => decide (x.1 = k)).isSome = true then xs.map (fun x => if x.1 = k then (x.1, x.2.1, v) else x) else xs ++ [(k, a, v)]
section
variable {K : PySem.W.Frag} {ω : World} {s : S4}
theorem RwD.length : ∀ {ws : List (T × W)} {vs : List (NestedKey × Addr × V)}, RwD K s ws vs → ws.length = vs.length
 | [], _, r => by rw [show _ = [] from r]; rfl
 | x :: ws, _, r => by
  obtain ⟨k, b, v, r', rfl, _, _, _, _, h⟩ := r
  simp [RwD.length h]
theorem RwD.val (k : NestedKey) : ∀ {ws : List (T × W)} {vs : List (NestedKey × Addr × V)} {w : W}, RwD K s ws vs → valT ws k = some w → ∃ v, valN vs k = some v ∧ Rw K s w v
 | [], _, _, _, h => by simp [valT] at h
 | x :: ws, _, w, r, h => by
  obtain ⟨k', b, v, r', rfl, h1, h2, h3, h4, h5⟩ := r
  by_cases q : k' = k
  ·subst q
   have : x.2 = w := by simpa [valT, List.find?_cons, h1] using h
   exact ⟨v, by simp [valN, List.find?_cons], this ▸ h4⟩
  ·have h' : valT ws k = some w := by simpa [valT, List.find?_cons, h1, q] using h
   obtain ⟨u, e1, e2⟩ := RwD.val k h5 h'
   exact ⟨u, by simpa [valN, List.find?_cons, q] using e1, e2⟩
theorem RwD.no (k : NestedKey) : ∀ {ws : List (T × W)} {vs : List (NestedKey × Addr × V)}, RwD K s ws vs → valT ws k = none → valN vs k = none
 | [], _, r, _ => by rw [show _ = [] from r]; rfl
 | x :: ws, _, r, h => by
  obtain ⟨k', b, v, r', rfl, h1, h2, h3, h4, h5⟩ := r
  by_cases q : k' = k
  ·subst q
   simp [valT, List.find?_cons, h1] at h
  ·have h' : valT ws k = none := by simpa [valT, List.find?_cons, h1, q] using h
   have := RwD.no k h5 h'
   simpa [valN, List.find?_cons, q] using this
theorem RwD.any (k : NestedKey) : ∀ {ws : List (T × W)} {vs : List (NestedKey × Addr × V)}, RwD K s ws vs → (ws.any fun kv => decide (nkT kv.1 = some k)) = (vs.find? fun x => decide (x.1 = k)).isSome
 | [], _, r => by rw [show _ = [] from r]; rfl
 | x :: ws, _, r => by
  obtain ⟨k', b, v, r', rfl, h1, h2, h3, h4, h5⟩ := r
  by_cases q : k' = k
  ·subst q
   simp [h1, List.find?_cons]
  ·simp [h1, List.find?_cons, q, RwD.any k h5]
theorem RwD.mapPut (k : NestedKey) {w : W} {v : V} (rw_ : Rw K s w v) : ∀ {ws : List (T × W)} {vs : List (NestedKey × Addr × V)}, RwD K s ws vs → RwD K s (ws.map fun kv => if nkT kv.1 = some k then (kv.1, w) else kv) (vs.map fun x => if x.1 = k then (x.1, x.2.1, v) else x)
 | [], _, r => by rw [show _ = [] from r]; rfl
 | x :: ws, _, r => by
  obtain ⟨k', b, u, r', rfl, h1, h2, h3, h4, h5⟩ := r
  have ih := RwD.mapPut k rw_ h5
  simp only [List.map_cons, h1, Option.some.injEq]
  by_cases q : k' = k
  ·rw [if_pos q, if_pos q]
   exact ⟨k', b, v, _, rfl, h1, h2, h3, rw_, ih⟩
  ·rw [if_neg q, if_neg q]
   exact ⟨k', b, u, _, rfl, h1, h2, h3, h4, ih⟩
theorem RwD.snoc {t : T} {k : NestedKey} {b : Addr} {w : W} {v : V} (h1 : nkT t = some k) (h2 : k.depth ≤ 8) (h3 : Rf K s.fz s.H t (.ref b)) (h4 : Rw K s w v) : ∀ {ws : List (T × W)} {vs : List (NestedKey × Addr × V)}, RwD K s ws vs → RwD K s (ws ++ [(t, w)]) (vs ++ [(k, b, v)])
 | [], _, r => by
  rw [show _ = [] from r]
  exact ⟨k, b, v, [], rfl, h1, h2, h3, h4, rfl⟩
 | x :: ws, _, r => by
  obtain ⟨k', b', u, r', rfl, g1, g2, g3, g4, g5⟩ := r
  exact ⟨k', b', u, _, rfl, g1, g2, g3, g4, RwD.snoc h1 h2 h3 h4 g5⟩
theorem RwD.put {t : T} {k : NestedKey} {b : Addr} {w : W} {v : V} (h1 : nkT t = some k) (h2 : k.depth ≤ 8) (h3 : Rf K s.fz s.H t (.ref b)) (h4 : Rw K s w v) {ws : List (T × W)} {vs : List Yx} (r : RwD K s ws vs) : RwD K s (putT ws t k w) (putN vs k b v) := by
 unfold putT putN
 rw [r.any k]
 split
 ·exact r.mapPut k h4
 ·exact r.snoc h1 h2 h3 h4
/-- where a live dict lies -/
theorem Rel.dit (R : Rel K ω s) {i : Nat} {v : V} {ws : List (T × W)} (g : getT s.hp i = some ws) (r : Rw K s (.r i) v) : ∃ a xs, v = .ref a ∧ s.rho[i]? = some a ∧ s.H a = some (DitO ω a xs) ∧ RwD K s ws xs ∧ ¬ s.fz a := by
 obtain ⟨a, e1, e2⟩ := r
 obtain ⟨xs, h1, h2⟩ := R.cell i _ a (getT_eq g) e1
 exact ⟨a, xs, e2, e1, h1, h2, R.fz a ⟨i, _, ⟨getT_eq g, True.intro⟩, e1⟩⟩
end
abbrev RelN : List Yx → List Yao → Prop := Paired fun (p : NestedKey × Addr × V) (q : NestedKey × Addr × Value) => p.1 = q.1 ∧ p.2.1 = q.2.1 ∧ RelV p.2.2 q.2.2
theorem RelN.len {xs : List Yx} {ys : List Yao} (r : RelN xs ys) : xs.length = ys.length := Paired.length r
theorem RelN.val (k : NestedKey) {xs : List Yx} {ys : List Yao} (r : RelN xs ys) : RelO (valN xs k) ((atKey ys k).map (·.2)) := by
 induction r with
 | nil => exact True.intro
 | @cons p q ps qs h t ih =>
  obtain ⟨h1, h2, h3⟩ := h
  by_cases e : q.1 = k
  ·have e' : p.1 = k := h1.trans e
   simp only [valN, atKey, List.find?_cons, e, e', decide_true, Option.map_some]
   exact h3
  ·have e' : ¬ p.1 = k := fun z => e (h1 ▸ z)
   simp only [valN, atKey, List.find?_cons, e, e', decide_false]
   exact ih
theorem RelN.mapPut (k : NestedKey) {v : V} {u : Value} (rv : RelV v u) {xs : List Yx} {ys : List Yao} (r : RelN xs ys) : RelN (xs.map fun x => if x.1 = k then (x.1, x.2.1, v) else x) (ys.map (putAt k u)) := by
 induction r with
 | nil => exact .nil
 | @cons p q ps qs h t ih =>
  obtain ⟨h1, h2, h3⟩ := h
  simp only [List.map_cons]
  refine .cons ?_ ih
  unfold putAt
  by_cases e : q.1 = k
  ·rw [if_pos e, if_pos (h1.trans e)]
   exact ⟨h1, h2, rv⟩
  ·rw [if_neg e, if_neg (fun z => e (h1 ▸ z))]
   exact ⟨h1, h2, h3⟩
theorem RelN.snoc {k : NestedKey} {a : Addr} {v : V} {u : Value} (rv : RelV v u) {xs : List Yx} {ys : List Yao} (r : RelN xs ys) : RelN (xs ++ [(k, a, v)]) (ys ++ [(k, a, u)]) := by
 induction r with
 | nil => exact .cons ⟨rfl, rfl, rv⟩ .nil
 | cons h t ih => exact .cons h ih
theorem RelN.some (k : NestedKey) {xs : List Yx} {ys : List Yao} (r : RelN xs ys) : (xs.find? fun x => decide (x.1 = k)).isSome = (atKey ys k).isSome := by
 induction r with
 | nil => rfl
 | @cons p q ps qs h t ih =>
  by_cases e : q.1 = k
  ·have e' : p.1 = k := h.1.trans e
   simp [atKey, List.find?_cons, e, e']
  ·have e' : ¬ p.1 = k := fun z => e (h.1 ▸ z)
   simp only [atKey, List.find?_cons, e, e', decide_false] at ih ⊢
   exact ih
theorem RelN.put {k : NestedKey} {a : Addr} {v : V} {u : Value} (rv : RelV v u) {xs : List Yx} {ys : List Yao} (r : RelN xs ys) : RelN (putN xs k a v) (storedH ys k a u) := by
 unfold putN storedH
 rw [r.some k]
 split
 ·exact r.mapPut k rv
 ·exact r.snoc rv
end Mir
namespace Mir
open PySem PySem.Spec L2
open PyProof.Rows hiding St
section
variable {K : PySem.W.Frag} {ω : World} {s : S4}
theorem RwD.isSome (k : NestedKey) {ws : List (T × W)} {vs : List Yx} (r : RwD K s ws vs) : (valN vs k).isSome = (valT ws k).isSome := by
 cases h : valT ws k with
 | none => rw [r.no k h]; rfl
 | some w => obtain ⟨v, e, _⟩ := r.val k h; rw [e]; rfl
end
end Mir
namespace Mir
open PySem PySem.Spec L2
open PyProof.Rows hiding St
end Mir
namespace Mir
open PySem PySem.Spec L2
open PyProof.Rows hiding St
/-- str(o): an alternative for each class -/
structure StrAlt (X : Cx) (c : Str) (m : OpN) : Prop where
 ex : ∃ (C f : Addr) (fd : FuncData) (ps : List Str) (k n : Nat), CN X.K c C ∧ Meth X.K C "__str__" f ∧ FnG X.prog X.w X.K X.mg X.base Yez k f fd ps (spM X.K X.w m n) ∧ Room (k + 2) X.A ∧ Binds X.K fd ps [] ∧ ∀ ws hp, ws.length ≠ n → m ws hp = .bad
def AltsOk (X : Cx) : List (Str × OpN) → Prop
 | [] => True
 | p :: r => StrAlt X p.1 p.2 ∧ AltsOk X r
theorem AltsOk.get {X : Cx} : ∀ {alts : List (Str × OpN)} {p : Str × OpN}, AltsOk X alts → p ∈ alts → StrAlt X p.1 p.2
 | [], _, _, h => nomatch h
 | q :: r, p, ok, h => by
  rcases List.mem_cons.mp h with rfl | h
  ·exact ok.1
  ·exact AltsOk.get ok.2 h
end Mir
namespace Mir
open PySem PySem.Spec L2
open PyProof.Rows hiding St
end Mir
namespace Mir
open PySem PySem.Spec L2
open PyProof.Rows hiding St
end Mir
namespace Mir
open PySem PySem.Spec L2
open PyProof.Rows hiding St
end Mir
namespace Mir
open PySem PySem.Spec L2
open PyProof.Rows hiding St
end Mir
namespace Mir
open PySem PySem.Spec L2
open PyProof.Rows hiding St
end Mir
namespace Mir
open PySem PySem.Spec L2
open PyProof.Rows hiding St
/-- o == p: an alternative for each class -/
structure EqAlt (X : Cx) (c : Str) (m : OpN) : Prop where
 ex : ∃ (C f : Addr) (fd : FuncData) (ps : List Str) (k n : Nat), CN X.K c C ∧ Meth X.K C "__eq__" f ∧ FnG X.prog X.w X.K X.mg X.base Yez k f fd ps (spM X.K X.w m n) ∧ Room (k + 2) X.A ∧ Binds X.K fd ps [] ∧ (∀ ws hp, ws.length ≠ n → m ws hp = .bad) ∧
  PySem.W.findIn X.K (.ref C) "__ne__" = some (some (.builtin "object.__ne__")) ∧ PySem.W.mroIn X.K C (.type "object") = some true
def EqAlts (X : Cx) : List (Str × OpN) → Prop
 | [] => True
 | p :: r => EqAlt X p.1 p.2 ∧ EqAlts X r
theorem EqAlts.get {X : Cx} : ∀ {alts : List (Str × OpN)} {p : Str × OpN}, EqAlts X alts → p ∈ alts → EqAlt X p.1 p.2
 | [], _, _, h => nomatch h
 | q :: r, p, ok, h => by
  rcases List.mem_cons.mp h with rfl | h
  ·exact ok.1
  ·exact EqAlts.get ok.2 h
end Mir
namespace Mir
open PySem PySem.Spec L2
open PyProof.Rows hiding St
end Mir
namespace Mir
open PySem PySem.Spec L2
open PyProof.Rows hiding St
end Mir
namespace Mir
open PySem PySem.Spec L2
open PyProof.Rows hiding St
/-- o == p and o in (..): an alternative for each class -/
structure InAlt (X : Cx) (c : Str) (m : OpN) : Prop where
 ex : ∃ (C f : Addr) (fd : FuncData) (ps : List Str) (k n : Nat), CN X.K c C ∧ Meth X.K C "__eq__" f ∧ FnG X.prog X.w X.K X.mg X.base Yez k f fd ps (spM X.K X.w m n) ∧ Room (k + 4) X.A ∧ Binds X.K fd ps [] ∧ (∀ ws hp, ws.length ≠ n → m ws hp = .bad) ∧
  PySem.W.subIn X.K (.ref C) (.type "str") = some false ∧ PySem.W.subIn X.K (.ref C) (.type "tuple") = some false ∧ PySem.W.subIn X.K (.ref C) (.type "NoneType") = some false
def InAlts (X : Cx) : List (Str × OpN) → Prop
 | [] => True
 | p :: r => InAlt X p.1 p.2 ∧ InAlts X r
theorem InAlts.get {X : Cx} : ∀ {alts : List (Str × OpN)} {p : Str × OpN}, InAlts X alts → p ∈ alts → InAlt X p.1 p.2
 | [], _, _, h => nomatch h
 | q :: r, p, ok, h => by
  rcases List.mem_cons.mp h with rfl | h
  ·exact ok.1
  ·exact InAlts.get ok.2 h
end Mir
namespace Mir
open PySem PySem.Spec L2
end Mir
namespace Mir
open PySem PySem.Spec L2
open PyProof.Rows hiding St
end Mir
namespace Mir
open PySem PySem.Spec L2
open PyProof.Rows hiding St
end Mir
namespace Mir
open PySem PySem.Spec L2
open PyProof.Rows hiding St
def getTl (hp : IH) (i : Nat) : Option (List (T × W)) := match hp[i]? with
 | some (some (.dil kvs)) => some kvs
 | _ => none
theorem getTl_eq {hp : IH} {i : Nat} {ws : List (T × W)} (h : getTl hp i = some ws) : hp[i]? = some (some (.dil ws)) := by
 unfold getTl at h
 split at h
 ·rename_i kvs e
  simp only [Option.some.injEq] at h
  rw [e, h]
 ·cases h
theorem Rel.dil {K : PySem.W.Frag} {ω : World} {s : S4} (R : Rel K ω s) {i : Nat} {v : V} {ws : List (T × W)} (g : getTl s.hp i = some ws) (r : Rw K s (.r i) v) : ∃ a ob xs, v = .ref a ∧ s.rho[i]? = some a ∧ s.H a = some (.frz ob (DitO ω a xs)) ∧ RwD K s ws xs ∧ ¬ Live s a := by
 obtain ⟨a, e1, e2⟩ := r
 obtain ⟨ob, xs, h1, h2⟩ := R.cell i _ a (getTl_eq g) e1
 refine ⟨a, ob, xs, e2, e1, h1, h2, ?_⟩
 rintro ⟨j, c, ⟨q1, q2⟩, q3⟩
 have : i = j := (List.getElem?_inj (List.getElem?_eq_some_iff.mp e1).1 R.nd).mp (e1.trans q3.symm)
 subst this
 rw [getTl_eq g] at q1
 cases q1
 exact q2
end Mir
namespace Mir
open PySem PySem.Spec L2
open PyProof.Rows hiding St
end Mir
namespace Mir
open PySem PySem.Spec L2
open PyProof.Rows hiding St
/-- the pairs laid so far -/
structure ZLaid (Rel : Nat → Value → Value → Prop) (lo : Nat) (h : Heap) (as : List Addr) : Prop where
 rise : as.Pairwise (· < ·)
 above : ∀ a ∈ as, lo ≤ a
 pairs : ∀ (j : Nat) (a : Addr), as[j]? = some a → ∃ x y, Rel j x y ∧ IsTupOf2 h a x y
theorem ZLaid.there {Rel : Nat → Value → Value → Prop} {lo : Nat} {h : Heap} {as : List Addr} (g : ZLaid Rel lo h as) {a : Addr} (ha : a ∈ as) : a < h.objs.size := by
 obtain ⟨j, hj⟩ := List.mem_iff_getElem?.mp ha
 obtain ⟨_, _, _, e⟩ := g.pairs j a hj
 exact Heap.lt_size e
end Mir
namespace Mir
open PySem PySem.Spec L2
open PyProof.Rows hiding St
/-- what a suite asks of the class of its exception -/
structure XcF (K : PySem.W.Frag) (C : Addr) : Prop where
 ga : PySem.W.findIn K (.ref C) "__getattribute__" = some (some (.builtin "BaseException.__getattribute__"))
 gg : PySem.W.findIn K (.ref C) "__getattr__" = some none
 exC : PySem.W.subIn K (.ref C) Ye4 = some true
 hd : PySem.W.hasDictIn K C = true
 ha : PySem.W.findIn K (.ref C) "__class__" = some (some Y6)
 hn : PySem.W.specialIn K Y6 "__get__" = some Ydb
 ht : PySem.W.takesIn K Y6 = some true
 hm : PySem.W.mroIn K C (.type "object") = some true
theorem XcF.xf {K : PySem.W.Frag} {C : Addr} (x : XcF K C) : L2.XfC K C := ⟨x.ga, x.gg, x.exC, x.hd⟩
theorem XcF.cl {K : PySem.W.Frag} {C : Addr} (x : XcF K C) : (PySem.W.clsIn K C).isSome = true := by
 obtain ⟨cd, hc, _⟩ := PySem.W.any_some x.hd
 rw [hc]; rfl
/-- a reading in a suite: slot i holds the exception, of class c -/
def tXM {A B : Type} (K : PySem.W.Frag) (ω : World) (Fam : S4 → A → B → Prop) (a : Addr) (cls : Value) (d : Option Addr) (i : Nat) (c : Str) (F : Ex → M A) : L2.St → Hp → (B → Hp → Prop) → Prop := fun σ H Q =>
 σ[i]? = some Yd2 ∧ ∃ (ex : Ex) (s : S4) (eta : IS), s.H = H ∧ Rel K ω s ∧ Sl K s eta σ ∧ ex.cls = c ∧ ExR K s ex cls d ∧ Go K ω W0 Fam s (F ex eta s.hp) Q
theorem ExR.aft {K : PySem.W.Frag} {ω : World} {s s' : S4} {e : Ex} {cls : Value} {d : Option Addr} (h : ExR K s e cls d) (A : Aft s s') (R : Rel K ω s) (nl : ∀ x, d = some x → ¬ Live s x) : ExR K s' e cls d := by
 obtain ⟨C, e1, cn, h⟩ := h
 refine ⟨C, e1, cn, ?_⟩
 rcases h with h | ⟨dd, vs, e2, e3, r⟩
 ·exact .inl h
 ·exact .inr ⟨dd, vs, e2, A.keep dd _ e3 (nl dd e2), RwF.aft A R _ _ r⟩
theorem ExR.nl {K : PySem.W.Frag} {ω : World} {s : S4} {e : Ex} {cls : Value} {d : Option Addr} (h : ExR K s e cls d) (R : Rel K ω s) : ∀ x, d = some x → ¬ Live s x := fun x ex l => by
 obtain ⟨C, _, _, h⟩ := h
 rcases h with ⟨_, h⟩ | ⟨dd, vs, e2, e3, _⟩
 ·rw [h] at ex; cases ex
 ·obtain rfl : dd = x := by rw [e2] at ex; exact Option.some.inj ex
  obtain ⟨i, c, ⟨hc, _⟩, hr⟩ := l
  have := R.cell i c dd hc hr
  rw [e3] at this
  cases c with
  | lst ws => obtain ⟨vs, e, _⟩ := this; cases e
  | dic kvs => obtain ⟨vs, e, _⟩ := this; cases e
  | ins c fs => obtain ⟨C, dx, vs, e, _⟩ := this; cases e
  | dit kvs => obtain ⟨vs, e, _⟩ := this; unfold DitO at e; cases e
  | tpl ws => obtain ⟨ob, vs, e, _⟩ := this; cases e
  | dil kvs => obtain ⟨ob, vs, e, _⟩ := this; cases e
section
variable {X : Cx} {a : Addr} {oe : Obj} {cls : Value} {d : Option Addr} {pn : List Ycz} {i : Nat} {c : Str}
theorem tXM.bind1 {A B C D : Type} {K : PySem.W.Frag} {ω : World} {Fam : S4 → A → B → Prop} {Gam : S4 → C → D → Prop} {Fa : Ex → M A} {k : Ex → A → IS → IH → Res C} {σ : L2.St} {H : Hp} {Q : D → Hp → Prop} {R : B → Hp → Prop}
  (h : tXM K ω Gam a cls d i c (fun ex eta hp => (Fa ex eta hp).bind fun a h1 => k ex a eta h1) σ H Q)
  (n : ∀ (ex : Ex) (s : S4) (eta : IS) (x : A) (b : B), Rel K ω s → Sl K s eta σ → ex.cls = c → ExR K s ex cls d → Fam s x b → Go K ω W0 Gam s (k ex x eta s.hp) Q → R b s.H) : tXM K ω Fam a cls d i c Fa σ H R := by
 obtain ⟨e0, ex, s, eta, e1, R1, S1, ec, er, g⟩ := h
 refine ⟨e0, ex, s, eta, e1, R1, S1, ec, er, Go.bind g fun x b s' A' R' f _ g' => n ex s' eta x b R' (S1.aft A' R1) ec (er.aft A' R1 (er.nl R1)) f g'⟩
theorem tXM.of {A B : Type} {K : PySem.W.Frag} {ω : World} {Fam : S4 → A → B → Prop} {F : M A} {σ : L2.St} {H : Hp} {Q : B → Hp → Prop} (h : tXM K ω Fam a cls d i c (fun _ => F) σ H Q) : tM K ω W0 Fam F σ H Q := by
 obtain ⟨e0, ex, s, eta, e1, R1, S1, ec, er, g⟩ := h
 exact ⟨s, eta, e1, R1, S1, g⟩
def XE (X : Cx) (a : Addr) (oe : Obj) (cls : Value) (d : Option Addr) (pn : List Ycz) (i : Nat) (c : Str) (e : Expr) (F : Ex → M W) : Prop := PE Y1 e (tXM X.K X.w (Rw X.K) a cls d i c F)
def XT (X : Cx) (a : Addr) (oe : Obj) (cls : Value) (d : Option Addr) (pn : List Ycz) (i : Nat) (c : Str) (e : Expr) (F : Ex → M Bool) : Prop := PT Y1 e (tXM X.K X.w Ydl a cls d i c F)
def XW (X : Cx) (a : Addr) (oe : Obj) (cls : Value) (d : Option Addr) (pn : List Ycz) (i : Nat) (c : Str) (e : Expr) (F : Ex → M Bool) : Prop := PW Y1 e (tXM X.K X.w Ydl a cls d i c F)
def XSs (X : Cx) (a : Addr) (oe : Obj) (cls : Value) (d : Option Addr) (pn : List Ycz) (i : Nat) (c : Str) (st : List Stmt) (F : Ex → M Fl) : Prop := PSs Y1 st (fun D σ H => tXM X.K X.w (RFl X.K) a cls d i c F σ H (endQ D))
variable {e e2 e3 : Expr} {es : List Expr} {F G L : Ex → M W} {Fs : Ex → M (List W)} {U V' : Ex → M Bool} {pos p p2 : Pos} {n : Str}
theorem xe_of {F : M W} (h : IE Y1 W0 e F) : XE X a oe cls d pn i c e (fun _ => F) := PE.imp h fun σ H Q h => h.of
/-- e.f -/
def mXF (f : Str) : Ex → M W := fun ex _ hp => match ex.fs.lookup f with
 | some w => .ok w hp
 | none => .bad
theorem xe_fld {C : Addr} {f : Str} (cn : CN X.K c C) (x : XcF X.K C) (hno : PySem.W.findIn X.K (.ref C) f = some none) (hz : Zc cls d oe) (hf : ∃ vs, oe.data = .fields vs)
  (hN : X.N[i]? = some n := by rfl) (hv : Vis X.env.scope n := by first | exact Or.inl rfl | exact Or.inr (Or.inl rfl) | exact Or.inr (Or.inr rfl)) (hd : (n == ("__debug__" : Str)) = false := by decide) (hcd : (n == ("__classdict__" : Str)) = false := by decide)
  (hb : attributeBase (.Name n p) f X.env (eval (.Name n p) X.env) = eval (.Name n p) X.env := by rfl) : XE X a oe cls d pn i c (.Attribute (.Name n p) f pos) (mXF f) :=
 PE.imp (pe_xf (C := C) (d := d) x.xf hno hz hf Ybr hb) fun σ H Q h => by
  obtain ⟨e0, ex, s, eta, e1, R1, S1, ec, er, g⟩ := h
  subst e1
  obtain ⟨C', eC, cn', er⟩ := er
  rw [ec] at cn'
  cases cn'.inj cn
  unfold mXF at g
  split at g
  ·rename_i w hw
   rcases er with ⟨z, _⟩ | ⟨dd, vs, ed, eH, rf⟩
   ·rw [z] at hw; simp at hw
   obtain ⟨v, h1, h2⟩ := (RwF.look f rf).1 w hw
   exact ⟨.ref a, e0, rfl, eC, dd, vs, v, ed, eH, h1, g v s rfl Ye R1 h2⟩
  ·exact g.elim
def rIsX (K : PySem.W.Frag) (a C : Addr) (d : Option Addr) : List V → Hp → VK → Prop := fun xs H Q => ∃ (c : V) (cv : Value) (b : Bool), xs = [.ref a, c] ∧ (∀ u, RelV c u → u = cv) ∧ PySem.W.kitOne K (.ref C) cv = some b ∧ (d = none ∨ ∃ dd fs, d = some dd ∧ H dd = some (.xd fs)) ∧ Q (.bl b) H
theorem call_isX {C : Addr} (x : XcF X.K C) (hz : Zc (.ref C) d oe) (hf : ∃ vs, oe.data = .fields vs) : CallR Y1 Ye3 (rIsX X.K a C d) := by
 intro pins s σ H xs us Q I r h
 obtain ⟨c, cv, b, rfl, hcv, e, hd, q⟩ := h
 cases r with
 | cons rx rr =>
  cases rr with
  | cons rt rr =>
   cases rr
   cases rx
   have ec := hcv _ rt
   subst ec
   obtain ⟨hget, _⟩ := I.pin (a, oe) (List.mem_append.mpr (.inl List.mem_cons_self))
   obtain ⟨vs, hv⟩ := hf
   have J : ∃ od, PySem.W.InstAt s.heap a oe C od := by
    rcases hd with hd | ⟨dd, fs, ed, eH⟩
    ·subst hd
     refine ⟨none, ?_⟩
     obtain ⟨oc, od, oda, osl⟩ := oe
     obtain ⟨h1, h2⟩ := hz
     dsimp only at h1 h2 hv
     subst h1 h2 hv
     exact ⟨hget, rfl, rfl, trivial⟩
    ·subst ed
     have hx : ObjOk X.prog X.w H s.heap dd (.xd fs) := I.hok dd _ eH
     obtain ⟨mA, hns, hr⟩ := hx
     obtain ⟨od, ho, hl⟩ := lookIn_ns hns
     exact ⟨some od, hget, hz.1, by unfold PySem.W.notCls; rw [hv] <;> rfl, by rw [hz.2]; exact ho⟩
   obtain ⟨od, J⟩ := J
   exact PySem.W.kia_one (PySem.W.kitx_exc x.cl x.ga x.gg x.exC x.ha x.hn x.ht x.hm) I.kIn J e (fun z => nomatch z) fun tk => ⟨.bl b, H, I.kept (t' := tk) fun _ _ z => z, rfl, q⟩
/-- .. of an exception of class c: the class asked for is an own one or a built-in one -/
theorem xe_isi {C : Addr} {t : T} {ct : CT} {b : Bool} (cn : CN X.K c C) (x : XcF X.K C) (hz : Zc cls d oe) (hf : ∃ vs, oe.data = .fields vs) (hcl : clC t = some ct) (htab : ∀ cv, CVal X.K ct cv → PySem.W.kitOne X.K (.ref C) cv = some b)
  (h2 : IE Y1 W0 e2 (mC t)) (hm : X.mg "isinstance" = none) (hN : X.N[i]? = some n := by rfl) (hv : Vis X.env.scope n := by first | exact Or.inl rfl | exact Or.inr (Or.inl rfl) | exact Or.inr (Or.inr rfl)) (hd : (n == ("__debug__" : Str)) = false := by decide) (hcd : (n == ("__classdict__" : Str)) = false := by decide)
  (hg : Gl Y1 "isinstance" := by rfl)
  (he : starEach [.Name n p, e2] X.env = (false, eval (.Name n p) X.env) :: starEach [e2] X.env := by rfl) (he2 : starEach [e2] X.env = (false, eval e2 X.env) :: starEach [] X.env := by rfl) (hpl : (backTo pos (starEach [e2] X.env)).any (·.1) = false := by rfl) :
  XE X a oe cls d pn i c (.Call (.Name "isinstance" p2) [.Name n p, e2] [] pos) (fun _ => mC (.bl b)) := by
 refine ⟨fun pins s σ H Q I h => ?_⟩
 obtain ⟨e0, ex, s0, eta, e1, R1, S1, ec, er, g⟩ := h
 subst e1
 obtain ⟨C', eC, cn', er'⟩ := id er
 rw [ec] at cn'
 cases cn'.inj cn
 subst eC
 refine (pe_callB (X := X.suite a ((a, oe) :: pn)) (call_isX (d := d) x hz hf) hg hm Ybs (pa_cons Ybr (pa_cons h2 pa_nil he2) he) Yaz Yaz he hpl).run pins s σ s0.H Q I ⟨_, e0, s0, eta, rfl, R1, S1, fun v s' q1 q2 q3 q4 => ?_⟩
 obtain ⟨cv, c1, c2⟩ := cl_at hcl (by simpa only [Rw] using q4)
 have hrel : ∀ u, RelV v u → u = cv := fun u hu => by
  cases c2 with
  | ty n => cases hu; rfl
  | own C => cases hu; rfl
 have nl := er.nl R1
 have er2 := er.aft q2 R1 nl
 refine ⟨_, cv, b, rfl, hrel, htab cv c1, ?_, ?_⟩
 ·obtain ⟨_, _, _, h⟩ := er2
  rcases h with ⟨_, h⟩ | ⟨dd, vs, h1, h2, _⟩
  ·exact .inl h
  ·exact .inr ⟨dd, vs, h1, h2⟩
 ·exact Go.aft g q2 (.bl b) s' q1 (Aft.refl s') q3 Yf
theorem xt_val (h : XE X a oe cls d pn i c e F) (he : ∀ whole, isTrue e X.env whole = (do let v ← whole; standAt e.pos; holding [v] (truthy v)) := by intro _; rfl) : XT X a oe cls d pn i c e (fun ex => zaj asB (F ex)) :=
 PT.imp (pt_val h he) fun σ H Q h => tXM.bind1 (R := fun (x : V) (H1 : Hp) => ∃ c, x = .bl c ∧ Q c H1) (k := fun _ (a : W) _ hp => asB a hp) h fun ex s eta a b R1 _ _ _ f1 g => go_asB R1 f1 g
theorem xt_cond {R : Bool → Hp → Prop} {C D : Type} {Gam : S4 → C → D → Prop} {k : Ex → Bool → IS → IH → Res C} {σ : L2.St} {H : Hp} {Q : D → Hp → Prop}
  (h : tXM X.K X.w Gam a cls d i c (fun ex eta hp => (U ex eta hp).bind fun b h1 => k ex b eta h1) σ H Q) (n : ∀ (ex : Ex) (s : S4) (eta : IS) (b : Bool), Rel X.K X.w s → Sl X.K s eta σ → ex.cls = c → ExR X.K s ex cls d → Go X.K X.w W0 Gam s (k ex b eta s.hp) Q → R b s.H) : tXM X.K X.w Ydl a cls d i c U σ H R :=
 tXM.bind1 (R := R) h fun ex s eta a b R1 S1 ec er f1 g => by subst f1; exact n ex s eta a R1 S1 ec er g
theorem XW.t (h : XW X a oe cls d pn i c e U) : XT X a oe cls d pn i c e U := PW.pt h
theorem xw_and1 (ha : XT X a oe cls d pn i c e U) : XW X a oe cls d pn i c (.BoolOp .And [e] pos) U := pw_and1 ha
theorem xw_and {rest : List Expr} (ha : XT X a oe cls d pn i c e U) (hb : XW X a oe cls d pn i c (.BoolOp .And (e2 :: rest) pos) V') : XW X a oe cls d pn i c (.BoolOp .And (e :: e2 :: rest) pos) (fun ex => mAnd (U ex) (V' ex)) :=
 PW.imp (pw_and ha hb) fun σ H Q h => by
  have e0 := h.1
  exact xt_cond (R := fun c1 H1 => if c1 = true then tXM X.K X.w Ydl a cls d i c V' σ H1 Q else Q false H1) (k := fun ex a eta h1 => if a then V' ex eta h1 else .ok false h1) h fun ex s eta b R1 S1 ec er g => by
   cases b with
   | true => exact ⟨e0, ex, s, eta, rfl, R1, S1, ec, er, g⟩
   | false => exact g false s rfl Ye R1 rfl
theorem xt_not (ha : XT X a oe cls d pn i c e U) : XT X a oe cls d pn i c (.UnaryOp .Not e pos) (fun ex => mNot (U ex)) :=
 PT.imp (pt_not ha) fun σ H Q h => xt_cond (R := fun c H1 => Q (!c) H1) (k := fun _ a eta h1 => .ok (!a) h1) h fun ex s eta b R1 S1 _ _ g => g (!b) s rfl Ye R1 rfl
theorem xe_if (hc : XT X a oe cls d pn i c e U) (ha : XE X a oe cls d pn i c e2 F) (hb : XE X a oe cls d pn i c e3 G) : XE X a oe cls d pn i c (.IfExp e e2 e3 pos) (fun ex => mIf (U ex) (F ex) (G ex)) :=
 PE.imp (pe_ifExp hc ha hb) fun σ H Q h => by
  have e0 := h.1
  exact xt_cond (R := fun c1 H1 => if c1 = true then tXM X.K X.w (Rw X.K) a cls d i c F σ H1 Q else tXM X.K X.w (Rw X.K) a cls d i c G σ H1 Q) (k := fun ex b eta h1 => if b then F ex eta h1 else G ex eta h1) h fun ex s eta b R1 S1 ec er g => by
   cases b with
   | true => exact ⟨e0, ex, s, eta, rfl, R1, S1, ec, er, g⟩
   | false => exact ⟨e0, ex, s, eta, rfl, R1, S1, ec, er, g⟩
variable {x : Str} {rest suite : List Stmt} {Gs : Ex → M Fl} {j : Nat}
theorem xss_nil : XSs X a oe cls d pn i c [] (fun _ => zcl) := PSs.imp (pss_nil (X := X.suite a ((a, oe) :: pn))) fun D σ H h => by
 obtain ⟨e0, ex, s, eta, e1, R1, S1, ec, er, g⟩ := h
 subst e1
 exact Go.nx R1 S1 g
theorem xss_set (j : Nat) {pos' : Pos} (hij : j ≠ i) (hN : X.N.Nodup) (he : XE X a oe cls d pn i c e F) (hr : XSs X a oe cls d pn i c rest Gs) (hi : X.N[j]? = some x := by rfl) (hx : Loc X.env.scope x := by first | exact Or.inl rfl | exact Or.inr rfl) (hs : swapsWith e (some (.Name x pos')) pos.line X.env = pure false := by rfl) (hf : (X.suite a ((a, oe) :: pn)).fn x = true ∨ X.env.scope.names.lookup x = some .local := by first | exact .inl rfl | exact .inr rfl | assumption) :
  XSs X a oe cls d pn i c (.Assign [.Name x pos'] e pos :: rest) (fun ex => mSeq (mSet j (F ex)) (Gs ex)) := PSs.imp (pss_cons (ps_set (X := X.suite a ((a, oe) :: pn)) hN hi hx he hs hf) hr) fun D σ H h => by
 have e0 := h.1
 have h' : tXM X.K X.w (RFl X.K) a cls d i c (fun ex eta hp => (F ex eta hp).bind fun w h1 => thenF (Gs ex) (Fl.nx (eta.set j (some w))) h1) σ H (endQ D) := by
  obtain ⟨e0, ex, s, eta, e1, R1, S1, ec, er, g⟩ := h
  refine ⟨e0, ex, s, eta, e1, R1, S1, ec, er, ?_⟩
  have : (mSeq (mSet j (F ex)) (Gs ex)) eta s.hp = (F ex eta s.hp).bind fun w h1 => thenF (Gs ex) (Fl.nx (eta.set j (some w))) h1 := by
   show ((F ex eta s.hp).bind _).bind _ = _
   rw [Res.bind_assoc]
   rfl
  have g : Go X.K X.w W0 (RFl X.K) s ((mSeq (mSet j (F ex)) (Gs ex)) eta s.hp) (endQ D) := g
  rw [this] at g
  exact g
 exact tXM.bind1 (R := fun (y : V) (H1 : Hp) => tXM X.K X.w (RFl X.K) a cls d i c Gs (σ.set j (some y)) H1 (endQ D)) (k := fun ex (w : W) eta hp => thenF (Gs ex) (Fl.nx (eta.set j (some w))) hp) h' fun ex s eta w v R1 S1 ec er f1 g =>
  ⟨by rw [List.getElem?_set_ne hij]; exact e0, ex, s, eta.set j (some w), rfl, R1, S1.set j f1, ec, er, g⟩
end
/-- what the clauses wish of an exception of the body -/
def wManyA (K : PySem.W.Frag) (i : Nat) (Wout : WX) (D : Ends) : List Yak → WX
 | [] => Wout
 | (c, ts) :: r => fun cls d σ H => ∃ b, PySem.W.exmOne K cls c = some b ∧ (b = true → ∀ a, H a = none → ts a cls d { nx := fun σ' H' => D.nx (σ'.set i none) H', rt := D.rt, bk := fun σ' H' => D.bk (σ'.set i none) H', ct := fun σ' H' => D.ct (σ'.set i none) H' } (σ.set i Yd2) H) ∧ (b = false → wManyA K i Wout D r cls d σ H)
inductive HdsA (X : Cx) (n : Str) : List ExceptHandler → List Yak → Prop
 | nil : HdsA X n [] []
 | cons {x : Str} {c : Value} {ts : Addr → Value → Option Addr → TS} {b₀ : Stmt} {suite : List Stmt} {np pos' : Pos} {hds : List ExceptHandler} {l : List (Value × (Addr → Value → Option Addr → TS))} (hc : Names X x c)
   (hsu : ∀ (a : Addr) (oe : Obj) (cls : Value) (d : Option Addr) (pn : List (Addr × Obj)), Zc cls d oe → (∃ vs, oe.data = .fields vs) → PSs Y1 (b₀ :: suite) (ts a cls d)) (r : HdsA X n hds l) :
   HdsA X n Yeb ((c, ts) :: l)
section
variable {X : Cx} {body : List Stmt} {h₀ : ExceptHandler} {hds : List ExceptHandler} {l : List Yak} {pos : Pos} {tb : WX → TS} {Wout : WX} {i : Nat} {n : Str}
theorem ps_try_manyA (hs : X.stack = X.env :: X.outer) (hf : X.env.frame = some X.env.locals) (hN : X.N.Nodup) (hi : X.N[i]? = some n) (hln : X.env.kindOf n = some .local) (tk : L2.Takes X Wout)
  (hb : ∀ (W : WX) (pn : List (Addr × Obj)) (xe : Value → Shared → Prop), L2.Takes (X.tr pn xe) W → PassesOwn Yaa X.A X.env xe → PSs (X.tr pn xe) body (tb W))
  (hh : HdsA X n (h₀ :: hds) l) : PS X (.Try body (h₀ :: hds) [] [] pos) (fun D σ H => tb (wManyA X.K i Wout D l) D σ H) := by
 refine ⟨fun pins s σ H D I h => ?_⟩
 have ok := I.ok
 have hfr : X.A.frames = some (X.env :: X.outer) := by rw [ok.frames, hs]
 have hloc : Loc X.env.scope n := .inl hln
 refine wpAny_Try_except ?_
 refine wpAny_mono ((hb (wManyA X.K i Wout D l) (X.pn ++ pins) (fun e s₁ => wpAny Yaa X.A (noteFrame e X.env) (fun _ s₂ => wpAny Yaa X.A (setFlight e none) (fun _ s₃ =>
  wpAny Yaa X.A (handleBy e X.env (h₀ :: hds)) (SP X pins D) X.xe s₃) X.xe s₂) X.xe s₁) (fun u s' xx => ?_) PassesOwn.looking).run [] s σ H D (I.toTry _) h) (fun f s1 hsp => ?_) (fun e s1 he => he)
 ·obtain ⟨a, B, sI, pins', σ', H', cls, d, rfl, J', nb, up, sky, na, os, ag, w⟩ := xx
  have J : Inv X pins σ' H' sI := J'.ofTry ok
  have sky' : Sky B (X.env :: X.outer) a (Zc cls d) X.env.locals s'.heap := by rw [← hs]; exact sky
  show wpAny Yaa X.A (noteFrame (.ref a) X.env) _ _ _
  refine Sky.land Zc.steady hfr hf sky' fun h3 fl3 up3 => ?_
  have J3 : Inv X pins σ' H' { s' with heap := h3 } := J.landed nb fl3.1 (up.trans up3) os ag
  obtain ⟨oe3, vs3, he3, hz3, hd3⟩ := fl3.there
  have notFr : ∀ {h : Heap} {o : Obj} {vs : Array Value}, h.FunFrames B (X.env :: X.outer) → h.get? a = some o → o.data = .fields vs → a ∉ frs (X.env :: X.outer) := fun {h o vs} ff e dd hm => by
   obtain ⟨_, o', e', hnf⟩ := ff.mem hm
   rw [e] at e'; cases e'
   exact hnf _ dd
  have nfr := notFr fl3.2.2.1 he3 hd3
  have nL : a ≠ X.env.locals := fun z => nfr (List.mem_filterMap.mpr ⟨X.env, List.mem_cons_self, by rw [hf, z]⟩)
  have nF : a ∉ X.fs := fun hm => by
   obtain ⟨e, he, q⟩ := List.mem_filterMap.mp hm
   exact nfr (List.mem_filterMap.mpr ⟨e, List.mem_cons_of_mem _ he, q⟩)
  have S3 := J3.suite he3 hd3 na nL nF
  have go : ∀ {hds' : List ExceptHandler} {l' : List (Value × (Addr → Value → Option Addr → TS))}, HdsA X n hds' l' → wManyA X.K i Wout D l' cls d σ' H' →
    wpAny Yaa X.A (handleBy (.ref a) X.env hds') (SP X pins D) X.xe { s' with heap := h3 } := by
   intro hds' l' hk
   induction hk with
   | nil =>
    intro w
    refine wpAny_handleBy_nil ?_
    obtain ⟨k1, k2, k3, oe, vs, T, oT, ts', he, hz, hd, h1, hr⟩ := id fl3
    unfold PySem.passOn
    refine wpAny_bind (wpAny_field he hd h1 ?_)
    rw [if_neg (show ¬ ((Value.ref T == Value.none) = true) from by simp)]
    have fin : wpAny Yaa X.A (setFlight (.ref a) X.env.frame) (fun _ s4 => wpAny Yaa X.A (throw (.ref a) : Sem Flow) (SP X pins D) X.xe s4) X.xe { s' with heap := h3 } := by
     rw [hf]
     refine HandSPX.setFlight_upZ fl3 fun h4 hh4 up4 => wpAny_throw (tk _ _ ?_)
     exact ⟨a, B, sI, pins, σ', H', cls, d, rfl, J, nb, (up.trans up3).trans up4, .inr (.inr (by rw [hs]; exact hh4)), na, os, ag, w⟩
    first
     | exact wpAny_bind (wpAny_pure (wpAny_bind fin))
     | exact wpAny_bind fin
   | @cons x c ts b₀ suite np pos' hds2 l2 hc hsu r ih =>
    intro w
    obtain ⟨b, hb1, hyes, hno⟩ := w
    refine wpAny_handleBy_cons (codeAny_handlers_test ?_) (by intro q; cases q)
    have LT : PySem.W.Looks Yaa h3 (typeOf (.ref a)) cls := fun A Q E s k q => wpAny_typeOf_ref (k _ _ he3) (by rw [hz3.1]; exact q)
    have LM := PySem.W.exm_one (M := model X.prog X.w) (J3.kIn) LT hb1
    have test : ∀ {Q : Value → Shared → Prop} {E : Value → Shared → Prop}, Q c { s' with heap := h3 } → wpAny Yaa (X.A.mark Yd2) (eval (.Name x np) X.env) Q E { s' with heap := h3 } := fun {Q E} q => by
     obtain ⟨hg, hdbg, hm | ⟨hm, hv, hnn⟩⟩ := hc
     ·exact ld_glob (X := X.suite a ((a, oe3) :: (X.pn ++ pins))) S3 hg hm q hdbg
     ·exact ld_blt (X := X.suite a ((a, oe3) :: (X.pn ++ pins))) S3 hg hm hv q hnn hdbg
    refine test (LM.here ?_)
    cases b with
    | true =>
     refine codeAny_handlers_suite_as ?_
     refine HandSPX.lands_againZ fl3 fun h4 fl4 up4 => ?_
     have J4 : Inv X pins σ' H' { s' with heap := h4 } := J.landed nb fl4.1 ((up.trans up3).trans up4) os ag
     obtain ⟨oe4, vs4, he4, hz4, hd4⟩ := fl4.there
     have S4 := J4.suite he4 hd4 na nL nF
     refine store_ok (X := X.suite a ((a, oe4) :: (X.pn ++ pins))) (v := .ref a) S4 hN hi hloc rfl (fun s5 S5 => ?_) (.inr hln)
     refine wpAny_mono ((hsu a oe4 cls d (X.pn ++ pins) hz4 ⟨_, hd4⟩).run [] s5 _ H' _ S5 (hyes rfl a na)) (fun f s6 hsp => ?_) (fun _ _ z => False.elim z)
     have end_ : ∀ {σ6 : L2.St} {H6 : Hp} {Q : Shared → Prop}, Inv (X.suite a ((a, oe4) :: (X.pn ++ pins))) [] σ6 H6 s6 → (∀ s7, Inv X pins (σ6.set i none) H6 s7 → Q s7) →
       wpAny Yaa X.A (do bindName X.env n .none; unbindBehindTheSuite X.env n pos') (fun _ s7 => Q s7) X.xe s6 := fun {σ6 H6 Q} S6 hq => gone_ok (S6.unsuite ok) hN hi hln hq
     cases f with
     | next =>
      obtain ⟨σ6, H6, S6, q6⟩ := hsp
      exact end_ S6 fun s7 J7 => ⟨_, _, J7, q6⟩
     | brk =>
      obtain ⟨σ6, H6, S6, q6⟩ := hsp
      exact end_ S6 fun s7 J7 => ⟨_, _, J7, q6⟩
     | cont =>
      obtain ⟨σ6, H6, S6, q6⟩ := hsp
      exact end_ S6 fun s7 J7 => ⟨_, _, J7, q6⟩
     | ret u =>
      obtain ⟨v6, σ6, H6, S6, r6, q6⟩ := hsp
      exact end_ S6 fun s7 J7 => ⟨_, _, _, J7, r6, q6⟩
    | false =>
     show wpAny _ X.A (handleBy (.ref a) X.env hds2) _ _ _
     exact ih (hno rfl)
  exact go hh w
 ·cases f with
  | next =>
   obtain ⟨σ', H', J', q⟩ := hsp
   exact wpAny_execs_nil ⟨σ', H', J'.ofTry ok, q⟩
  | brk =>
   obtain ⟨σ', H', J', q⟩ := hsp
   exact ⟨σ', H', J'.ofTry ok, q⟩
  | cont =>
   obtain ⟨σ', H', J', q⟩ := hsp
   exact ⟨σ', H', J'.ofTry ok, q⟩
  | ret u =>
   obtain ⟨v, σ', H', J', r, q⟩ := hsp
   exact ⟨v, σ', H', J'.ofTry ok, r, q⟩
end
def unI (i : Nat) : Fl → Fl
 | .nx eta => .nx Yem
 | .rt w => .rt w
 | .bk eta => .bk Yem
 | .ct eta => .ct Yem
/-- clauses: the class whose errors one takes (which other classes it lets by), its suite -/
abbrev Cl := Str × (Str → Option Bool) × (Ex → M Fl)
def clsL (i : Nat) (e : Ex) (eta : IS) (h : IH) : List Cl → Res Fl
 | [] => .er e eta h
 | (c, hit, S) :: r => match hit e.cls with
  | some true => if e.cls = c ∧ i < eta.length then (match S e Yem h with | .ok fl h' => .ok (unI i fl) h' | _ => .bad) else .bad
  | some false => clsL i e eta h r
  | none => .bad
def mTryAs (i : Nat) (B : M Fl) (l : List Cl) : M Fl := fun eta hp => match B eta hp with
 | .er e eta' h => clsL i e eta' h l
 | r => r
inductive ClsA (X : Cx) (n : Str) (i : Nat) : List ExceptHandler → List Cl → List Yak → Prop
 | nil : ClsA X n i [] [] []
 | cons {x : Str} {cv : Value} {c : Str} {hit : Str → Option Bool} {S : Ex → M Fl} {b₀ : Stmt} {suite : List Stmt} {np pos' : Pos} {hds : List ExceptHandler} {l : List Cl} {tl : List (Value × (Addr → Value → Option Addr → TS))} (hc : Names X x cv) (ht : HitOk X.K cv hit)
   (hsu : ∀ (a : Addr) (oe : Obj) (cls : Value) (d : Option Addr) (pn : List (Addr × Obj)), Zc cls d oe → (∃ vs, oe.data = .fields vs) → XSs X a oe cls d pn i c (b₀ :: suite) S) (r : ClsA X n i hds l tl) :
   ClsA X n i Yeb ((c, hit, S) :: l) ((cv, fun a cls d => fun D σ H => tXM X.K X.w (RFl X.K) a cls d i c S σ H (endQ D)) :: tl)
theorem ClsA.hds {X : Cx} {n : Str} {i : Nat} : ∀ {hds : List ExceptHandler} {l : List Cl} {tl : List (Value × (Addr → Value → Option Addr → TS))}, ClsA X n i hds l tl → HdsA X n hds tl
 | _, _, _, .nil => .nil
 | _, _, _, .cons hc _ hsu r => .cons hc hsu r.hds
section
variable {X : Cx} {Wx : WX} {n : Str} {i : Nat} {body : List Stmt} {h₀ : ExceptHandler} {hds : List ExceptHandler} {pos : Pos} {B : M Fl} {l : List Cl} {tl : List Yak}
theorem cls_go {D : Ends} {s s' : S4} {e : Ex} {eta : IS} {σ : L2.St} {h : IH} {cls : Value} {d : Option Addr} (h1 : s'.hp = h) (h2 : Aft s s') (h3 : Rel X.K X.w s') (h4 : Sl X.K s' eta σ) (h5 : ExR X.K s' e cls d) :
  ∀ {hds : List ExceptHandler} {l : List Cl} {tl : List (Value × (Addr → Value → Option Addr → TS))}, ClsA X n i hds l tl → Go X.K X.w Wx (RFl X.K) s (clsL i e eta h l) (endQ D) → wManyA X.K i Wx D tl cls d σ s'.H := by
 intro hds l tl k
 induction k with
 | nil => exact fun g => g s' σ cls d h1 h2 h3 h4 h5
 | @cons x cv c hit S b₀ suite np pos' hds l tl hc ht hsu r ih =>
  intro g
  obtain ⟨C, ec, cn, _⟩ := id h5
  unfold clsL at g
  split at g
  ·rename_i hh
   split at g
   ·rename_i hlt
    refine ⟨true, by rw [ec]; exact ht _ _ _ hh cn, fun _ a na => ⟨by rw [List.getElem?_set_self (by rw [← h4.1]; exact hlt.2)], e, s', eta.set i none, rfl, h3, h4.unset i _, hlt.1, h5, ?_⟩, fun z => by cases z⟩
    rw [h1]
    cases hS : S e (eta.set i none) h with
    | er _ _ _ => rw [hS] at g; exact g.elim
    | bad => rw [hS] at g; exact g.elim
    | ok fl h' =>
     rw [hS] at g
     intro fv s2 q1 q2 q3 q4
     cases fl with
     | nx eta2 =>
      cases fv with
      | nx o => exact g (.nx (o.set i none)) s2 q1 (h2.trans q2) q3 (Sl.unset q4 i none)
      | rt _ => exact q4.elim
      | bk _ => exact q4.elim
      | ct _ => exact q4.elim
     | rt w =>
      cases fv with
      | rt v => exact g (.rt v) s2 q1 (h2.trans q2) q3 q4
      | nx _ => exact q4.elim
      | bk _ => exact q4.elim
      | ct _ => exact q4.elim
     | bk eta2 =>
      cases fv with
      | bk o => exact g (.bk (o.set i none)) s2 q1 (h2.trans q2) q3 (Sl.unset q4 i none)
      | rt _ => exact q4.elim
      | nx _ => exact q4.elim
      | ct _ => exact q4.elim
     | ct eta2 =>
      cases fv with
      | ct o => exact g (.ct (o.set i none)) s2 q1 (h2.trans q2) q3 (Sl.unset q4 i none)
      | rt _ => exact q4.elim
      | bk _ => exact q4.elim
      | nx _ => exact q4.elim
   ·exact g.elim
  ·rename_i hh
   exact ⟨false, by rw [ec]; exact ht _ _ _ hh cn, fun z => (by cases z), fun _ => ih g⟩
  ·exact g.elim
theorem st_tryAs (hs : X.stack = X.env :: X.outer) (hf : X.env.frame = some X.env.locals) (hN : X.N.Nodup) (hi : X.N[i]? = some n) (hln : X.env.kindOf n = some .local) (tk : L2.Takes X Wx)
  (hb : ∀ (W : WX) (pn : List (Addr × Obj)) (xe : Value → Shared → Prop), L2.Takes (X.tr pn xe) W → PassesOwn Yaa X.A X.env xe → ISs (X.tr pn xe) W body B)
  (hh : ClsA X n i (h₀ :: hds) l tl) : ISt X Wx (.Try body (h₀ :: hds) [] [] pos) (mTryAs i B l) :=
 PS.imp (ps_try_manyA (tb := fun W => tS X.K X.w W B) hs hf hN hi hln tk hb hh.hds) fun D σ H h => by
  obtain ⟨s, eta, e1, R1, S1, g⟩ := h
  refine ⟨s, eta, e1, R1, S1, ?_⟩
  unfold mTryAs at g
  cases hB : B eta s.hp with
  | ok fl hp => rw [hB] at g; exact g
  | bad => rw [hB] at g; exact g
  | er e eta' h =>
   rw [hB] at g
   intro s' σ' cls d h1 h2 h3 h4 h5
   exact cls_go h1 h2 h3 h4 h5 hh g
end
section
variable {K : PySem.W.Frag} {C D : Addr} {b : Bool} {c t o : Str} {n : String}
theorem cv_cls (nX : CN K t D) (kt : PySem.W.kitOne K (.ref C) (.ref D) = some b) : ∀ cv, CVal K (.inr t) cv → PySem.W.kitOne K (.ref C) cv = some b := fun cv ⟨C', e, n⟩ => by
 subst e
 cases n.inj nX
 exact kt
theorem kt_ofb {t : Value} (hd : PySem.W.hasDictIn K C = true) (ty : PySem.W.typeIn K (.ref C) = some (.type "type")) (s : PySem.W.subIn K t (.ref C) = some b) (ne : (t == .ref C) = false) : PySem.W.kitOne K t (.ref C) = some b := by
 obtain ⟨cd, hc, _⟩ := PySem.W.any_some hd
 unfold PySem.W.kitOne
 rw [ne, if_neg Yaz]
 show (if _ then _ else _) = _
 rw [if_pos (by rw [hc, ty]; rfl)]
 exact s
theorem ne_ofb (h : C ≠ D) : ((Value.ref C) == .ref D) = false := Bool.eq_false_iff.mpr fun q => h (Value.ref.inj (beq_iff_eq.mp q))
end
end Mir
namespace Mir
open PySem PySem.Spec L2
open PyProof.Rows hiding St
section
variable {P : Program} {w : World} {A : Around} {E : Value → Shared → Prop} {s : Shared}
/-- at a stands the set of the tuples L, with room to spare -/
structure SetGr (P : Program) (w : World) (h : Heap) (a : Addr) (L : List (Addr × List Key)) (es : Array (Int × Value)) (ep : Nat) (t : SetTable) : Prop where
 ob : ∃ o, h.get? a = some o ∧ o.ExactSet ∧ o.data = .set es ep t
 rows : es.toList = L.map fun p => (hK P w p.2, Value.ref p.1)
 tab : TabOk t (L.map fun p => hK P w p.2)
 nd : (L.map (·.2)).Nodup
 tup : ∀ p ∈ L, IsK P w h p.2 p.1
 room : L.length * 5 < t.mask * 3
 few : L.length < 64
variable {a : Addr} {L : List (Addr × List Key)} {es : Array (Int × Value)} {ep : Nat} {t : SetTable}
theorem SetGr.size (R : SetGr P w s.heap a L es ep t) : es.size = L.length := by
 rw [← Array.length_toList, R.rows, List.length_map]
theorem SetGr.at_ (R : SetGr P w s.heap a L es ep t) {i : Nat} {p : Addr × List Key} (h : L[i]? = some p) : es[i]? = some (hK P w p.2, Value.ref p.1) := by
 rw [← Array.getElem?_toList, R.rows, List.getElem?_map, h]
 rfl
end
end Mir
namespace Mir
open PySem PySem.Spec L2
open PyProof.Rows hiding St
/-- a step made n times over nothing -/
def recN (S : OpN → OpN) : Nat → OpN
 | 0 => fun _ _ => .bad
 | n + 1 => S (recN S n)
theorem recN_len {S : OpN → OpN} {m : Nat} (h : ∀ G ws hp, ws.length ≠ m → S G ws hp = .bad) : ∀ (k : Nat) ws hp, ws.length ≠ m → recN S k ws hp = .bad
 | 0, _, _, _ => rfl
 | k + 1, ws, hp, e => h (recN S k) ws hp e
section
variable {P : Program} {w : World} {K : PySem.W.Frag} {mg : Str → Option Value} {base : Heap} {f : Addr} {fd : FuncData} {ps : List Str}
theorem fnG_bot {k m : Nat} {CX : CXT} (hp : m = ps.length) : FnG P w K mg base CX k f fd ps (spM K w (fun _ _ => .bad) m) :=
 ⟨fun vs H Q E h => hp ▸ spM_len h, fun A outer s H args us vs Q E hr hg e0 hb r h => by
  obtain ⟨_, _, _, _, _, _, g⟩ := h
  exact g.elim⟩
theorem fnG_rec {S : OpN → OpN} {L m : Nat} {CX : CXT} (hS : ∀ G ws hp, ws.length ≠ m → S G ws hp = .bad)
  (step : ∀ (G : OpN) (r : Nat), (∀ ws hp, ws.length ≠ m → G ws hp = .bad) → FnG P w K mg base CX (L + r) f fd ps (spM K w G m) → FnG P w K mg base CX (L + r + 1) f fd ps (spM K w (S G) m)) (hp : m = ps.length) :
  ∀ n, FnG P w K mg base CX (L + n) f fd ps (spM K w (recN S n) m)
 | 0 => fnG_bot hp
 | n + 1 => step (recN S n) n (recN_len hS n) (fnG_rec hS step hp n)
end
section
variable {X : Cx} {a : Addr} {oe : Obj} {cls : Value} {d : Option Addr} {pn : List Ycz} {i : Nat} {c : Str} {n : Str} {p p2 pos : Pos} {e2 : Expr}
def rIsXT (K : PySem.W.Frag) (a C : Addr) (d : Option Addr) : List V → Hp → VK → Prop := fun xs H Q => ∃ (tp : Addr) (us : List Value) (b : Bool), xs = [.ref a, .ref tp] ∧ ((∃ o cs, H tp = some (.frz o (.tup cs)) ∧ Paired ClsV cs us) ∨ ∃ dd m sl, K.lookup tp = some ⟨.type "tuple", dd, .seq us.toArray m, sl⟩) ∧ PySem.W.kitAny K (.ref C) us = some b ∧ (d = none ∨ ∃ dd fs, d = some dd ∧ H dd = some (.xd fs)) ∧ Q (.bl b) H
theorem call_isXT {C : Addr} (x : XcF X.K C) (hz : Zc (.ref C) d oe) (hf : ∃ vs, oe.data = .fields vs) : CallR Y1 Ye3 (rIsXT X.K a C d) := by
 intro pins s σ H xs us Q I r h
 obtain ⟨tp, ws, b, rfl, ht, e, hd, q⟩ := h
 obtain ⟨u1, u2, rfl, r1, r2⟩ := vals2 r
 cases (show u1 = Value.ref a from r1)
 cases (show u2 = Value.ref tp from r2)
 obtain ⟨hget, _⟩ := I.pin (a, oe) (List.mem_append.mpr (.inl List.mem_cons_self))
 obtain ⟨vs, hv⟩ := hf
 have J : ∃ od, PySem.W.InstAt s.heap a oe C od := by
  rcases hd with hd | ⟨dd, fs, ed, eH⟩
  ·subst hd
   refine ⟨none, ?_⟩
   obtain ⟨oc, od, oda, osl⟩ := oe
   obtain ⟨h1, h2⟩ := hz
   dsimp only at h1 h2 hv
   subst h1 h2 hv
   exact ⟨hget, rfl, rfl, trivial⟩
  ·subst ed
   have hx : ObjOk X.prog X.w H s.heap dd (.xd fs) := I.hok dd _ eH
   obtain ⟨mA, hns, hr⟩ := hx
   obtain ⟨od, ho, hl⟩ := lookIn_ns hns
   exact ⟨some od, hget, hz.1, by unfold PySem.W.notCls; rw [hv] <;> rfl, by rw [hz.2]; exact ho⟩
 obtain ⟨od, J⟩ := J
 have T : ∃ dd m sl, s.heap.get? tp = some ⟨.type "tuple", dd, .seq ws.toArray m, sl⟩ := by
  rcases ht with ⟨o, cs, hT, k⟩ | ⟨dd, m, sl, lk⟩
  ·obtain ⟨_, _, its, rv, o1, h1, h2, m, h3⟩ := (show ObjOk X.prog X.w H s.heap tp (.frz o (.tup cs)) from I.hok tp _ hT)
   have e3 := ClsV.all k rv
   subst e3
   obtain ⟨oc, od, dt, sl⟩ := o1
   simp only at h2 h3
   subst h2 h3
   exact ⟨_, _, _, h1⟩
  ·exact ⟨dd, m, sl, I.kIn _ _ lk⟩
 obtain ⟨dd, m, sl, T⟩ := T
 exact PySem.W.kia_tup (PySem.W.kitx_exc x.cl x.ga x.gg x.exC x.ha x.hn x.ht x.hm) I.kIn J T e (fun z => nomatch z) fun tk => ⟨.bl b, H, I.kept (t' := tk) fun _ _ z => z, rfl, q⟩
/-- isinstance(e, (C, ..)): the classes are known, so is the answer -/
def mXIt (ds : List CT) (b : Bool) (F : M W) : M W := fun eta hp => (F eta hp).bind fun w h => match w with
 | .t (.tup cs) => if clCs cs = some ds then .ok Yc0 h else .bad
 | _ => .bad
theorem kx_nil {K : PySem.W.Frag} {C : Addr} : ∀ us, Paired (CVal K) [] us → PySem.W.kitAny K (.ref C) us = some false := fun us h => by cases h; rfl
theorem kx_f {K : PySem.W.Frag} {C : Addr} {ct : CT} {ds : List CT} {b : Bool} (h1 : ∀ cv, CVal K ct cv → PySem.W.kitOne K (.ref C) cv = some false) (h2 : ∀ us, Paired (CVal K) ds us → PySem.W.kitAny K (.ref C) us = some b) : ∀ us, Paired (CVal K) (ct :: ds) us → PySem.W.kitAny K (.ref C) us = some b := fun us h => by
 cases h with
 | cons q p =>
  unfold PySem.W.kitAny
  rw [h1 _ q]
  exact h2 _ p
theorem xe_isiT {C : Addr} {ds : List CT} {b : Bool} {F : M W} (cn : CN X.K c C) (x : XcF X.K C) (hz : Zc cls d oe) (hf : ∃ vs, oe.data = .fields vs) (htab : ∀ us, Paired (CVal X.K) ds us → PySem.W.kitAny X.K (.ref C) us = some b)
  (h2 : IE Y1 W0 e2 F) (hm : X.mg "isinstance" = none) (hN : X.N[i]? = some n := by rfl) (hv : Vis X.env.scope n := by first | exact Or.inl rfl | exact Or.inr (Or.inl rfl) | exact Or.inr (Or.inr rfl)) (hd : (n == ("__debug__" : Str)) = false := by decide) (hcd : (n == ("__classdict__" : Str)) = false := by decide)
  (hg : Gl Y1 "isinstance" := by rfl)
  (he : starEach [.Name n p, e2] X.env = (false, eval (.Name n p) X.env) :: starEach [e2] X.env := by rfl) (he2 : starEach [e2] X.env = (false, eval e2 X.env) :: starEach [] X.env := by rfl) (hpl : (backTo pos (starEach [e2] X.env)).any (·.1) = false := by rfl) :
  XE X a oe cls d pn i c (.Call (.Name "isinstance" p2) [.Name n p, e2] [] pos) (fun _ => mXIt ds b F) := by
 refine ⟨fun pins s σ H Q I h => ?_⟩
 obtain ⟨e0, ex, s0, eta, e1, R1, S1, ec, er, g⟩ := h
 subst e1
 obtain ⟨C', eC, cn', er'⟩ := id er
 rw [ec] at cn'
 cases cn'.inj cn
 subst eC
 refine (pe_callB (X := X.suite a ((a, oe) :: pn)) (call_isXT (d := d) x hz hf) hg hm Ybs (pa_cons Ybr (pa_cons h2 pa_nil he2) he) Yaz Yaz he hpl).run pins s σ s0.H Q I ⟨_, e0, s0, eta, rfl, R1, S1, Go.bind g fun w v s' q2 q3 q4 _ g' => ?_⟩
 have nl := er.nl R1
 have er2 := er.aft q2 R1 nl
 split at g'
 ·rename_i cs
  split at g'
  ·rename_i hc
   have q5 := g' (.bl b) s' rfl (Aft.refl s') q3 Yf
   simp only [Rw, Rf] at q4
   obtain ⟨tp, vs, rfl, f, l⟩ := q4
   obtain ⟨us, p1, p2⟩ := cls_at hc l
   refine ⟨tp, us, b, rfl, ?_, htab us p2, ?_, ?_⟩
   ·rcases f with ⟨_, o, hH, _⟩ | ⟨o, its, m, k1, k2, _, k3, _, k4⟩
    ·exact .inl ⟨o, vs, hH, p1⟩
    ·have e3 := ClsV.all p1 k4
     obtain ⟨oc, od, dt, sl⟩ := o
     simp only at k2 k3
     subst k2 k3
     exact .inr ⟨od, m, sl, by rw [k1, ← e3]⟩
   ·obtain ⟨_, _, _, h⟩ := er2
    rcases h with ⟨_, h⟩ | ⟨dd, vs, h1, h2, _⟩
    ·exact .inl h
    ·exact .inr ⟨dd, vs, h1, h2⟩
   ·exact q5
  ·exact g'.elim
 ·exact g'.elim
end
end Mir
namespace Mir
open PySem PySem.Spec L2
open PyProof.Rows hiding St
/-- the run ends well, with a value and a heap of which Q holds -/
structure Wp {A : Type} (r : Res A) (Q : A → IH → Prop) : Prop where
 out : match r with
  | .ok a h => Q a h
  | _ => False
section
variable {A B : Type} {r : Res A} {k : A → IH → Res B} {P Q : A → IH → Prop} {R : B → IH → Prop} {a : A} {h hp : IH}
theorem Wp.ok (q : Q a h) : Wp (.ok a h) Q := ⟨q⟩
theorem Wp.ex (q : Wp r Q) : ∃ a h, r = .ok a h ∧ Q a h := by
 obtain ⟨q⟩ := q
 cases r <;> first | exact ⟨_, _, rfl, q⟩ | exact q.elim
theorem Wp.bind (q : Wp r fun a h => Wp (k a h) R) : Wp (r.bind k) R := by
 obtain ⟨a, h, rfl, q2⟩ := q.ex
 exact q2
theorem Wp.noEr (q : Wp r Q) : Wp (noEr r) Q := by
 obtain ⟨a, h, rfl, q2⟩ := q.ex
 exact Wp.ok q2
theorem Wp.mono (q : Wp r P) (i : ∀ a h, P a h → Q a h) : Wp r Q := by
 obtain ⟨a, h, rfl, q2⟩ := q.ex
 exact Wp.ok (i _ _ q2)
theorem Wp.of (e : r = .ok a h) (q : Q a h) : Wp r Q := by rw [e]; exact Wp.ok q
theorem Wp.rw {r' : Res A} (e : r = r') (q : Wp r' Q) : Wp r Q := by rw [e]; exact q
theorem Wp.itt {c : Prop} [Decidable c] {x y : Res A} (hc : c) (t : Wp x Q) : Wp (if c then x else y) Q := by rw [if_pos hc]; exact t
theorem Wp.itf {c : Prop} [Decidable c] {x y : Res A} (hc : ¬ c) (t : Wp y Q) : Wp (if c then x else y) Q := by rw [if_neg hc]; exact t
end
section
variable {eta : IS} {hp : IH} {Q : W → IH → Prop} {QL : List W → IH → Prop} {QB : Bool → IH → Prop} {QF : Fl → IH → Prop}
theorem zba {i : Nat} {w : W} (e : eta[i]? = some (some w)) (q : Q w hp) : Wp (mVar i eta hp) Q := Wp.of (varP e) q
theorem vc_c {x : T} (q : Q (.t x) hp) : Wp (mC x eta hp) Q := Wp.ok q
theorem vc_bin {f : Op2} {Fa Fb : M W} (q : Wp (Fa eta hp) fun a h1 => Wp (Fb eta h1) fun b h2 => Wp (f a b h2) Q) : Wp (mBin f Fa Fb eta hp) Q := Wp.bind (q.mono fun _ _ q => Wp.bind q)
theorem vc_un {f : Op1} {Fa : M W} (q : Wp (Fa eta hp) fun a h1 => Wp (f a h1) Q) : Wp (mUn f Fa eta hp) Q := Wp.bind q
theorem zbc (q : QL [] hp) : Wp (mNil eta hp) QL := Wp.ok q
theorem zal {Fa : M W} {Fr : M (List W)} (q : Wp (Fa eta hp) fun a h1 => Wp (Fr eta h1) fun r h2 => QL (a :: r) h2) : Wp (zab Fa Fr eta hp) QL := Wp.bind (q.mono fun _ _ q => Wp.bind Yci)
theorem zcf {f : OpN} {Fs : M (List W)} (q : Wp (Fs eta hp) fun ws h1 => Wp (f ws h1) Q) : Wp (mApp f Fs eta hp) Q := Wp.bind q
theorem vc_test {f : W → IH → Res Bool} {F : M W} (q : Wp Ycy fun a h1 => Wp (f a h1) QB) : Wp (zaj f F eta hp) QB := Wp.bind q
theorem vc_asB {b : Bool} (q : QB b hp) : Wp (asB Yc0 hp) QB := Wp.ok q
theorem vc_and {U V : M Bool} (q : Wp (U eta hp) fun a h1 => Wp (if a then V eta h1 else .ok false h1) QB) : Wp (mAnd U V eta hp) QB := Wp.bind q
theorem vc_or {U V : M Bool} (q : Wp (U eta hp) fun a h1 => Wp (if a then .ok true h1 else V eta h1) QB) : Wp (mOr U V eta hp) QB := Wp.bind q
theorem vc_not {U : M Bool} (q : Wp (U eta hp) fun a h1 => QB (!a) h1) : Wp (mNot U eta hp) QB := Wp.bind Yci
theorem vc_if {A : Type} {QA : A → IH → Prop} {U : M Bool} {F G : M A} (q : Wp (U eta hp) fun b h1 => Wp (if b then F eta h1 else G eta h1) QA) : Wp (mIf U F G eta hp) QA := Wp.bind q
theorem zbq (q : QF Ycc hp) : Wp (zcl eta hp) QF := Wp.ok q
theorem zap {S R : M Fl} (q : Wp (S eta hp) fun fl h1 => Wp (thenF R fl h1) QF) : Wp (mSeq S R eta hp) QF := Wp.bind q
theorem za6 {R : M Fl} {e : IS} (q : Wp (R e hp) QF) : Wp (thenF R (.nx e) hp) QF := q
theorem vc_rt {R : M Fl} {w : W} (q : QF (.rt w) hp) : Wp (thenF R (.rt w) hp) QF := Wp.ok q
theorem zb0 {F : M W} (q : Wp Ycy fun a h1 => QF (.rt a) h1) : Wp (mRet F eta hp) QF := Wp.bind Yci
theorem vc_drop {F : M W} (q : Wp Ycy fun _ h1 => QF Ycc h1) : Wp (mDrop F eta hp) QF := Wp.bind Yci
theorem zbd {i : Nat} {F : M W} (q : Wp Ycy fun a h1 => QF (.nx Yc6) h1) : Wp (mSet i F eta hp) QF := Wp.bind Yci
theorem vc_asg {F : M W} {G : W → IS → Option IS} (q : Wp Ycy fun a h1 => ∃ e, G a eta = some e ∧ QF (.nx e) h1) : Wp (mAsg F G eta hp) QF := Wp.bind (q.mono fun a h1 ⟨e, he, q⟩ => by show Wp (match G a eta with | some e => .ok (.nx e) h1 | none => .bad) QF; rw [he]; exact Wp.ok q)
theorem vc_par2 {i j : Nat} {Fs : M (List W)} (q : Wp (Fs eta hp) fun ws h1 => ∃ a b, ws = [a, b] ∧ QF (.nx ((eta.set i (some a)).set j (some b))) h1) : Wp (mPar [i, j] Fs eta hp) QF := Wp.bind (q.mono fun ws h1 ⟨a, b, he, q⟩ => by subst he; exact Wp.ok q)
theorem vc_parG {n : Nat} {Fs : M (List W)} {Gs : List W → IS → Option IS} (q : Wp (Fs eta hp) fun ws h1 => (ws.length = n ∧ n ≤ 16777216) ∧ ∃ e, Gs ws eta = some e ∧ QF (.nx e) h1) : Wp (mParG n Fs Gs eta hp) QF := Wp.bind (q.mono fun ws h1 ⟨hl, e, he, q⟩ => by
 show Wp (if ws.length = n ∧ n ≤ 16777216 then (match Gs ws eta with | some e => .ok (.nx e) h1 | none => .bad) else .bad) QF
 rw [if_pos hl, he]
 exact Wp.ok q)
theorem vc_for {Fi : M (List W)} {G : W → IS → Option IS} {S : M Fl} (q : Wp (Fi eta hp) fun ws h1 => Wp (forL G S ws eta h1) QF) : Wp (mFor Fi G S eta hp) QF := Wp.bind q
theorem vc_sq {F : M W} (q : Wp Ycy fun a h1 => Wp (sqI a h1) QL) : Wp (mSq F eta hp) QL := Wp.bind q
theorem vc_src {f : List W → IH → Res (List W)} {Fs : M (List W)} (q : Wp (Fs eta hp) fun ws h1 => Wp (f ws h1) QL) : Wp (mSrc f Fs eta hp) QL := Wp.bind q
theorem vc_call {f : OpN} {Fs : M (List W)} (q : Wp (Fs eta hp) fun ws h1 => Wp (f ws h1) Q) : Wp (zan f [] Fs eta hp) Q := Wp.bind (q.mono fun ws h1 q => by
 show Wp (noEr (f (ws ++ [].map W.t) h1)) Q
 rw [List.map_nil, List.append_nil]
 exact Wp.noEr q)
theorem vc_callD {f : OpN} {ds : List T} {Fs : M (List W)} (q : Wp (Fs eta hp) fun ws h1 => Wp (f (ws ++ ds.map W.t) h1) Q) : Wp (zan f ds Fs eta hp) Q := Wp.bind (q.mono fun ws h1 q => Wp.noEr q)
theorem vc_meth {ty : W → IH → Bool} {f : OpM} {Fo : M W} {Fs : M (List W)} (q : Wp (Fo eta hp) fun w h1 => ty w h1 = true ∧ Wp (Fs eta h1) fun ws h2 => Wp (f w ws h2) Q) : Wp (mMeth ty f Fo Fs eta hp) Q := Wp.bind (q.mono fun w h1 ⟨t, q⟩ => by
 show Wp (if ty w h1 = true then (Fs eta h1).bind fun ws h2 => f w ws h2 else .bad) Q
 rw [if_pos t]
 exact Wp.bind q)
theorem vc_sl {Fa : M W} {Fl Fh : MO} (q : Wp (Fa eta hp) fun a h1 => Wp (Fl eta h1) fun l h2 => Wp (Fh eta h2) fun h h3 => Wp (slW a l h h3) Q) : Wp (mSl Fa Fl Fh eta hp) Q := Wp.bind Ye7
theorem vc_slL {Fa : M W} {Fl Fh : MO} (q : Wp (Fa eta hp) fun a h1 => Wp (Fl eta h1) fun l h2 => Wp (Fh eta h2) fun h h3 => Wp (slL a l h h3) Q) : Wp (mSlL Fa Fl Fh eta hp) Q := Wp.bind Ye7
theorem vc_noPart {QO : Option Int → IH → Prop} (q : QO none hp) : Wp (zay eta hp) QO := Wp.ok q
theorem vc_part {QO : Option Int → IH → Prop} {F : M W} (q : Wp Ycy fun a h1 => ∃ i, a = .t (.int i) ∧ QO (some i) h1) : Wp (zbn F eta hp) QO := Wp.bind (q.mono fun a h1 ⟨i, e, q⟩ => by subst e; exact Wp.ok q)
theorem vc_fz {i : Nat} {S : M Fl} {w : W} (e : eta[i]? = some (some w)) (q : Wp (zbw w hp) fun w' h1 => Wp (S (eta.set i (some w')) h1) QF) : Wp (mFz i S eta hp) QF := by
 rw [p_fz, e]
 exact Wp.bind q
theorem vc_comp {fin : OpN} {Fi : M (List W)} {G : W → IS → Option IS} {U : M Bool} {E : M W} {vs : List Nat} (q : Wp (Fi eta hp) fun ws h1 => ws.length ≤ 16777216 ∧ Wp (zbv G U E (wipeI eta vs) ws h1) fun r h2 => Wp (fin r h2) Q) : Wp (zb1 fin Fi G U E vs eta hp) Q := Wp.bind (q.mono fun ws h1 ⟨hl, q⟩ => by
 show Wp (if ws.length ≤ 16777216 then (zbv G U E (wipeI eta vs) ws h1).bind fun r h2 => fin r h2 else .bad) Q
 rw [if_pos hl]
 exact Wp.bind q)
theorem vc_chain {f g : Op2} {Fa Fb Fc : M W} (q : Wp (Fa eta hp) fun a h1 => Wp (Fb eta h1) fun b h2 => Wp (f a b h2) fun z h3 => ∃ t, z = .t (.bl t) ∧ if t then Wp (Fc eta h3) fun c h4 => Wp (g b c h4) Q else Q (.t Ybc) h3) : Wp (mChain f g Fa Fb Fc eta hp) Q :=
 Wp.bind (q.mono fun _ _ q => Wp.bind (q.mono fun _ _ q => Wp.bind (q.mono fun z h3 ⟨t, e, q⟩ => by subst e; cases t <;> first | exact Wp.ok q | exact Wp.bind q)))
theorem vc_fld {cs : List Str} {f : Str} {F : M W} (q : Wp Ycy fun a h1 => Wp (fldW cs f a h1) Q) : Wp (mFld cs f F eta hp) Q := Wp.bind q
theorem vc_yes (q : QB true hp) : Wp (mYes eta hp) QB := Wp.ok q
theorem vc_lstE {ws : List W} {ts : List T} (e : allT ws = some ts) (hl : ts.length ≤ 16777216) (q : Q Yw hp) : Wp (zak ws hp) Q := by
 unfold zak
 simp only [e, hl, if_true]
 exact Wp.ok q
theorem vc_tupE {ws : List W} {ts : List T} (e : allT ws = some ts) (hl : ts.length ≤ 16777216) (q : Q Yae hp) : Wp (zce ws hp) Q := by
 unfold zce
 simp only [e, hl, if_true]
 exact Wp.ok q
theorem allT_ts : ∀ ts : List T, allT Yl = some ts
 | [] => rfl
 | t :: ts => by simp only [List.map_cons, allT, allT_ts ts]; rfl
theorem vc_lstM {ts : List T} (hl : ts.length ≤ 16777216) (q : Q Yw hp) : Wp (zak Yl hp) Q := vc_lstE (allT_ts ts) hl q
theorem vc_sqL {ts : List T} (q : QL Yl hp) : Wp (sqI Yw hp) QL := Wp.ok q
theorem vc_sqT {ts : List T} (q : QL Yl hp) : Wp (sqI Yae hp) QL := Wp.ok q
theorem vc_slWl {ts : List T} {lo hi : Option Int} (q : Q (.t (.lst Yd0)) hp) : Wp (slW Yw lo hi hp) Q := Wp.ok q
theorem vc_slWt {ts : List T} {lo hi : Option Int} (q : Q (.t (.tup Yd0)) hp) : Wp (slW Yae lo hi hp) Q := Wp.ok q
theorem vc_slLl {ts : List T} {lo hi : Option Int} (q : Q Yb9 (hp ++ [some (.lst (cutL Yl lo hi))])) : Wp (slL Yw lo hi hp) Q := Wp.ok q
/-- + of lists, live or not -/
theorem vc_addL {a b : W} {xs ys : List T} (ha : (hitems hp a) = some Yet) (hb : (hitems hp b) = some (ys.map W.t)) (hl : xs.length + ys.length ≤ 16777216) (q : Q Yfa hp) : Wp (wAdd a b hp) Q := by
 have key : wAdd a b hp = (match (hitems hp a).bind allT, (hitems hp b).bind allT with
  | some xs, some ys => if xs.length + ys.length ≤ 16777216 then .ok Yfa hp else .bad
  | _, _ => .bad) := by
  cases a with
  | t x => cases x <;> first | rfl | (simp [hitems] at ha)
  | r i => rfl
 rw [key, ha, hb, Option.bind_some, Option.bind_some, allT_ts, allT_ts]
 simp only [hl, if_true]
 exact Wp.ok q
theorem vc_sm {f : OpM} {Fo Fe : M W} (q : Wp (Fo eta hp) fun w h1 => ∃ a, w = .t (.str a) ∧ Wp (Fe eta h1) fun u h2 => Wp (f Yea [u] h2) Q) : Wp (mSM f Fo Fe eta hp) Q := Wp.bind (q.mono fun w h1 ⟨a, e, q⟩ => by subst e; exact Wp.bind q)
theorem vc_frz {F : M W} (q : Wp Ycy fun a h1 => Wp (zbw a h1) Q) : Wp (mFrz F eta hp) Q := Wp.bind q
theorem vc_frzD {F : M W} (q : Wp Ycy fun a h1 => Wp (freezeD a h1) Q) : Wp (mFrzD F eta hp) Q := Wp.bind q
/-- a comprehension that changes no heap: each is kept or not, and told -/
theorem vc_mapG {A : Type} {G : W → IS → Option IS} {U : M Bool} {E : M W} {src : A → W} {p : A → Bool} {g : A → T} : ∀ (as : List A), (∀ a ∈ as, ∃ e1, G (src a) eta = some e1 ∧ U e1 hp = .ok (p a) hp ∧ (p a = true → E e1 hp = .ok (.t (g a)) hp)) → zbv G U E eta (as.map src) hp = .ok (((as.filter p).map g).map W.t) hp
 | [], _ => rfl
 | a :: as, h => by
  obtain ⟨e1, g1, u1, x1⟩ := h a Yan
  have ih := vc_mapG as fun b hb => h b Yd3
  simp only [List.map_cons, zbv, turnL, g1, noEr_bind, Res.bind_assoc, u1, zbp, zae, List.filter_cons]
  cases e : p a with
  | false => simp only [Bool.false_eq_true, if_false, zbp, zae, ih]
  | true => simp only [if_true, x1 e, zbp, zae, ih, List.map_cons]
theorem filter_tt {A : Type} : ∀ l : List A, l.filter (fun _ => true) = l := fun l => List.filter_eq_self.mpr fun _ _ => rfl
theorem vc_mapA {A : Type} {G : W → IS → Option IS} {E : M W} {src : A → W} {g : A → T} (as : List A) (h : ∀ a ∈ as, ∃ e1, G (src a) eta = some e1 ∧ E e1 hp = .ok (.t (g a)) hp) (q : QL ((as.map g).map W.t) hp) : Wp (zbv G mYes E eta (as.map src) hp) QL := by
 have := vc_mapG (U := mYes) (p := fun _ => true) as fun a ha => let ⟨e1, a1, a2⟩ := h a ha; ⟨e1, a1, rfl, fun _ => a2⟩
 rw [filter_tt] at this
 exact Wp.of this q
theorem vc_fnM {n nn : Nat} {B : M Fl} {ws : List W} {eta : IS} (hl : ws.length = n) (he : ws.map some ++ List.replicate (nn - n) none = eta) (q : Wp (B eta hp) fun fl h1 => ∃ w, fl = .rt w ∧ Q w h1) : Wp (fnM n nn B ws hp) Q := by
 obtain ⟨fl, h1, e, w, rfl, q⟩ := q.ex
 exact Wp.of (fnM_ok hl he e) q
theorem vc_fnP {n nn : Nat} {B : M Fl} {ts : List T} {eta : IS} (hl : ts.length = n) (he : (ts.map W.t).map some ++ List.replicate (nn - n) none = eta) (q : Wp (B eta []) fun fl _ => ∃ t, fl = .rt (.t t) ∧ Q (.t t) hp) : Wp (fnP n nn B Yl hp) Q := by
 obtain ⟨fl, h1, e, t, rfl, q⟩ := q.ex
 exact Wp.of (fnP_ok hl he e) q
/-- a loop: I holds ahead of each turn, of what is still to come -/
theorem vc_loop {G : W → IS → Option IS} {S : M Fl} (I : List W → IS → IH → Prop) (turn : ∀ w ws eta hp, I (w :: ws) eta hp → ∃ e1, G w eta = some e1 ∧ Wp (S e1 hp) fun fl h => ∃ e, fl = .nx e ∧ I ws e h) : ∀ (ws : List W) (eta : IS) (hp : IH), I ws eta hp → (∀ e h, I [] e h → QF (.nx e) h) → Wp (forL G S ws eta hp) QF
 | [], eta, hp, i, q => Wp.ok (q _ _ i)
 | w :: ws, eta, hp, i, q => by
  obtain ⟨e1, g, t⟩ := turn w ws eta hp i
  obtain ⟨fl, h, e, e2, rfl, i2⟩ := t.ex
  have r := vc_loop I turn ws e2 h i2 q
  simp only [forL, g]
  rw [e, zae]
  exact r
/-- a comprehension: acc is what has been gathered -/
theorem vc_compL {G : W → IS → Option IS} {U : M Bool} {E : M W} (I : List W → List W → IH → Prop) (turn : ∀ w ws acc hp, I (w :: ws) acc hp → ∃ e1, G w eta = some e1 ∧ Wp (U e1 hp) fun b h1 => if b then Wp (E e1 h1) fun x h2 => I ws (acc ++ [x]) h2 else I ws acc h1) : ∀ (ws acc : List W) (hp : IH) (QL : List W → IH → Prop), I ws acc hp → (∀ r h, I [] (acc ++ r) h → QL r h) → Wp (zbv G U E eta ws hp) QL
 | [], acc, hp, QL, i, q => Wp.ok (q [] _ (by rw [List.append_nil]; exact i))
 | w :: ws, acc, hp, QL, i, q => by
  obtain ⟨e1, g, t⟩ := turn w ws acc hp i
  obtain ⟨b, h1, eb, t⟩ := t.ex
  simp only [zbv, turnL, g, noEr_bind, Res.bind_assoc, eb, zbp, zae]
  cases b with
  | false =>
   have := vc_compL I turn ws acc h1 QL (by simpa using t) q
   simp only [Bool.false_eq_true, if_false, zbp, zae]
   exact Wp.bind (this.mono fun _ _ q => Wp.ok q)
  | true =>
   simp only [if_true] at t ⊢
   obtain ⟨x, h2, ex, i2⟩ := t.ex
   have := vc_compL I turn ws (acc ++ [x]) h2 (fun r h => QL (x :: r) h) i2 fun r h i => q (x :: r) h (by rw [List.append_assoc] at i; exact i)
   simp only [ex, zbp, zae]
   exact Wp.bind (this.mono fun _ _ q => Wp.ok q)
end
end Mir
namespace Mir
open PySem PySem.Spec L2
open PyProof.Rows hiding St
/-- the run ends well (then Q) or with an error (then E) -/
structure Wq {A : Type} (r : Res A) (Q : A → IH → Prop) (E : Ex → IS → IH → Prop) : Prop where
 out : match r with
  | .ok a h => Q a h
  | .er e eta h => E e eta h
  | .bad => False
section
variable {A B : Type} {r : Res A} {k : A → IH → Res B} {P Q : A → IH → Prop} {R : B → IH → Prop} {a : A} {h hp : IH} {E E' : Ex → IS → IH → Prop} {e : Ex} {eta : IS}
theorem Wq.ok (q : Q a h) : Wq (.ok a h) Q E := ⟨q⟩
theorem Wq.er (q : E e eta h) : Wq (.er e eta h : Res A) Q E := ⟨q⟩
theorem Wq.of (q : Wp r Q) : Wq r Q E := by
 obtain ⟨a, h, rfl, q'⟩ := q.ex
 exact Wq.ok q'
theorem Wq.eqOk (e : r = .ok a h) (q : Q a h) : Wq r Q E := by rw [e]; exact Wq.ok q
theorem Wq.eqEr (x : r = .er e eta h) (q : E e eta h) : Wq r Q E := by rw [x]; exact Wq.er q
theorem Wq.cases (q : Wq r Q E) : (∃ a h, r = .ok a h ∧ Q a h) ∨ ∃ e eta h, r = .er e eta h ∧ E e eta h := by
 obtain ⟨q⟩ := q
 cases r with
 | ok a h => exact .inl ⟨a, h, rfl, q⟩
 | er e eta h => exact .inr ⟨e, eta, h, rfl, q⟩
 | bad => exact q.elim
theorem Wq.mono (q : Wq r P E) (i : ∀ a h, P a h → Q a h) (j : ∀ e eta h, E e eta h → E' e eta h) : Wq r Q E' := by
 rcases q.cases with ⟨a, h, rfl, q'⟩ | ⟨e, eta, h, rfl, q'⟩
 ·exact Wq.ok (i _ _ q')
 ·exact Wq.er (j _ _ _ q')
theorem Wq.bind (q : Wq r (fun a h => Wq (k a h) R E) E) : Wq (r.bind k) R E := by
 rcases q.cases with ⟨a, h, rfl, q'⟩ | ⟨e, eta, h, rfl, q'⟩
 ·exact q'
 ·exact Wq.er q'
/-- nothing is raised -/
theorem Wq.wp (q : Wq r Q fun _ _ _ => False) : Wp r Q := by
 rcases q.cases with ⟨a, h, rfl, q'⟩ | ⟨e, eta, h, rfl, q'⟩
 ·exact Wp.ok q'
 ·exact q'.elim
theorem Wq.re (q : Wq r Q fun e _ h => E e eta h) : Wq (reEr eta r) Q E := by
 rcases q.cases with ⟨a, h, rfl, q'⟩ | ⟨e, eta, h, rfl, q'⟩
 ·exact Wq.ok q'
 ·exact Wq.er q'
end
section
variable {eta : IS} {hp : IH} {Q : W → IH → Prop} {QL : List W → IH → Prop} {QB : Bool → IH → Prop} {QF : Fl → IH → Prop} {E : Ex → IS → IH → Prop}
theorem wq_seq {S R : M Fl} (q : Wq (S eta hp) (fun fl h1 => Wq (thenF R fl h1) QF E) E) : Wq (mSeq S R eta hp) QF E := Wq.bind q
theorem wq_nx {R : M Fl} {e : IS} (q : Wq (R e hp) QF E) : Wq (thenF R (.nx e) hp) QF E := q
theorem wq_set {i : Nat} {F : M W} (q : Wq Ycy (fun a h1 => QF (.nx Yc6) h1) E) : Wq (mSet i F eta hp) QF E := Wq.bind (q.mono (fun _ _ q => Wq.ok q) fun _ _ _ q => q)
theorem wq_drop {F : M W} (q : Wq Ycy (fun _ h1 => QF Ycc h1) E) : Wq (mDrop F eta hp) QF E := Wq.bind (q.mono (fun _ _ q => Wq.ok q) fun _ _ _ q => q)
theorem wq_if {A : Type} {QA : A → IH → Prop} {U : M Bool} {F G : M A} {b : Bool} {h1 : IH} (u : U eta hp = .ok b h1) (t : b = true → Wq (F eta h1) QA E) (f : b = false → Wq (G eta h1) QA E) : Wq (mIf U F G eta hp) QA E := by
 show Wq ((U eta hp).bind _) QA E
 rw [u]
 cases b with
 | true => exact t rfl
 | false => exact f rfl
theorem wq_raise {c f : Str} {Fs : M (List W)} {w : W} {h1 : IH} (u : Fs eta hp = .ok [w] h1) (q : E ⟨c, [(f, w)]⟩ eta h1) : Wq (mRaise (mExc c f Fs) eta hp) QF E := by
 show Wq (((Fs eta hp).bind _).bind _) QF E
 rw [u]
 exact Wq.er q
theorem wq_fnX {n nn : Nat} {B : M Fl} {ws : List W} {eta : IS} (hl : ws.length = n) (he : ws.map some ++ List.replicate (nn - n) none = eta) (q : Wq (B eta hp) (fun fl h => (∃ w, fl = .rt w ∧ Q w h) ∨ ∃ e, fl = .nx e ∧ Q Yaw h) fun e _ h => E e [] h) : Wq (fnX n nn B ws hp) Q E := by
 unfold fnX
 rw [if_pos hl, he]
 rcases q.cases with ⟨fl, h, e, q⟩ | ⟨e, eta', h, x, q⟩
 ·rw [e]
  rcases q with ⟨w, rfl, q⟩ | ⟨e2, rfl, q⟩
  ·exact Wq.ok q
  ·exact Wq.ok q
 ·rw [x]
  exact Wq.er q
theorem wq_makeX {c : Str} {f : OpN} {ds : List T} {Fs : M (List W)} {ws : List W} {h1 : IH} (u : Fs eta hp = .ok ws h1) (q : Wq (f Yei (h1 ++ [some (.ins c [])])) (fun w h => w = .t .non ∧ Q (.r h1.length) h) fun e _ h => E e eta h) : Wq (mMakeX c f ds Fs eta hp) Q E := by
 unfold mMakeX
 rw [u]
 show Wq ((reEr eta _).bind _) Q E
 refine Wq.bind (Wq.re (q.mono (fun w h ⟨e, q⟩ => ?_) fun _ _ _ q => q))
 subst e
 exact Wq.ok q
theorem wq_frzI {F : M W} (q : Wq Ycy (fun a h1 => Wp (freezeI a h1) Q) E) : Wq (mFrzI F eta hp) Q E := Wq.bind (q.mono (fun _ _ q => Wq.of q) fun _ _ _ q => q)
theorem wq_cls {i : Nat} {c : Str} {hit : Str → Option Bool} {S : Ex → M Fl} {l : List Cl} {e : Ex} (hh : hit e.cls = some true) (hc : e.cls = c) (hi : i < eta.length) (q : Wp (S e Yem hp) fun fl h' => QF (unI i fl) h') : Wq (clsL i e eta hp ((c, hit, S) :: l)) QF E := by
 unfold clsL
 obtain ⟨fl, h', x, q⟩ := q.ex
 simp only [hh, if_pos (And.intro hc hi), x]
 exact Wq.ok q
theorem wq_tryAs {i : Nat} {B : M Fl} {l : List Cl} (q : Wq (B eta hp) QF fun e eta' h => Wq (clsL i e eta' h l) QF E) : Wq (mTryAs i B l eta hp) QF E := by
 unfold mTryAs
 rcases q.cases with ⟨fl, h, e, q⟩ | ⟨e, eta', h, x, q⟩
 ·rw [e]; exact Wq.ok q
 ·rw [x]; exact q
end
end Mir
namespace D
open PySem PySem.Spec L2 Mir
open PyProof.Rows hiding St
theorem exm_self {K : PySem.W.Frag} {S : Addr} (h1 : PySem.W.subIn K (.ref S) Ye4 = some true) (h2 : PySem.W.isClsIn K S = true) (h3 : PySem.W.typeIn K (.ref S) = some (.type "type")) (h4 : PySem.W.subIn K (.ref S) (.ref S) = some true) : PySem.W.exmOne K (.ref S) (.ref S) = some true := by
 have h2' : (PySem.W.clsIn K S).isSome = true := h2
 unfold PySem.W.exmOne
 simp [PySem.W.kitCls, h1, h2', h3, h4]
abbrev DFn (K : PySem.W.Frag) (x q : Str) (s : Stmt) (a : Addr) (d : FuncData) : Prop := FunD K x q (defArgs s) (defBody s) (defScope s) [] [] a d
def MDf (K : PySem.W.Frag) (x : Str) (s : Stmt) (a : Addr) (d : FuncData) : Prop := PySem.W.nsIn K mainGlobals x = some Yd2 ∧ DFn K x x s a d
def HDf (K : PySem.W.Frag) (C : Addr) (x q : Str) (s : Stmt) (a : Addr) (d : FuncData) : Prop := PySem.W.findIn K (.ref C) x = some Yd2 ∧ PySem.W.isFn K (.ref a) = true ∧ DFn K x q s a d
section
variable {K : PySem.W.Frag} {x q : Str} {s : Stmt} {C a : Addr} {d : FuncData}
theorem DFn.of {oc kV dc pm cd ct : Value} {od an : Option Addr} {sl : Array Yc4} (h1 : K.lookup a = some ⟨oc, od, .func Y9, sl⟩) (h2 : PySem.W.codeIn K cd q = true) (h3 : PySem.W.keepIn K (.ref a) = true) :
  DFn K x q s a Y9 := ⟨⟨oc, od, .none, kV, dc, pm, an, cd, ct, sl, rfl, h1, h2, .inl ⟨rfl, rfl⟩, .inl rfl⟩, h3⟩
theorem _root_.PyProof.Rows.FunD.kp {A : Arguments} {B : List Stmt} {S : Scope} {l : List V} {k : List Ydn} (h : FunD K x q A B S l k a d) : PySem.W.keepIn K (.ref a) = true := h.2
theorem MDf.of {oc kV dc pm cd ct : Value} {od an : Option Addr} {sl : Array Yc4} (h0 : PySem.W.nsIn K mainGlobals x = some Yd2) (h1 : K.lookup a = some ⟨oc, od, .func Ydt, sl⟩) (h2 : PySem.W.codeIn K cd x = true) (h3 : PySem.W.keepIn K (.ref a) = true) :
  MDf K x s a Ydt := ⟨h0, DFn.of h1 h2 h3⟩
theorem HDf.of {oc kV dc pm cd ct : Value} {od an : Option Addr} {sl : Array Yc4} (h0 : PySem.W.findIn K (.ref C) x = some Yd2) (h4 : PySem.W.isFn K (.ref a) = true) (h1 : K.lookup a = some ⟨oc, od, .func Y9, sl⟩) (h2 : PySem.W.codeIn K cd q = true) (h3 : PySem.W.keepIn K (.ref a) = true) :
  HDf K C x q s a Y9 := ⟨h0, h4, DFn.of h1 h2 h3⟩
end
theorem law_sp {K : PySem.W.Frag} {w : World} {F : OpN} {H : Hp} {a : Addr} {ns : List Int} (hF : ∃ hp', F [.t Y7] [] = .ok (.t Yc9) hp')
  (h : (∃ o, H a = some Yeo) ∨ (∃ (o : Obj) (its : Array Value) (m : Nat), K.lookup a = some o ∧ o.cls = .type "list" ∧ o.dict = none ∧ o.data = .seq its m ∧ its.size ≤ sizeLine ∧ Vals Yca its.toList)) :
  spM K w F 1 [.ref a] H (fun v _ => v = .bl true) fun _ _ _ => False := by
 obtain ⟨hp', e⟩ := hF
 let s : S4 := ⟨[], fun b => b = a ∧ ∃ o, H a = some Yeo, [], H⟩
 have nl : ∀ b, ¬ Live s b := fun b l => by
  obtain ⟨i, c, e1, _⟩ := l
  simp [s] at e1
 have R : Rel K w s := ⟨rfl, List.nodup_nil, fun b m => absurd m (by simp [s]), fun b f => by obtain ⟨e1, o, e2⟩ := f; subst e1; show H b ≠ none; rw [e2]; simp, fun b l => absurd l (nl b), fun i c b e1 => by simp [s] at e1⟩
 refine ⟨s, [.t Y7], rfl, R, ?_, rfl, ?_⟩
 ·refine ⟨.ref a, [], rfl, ?_, rfl⟩
  simp only [Rw, Rf]
  refine ⟨a, ns.map V.int, rfl, ?_, ints_rf ns⟩
  rcases h with ⟨o, h⟩ | h
  ·exact .inl ⟨⟨rfl, o, h⟩, o, h⟩
  ·exact .inr h
 ·show Go K w W0 (Rw K) s (noEr (F [.t Y7] [])) _
  rw [e]
  intro b s' _ _ _ r
  simpa only [Rw, Rf] using r
theorem no_cx {P : Program} {w : World} {o : List Env} {H : Hp} {s : Shared} {e : Value} {s' : Shared} (h : L2.CX P w o H s Ycl e s') : False := by
 obtain ⟨_, _, _, _, _, _, _, _, _, _, _, _, f⟩ := h
 exact f
def topS (i : Nat) : Stmt := PySem.Challenge.pw_untorn_k03_kinds_refused.main.body.getD i (.Pass ⟨0, 0, 0, 0⟩)
abbrev s_w_deal : Stmt := topS 22
abbrev ybh : Stmt := topS 28
abbrev ygd : Stmt := topS 23
abbrev yfl : Stmt := topS 25
abbrev yge : Stmt := topS 24
abbrev yg6 : Stmt := topS 26
abbrev ybi : Stmt := topS 27
abbrev ye5 : Stmt := topS 29
abbrev yds : Stmt := topS 11
abbrev ydg : Stmt := topS 10
abbrev yfm : Stmt := topS 17
abbrev yaz : Stmt := topS 18
abbrev ydz : Stmt := inClass (topS 20) 0
abbrev yfn : Stmt := topS 31
abbrev ygf : Stmt := topS 32
abbrev yd8 : Stmt := topS 30
abbrev yim : Stmt := topS 33
abbrev AllMk (F : OpN) : Prop := ∀ {l : PySem.W.OpenLaw} {w : World} {K : PySem.W.Frag} {h : Heap} {mg : Str → Option Value} {fa : Addr} (KX : K.In h) (G : h.Ns mainGlobals mg) (hfa : mg "law" = some (.ref fa))
  {y7 : Addr} (ya2 : PySem.W.nsIn K mainGlobals "Kind" = some (some (.ref y7)))
  (yfv : PySem.W.plainGet K y7 Str.empty = true)
  (yfw : PySem.W.hasDictIn K y7 = true)
  (yfx : PySem.W.plainOver K y7 = true)
  (yfy : PySem.W.findIn K (.ref y7) "__setattr__" = some (some (.builtin "object.__setattr__")))
  (yfz : PySem.W.makesIn K y7 = true)
  (yf0 : PySem.W.keepIn K (.ref y7) = true)
  (yb9 : PySem.W.findIn K (.ref y7) "deeds" = some none)
  (yca : PySem.W.findIn K (.ref y7) "steps" = some none)
  (yco : PySem.W.findIn K (.ref y7) "name" = some none)
  (ih : PySem.W.specialIn K Y6 "__get__" = some Ydb)
  (it : PySem.W.takesIn K Y6 = some true)
  (ia_Kind : PySem.W.findIn K (.ref y7) "__class__" = some (some Y6))
  (im_Kind : PySem.W.mroIn K y7 (.type "object") = some true)
  {ya : Addr} (yau : PySem.W.nsIn K mainGlobals "InvalidKind" = some (some Ybj))
  {yd9 yea : Str} {yeb : Addr} {yec ycv : List Value} {yed : List Str} {yee : List Value} {yef : Bool} {y8 : Option Bool} {yeg : Option Addr} {yeh yei yej yek yel : Option Value} (ybj : K.lookup ya = some (excClassObj yd9 yea ya yeb yec ycv true yed yee yef y8 yeg yeh yei yej yek yel "ValueError.__new__"))
  (ybk : PySem.HandSPX.refsVE ycv = true)
  (ya5 : PySem.W.findIn K Ybj "__setattr__" = some (some (.builtin "object.__setattr__")))
  (yak : PySem.W.subIn K Ybj Ye4 = some true)
  (yav : PySem.W.typeIn K Ybj = some (.type "type"))
  (ybl : PySem.W.keepIn K Ybj = true)
  {yr : Addr} (yaw : PySem.W.findIn K Ybj "__init__" = some (some (.ref yr)))
  (yax : PySem.W.typeIn K (.ref yr) = some Ye1)
  {yem ybm ybn ybo ybp : Value} {yen ybq : Option Addr} {yal yay : Addr} {yeo : Array Yc4} (ybr : K.lookup yr = some ⟨yem, yen, .func Yo, yeo⟩)
  (ybs : PySem.W.codeIn K (.ref yal) "InvalidKind.__init__" = true)
  {yep : Value} {yeq : Option Addr} {ycw : Array Value} {yer : Array Yc4} {ycx : Str} {yes : Tok} (ybt : K.lookup yal = some ⟨yep, yeq, .fields ycw, yer⟩)
  (ybu : ycw[2]? = some (.str ycx yes))
  (ybv : ((l.prog.main.file : Str) == ycx) = true)
  {yet : Value} {yeu : Option Addr} {yev : Array Yc4} (ybw : K.lookup yay = some ⟨yet, yeu, .cell (some Ybj), yev⟩)
  (ybx : PySem.W.ks_superIn K ya ya "__init__" = some Yd1)
  (yby : PySem.W.subIn K Ybj (.type "ValueError") = some true)
  (ybz : PySem.W.mroIn K ya Ybj = some true)
  (yar : PySem.W.findIn K Ybj "word" = some none)
  (ya6 : PySem.W.isClsIn K ya = true)
  (ya7 : PySem.W.subIn K Ybj Ybj = some true)
  (ya8 : PySem.W.findIn K Ybj "__getattribute__" = some (some (.builtin "BaseException.__getattribute__")))
  (ya9 : PySem.W.findIn K Ybj "__getattr__" = some none)
  (yba : PySem.W.hasDictIn K ya = true)
  (ybb : PySem.W.findIn K Ybj "__class__" = some (some Y6))
  (ybc : PySem.W.mroIn K ya (.type "object") = some true)
  {yi : Addr} (ym : PySem.W.nsIn K mainGlobals "InvalidDesign" = some (some (.ref yi)))
  (yas : PySem.W.hasDictIn K yi = true)
  (ya0 : PySem.W.typeIn K (.ref yi) = some (.type "type"))
  {yj : Addr} (yn : PySem.W.nsIn K mainGlobals "InvalidReader" = some (some (.ref yj)))
  (yat : PySem.W.hasDictIn K yj = true)
  (ya1 : PySem.W.typeIn K (.ref yj) = some (.type "type"))
  {yt : Addr} (y9 : PySem.W.nsIn K mainGlobals "RecordError" = some (some (.ref yt)))
  (ybd : PySem.W.hasDictIn K yt = true)
  (yb0 : PySem.W.typeIn K (.ref yt) = some (.type "type"))
  (yu : PySem.W.subIn K Ybj (.ref yi) = some false)
  (yx : ya ≠ yi)
  (yy : PySem.W.subIn K Ybj (.ref yj) = some false)
  (yz : ya ≠ yj)
  (y0 : PySem.W.subIn K Ybj (.ref yt) = some true)
  (y3 : ya ≠ yt)
  (xsup : PySem.W.nsIn K mainGlobals "super" = some none)
  (xany : PySem.W.nsIn K PySem.cStatics "thirdparty.any" = some none)
  (xtop : (l.prog.main.scope.names.lookup ("super" : Str)).isSome = false)
  {v_MOST_LETTERS : Tok} (w_MOST_LETTERS : PySem.W.nsIn K mainGlobals "MOST_LETTERS" = some (some (.int (4) v_MOST_LETTERS)))
  {v_LETTERS : Tok} (w_LETTERS : PySem.W.nsIn K mainGlobals "LETTERS" = some (some (.str "abcdefghijklmnopqrstuvwxyz" v_LETTERS)))
  {ycy : Addr} {o_BARRED : Obj} {us_BARRED : List Value} {ye6 : Nat} (w_BARRED : PySem.W.nsIn K mainGlobals "BARRED" = some (some (.ref ycy)))
  (lk_BARRED : K.lookup ycy = some o_BARRED)
  (yce : o_BARRED.cls = .type "tuple")
  (ycf : o_BARRED.dict = none)
  (oa_BARRED : o_BARRED.data = .seq us_BARRED.toArray ye6)
  (or_BARRED : Vals Ydu us_BARRED)
  (oz_BARRED : us_BARRED.length ≤ 1000)
  {yam : Addr} {o_WRITER_WORDS : Obj} {us_WRITER_WORDS : List Value} {yb1 : Nat} (w_WRITER_WORDS : PySem.W.nsIn K mainGlobals "WRITER_WORDS" = some (some (.ref yam)))
  (lk_WRITER_WORDS : K.lookup yam = some o_WRITER_WORDS)
  (yah : o_WRITER_WORDS.cls = .type "tuple")
  (yai : o_WRITER_WORDS.dict = none)
  (oa_WRITER_WORDS : o_WRITER_WORDS.data = .seq us_WRITER_WORDS.toArray yb1)
  (or_WRITER_WORDS : Vals ((["write", "bump"] : List Str).map V.str) us_WRITER_WORDS)
  (oz_WRITER_WORDS : us_WRITER_WORDS.length ≤ 1000)
  (yhr : PySem.W.nsIn K mainGlobals "int" = some none)
  (yhs : PySem.W.nsIn K mainGlobals "abs" = some none)
  (yht : PySem.W.nsIn K mainGlobals "len" = some none)
  (ygo : PySem.W.nsIn K mainGlobals "list" = some none)
  (yf1 : PySem.W.nsIn K mainGlobals "range" = some none)
  (yhu : PySem.W.nsIn K mainGlobals "all" = some none)
  (ycp : PySem.W.nsIn K mainGlobals "isinstance" = some none)
  (yhv : PySem.W.nsIn K mainGlobals "str" = some none)
  (yf2 : PySem.W.nsIn K mainGlobals "tuple" = some none)
  (yhw : PySem.W.nsIn K mainGlobals "set" = some none)
  (yhx : PySem.W.nsIn K mainGlobals "max" = some none)
  (yhy : PySem.W.nsIn K mainGlobals "min" = some none)
  {ad_w_deal : Addr} {yhb : FuncData} (ycz : MDf K "_law_deal" s_w_deal ad_w_deal yhb)
  {ad_w_deed_texts : Addr} {ydt : FuncData} (yan : MDf K "_law_deed_texts" ybh ad_w_deed_texts ydt)
  {ad_w_draw : Addr} {yhc : FuncData} (yc0 : MDf K "_law_draw" ygd ad_w_draw yhc)
  {ad_w_mixed : Addr} {ygp : FuncData} (ycg : MDf K "_law_mixed" yfl ad_w_mixed ygp)
  {ad_w_pick : Addr} {yhd : FuncData} (yc1 : MDf K "_law_pick" yge ad_w_pick yhd)
  {ad_w_put : Addr} {yh0 : FuncData} (ydo : MDf K "_law_put" yg6 ad_w_put yh0)
  {ad_w_script : Addr} {yf4 : FuncData} (yb2 : MDf K "_law_script" ybi ad_w_script yf4)
  {ad_w_titles : Addr} {yf5 : FuncData} (yb3 : MDf K "_law_titles" ye5 ad_w_titles yf5)
  {ad_is_name : Addr} {ygq : FuncData} (ych : MDf K "is_name" yds ad_is_name ygq)
  {ad_is_sequence : Addr} {yew : FuncData} (yap : MDf K "is_sequence" ydg ad_is_sequence yew)
  {ad_deed_in : Addr} {ygr : FuncData} (yci : MDf K "deed_in" yfm ad_deed_in ygr)
  {ad_deeds_in : Addr} {yf6 : FuncData} (yb4 : MDf K "deeds_in" yaz ad_deeds_in yf6)
  {ad_Kind_init : Addr} {yfo : FuncData} (ya3 : HDf K y7 "__init__" "Kind.__init__" ydz ad_Kind_init yfo)
  {ad_w_heard : Addr} {ygs : FuncData} (ycj : MDf K "_law_heard" yfn ad_w_heard ygs)
  {ad_w_bent : Addr} {yhe : FuncData} (yc2 : MDf K "_law_bent" ygf ad_w_bent yhe)
  {ad_w_any : Addr} {yh1 : FuncData} (ydp : MDf K "_law_any" yd8 ad_w_any yh1)
  {ad_law : Addr} {yiw : FuncData} (ygt : MDf K "law" yim ad_law yiw), ∃ fd : FuncData, (∀ (s : Shared) (v : Value), BindsTo s fd ⟨[v], []⟩ [("_law_script_here", v)]) ∧ ∀ base : Heap, K.In base → base.Ns mainGlobals mg → FnG l.prog w K mg base (L2.CX l.prog w) 17 fa fd ["_law_script_here"] (spM K w F 1)
end D
section
namespace D
open PySem PySem.W PySem.Calls PyProof.Rows
abbrev rowH : OpenRow := OpenLaw.row PySem.Challenge.rw_untorn_k03_kinds_refused
abbrev viewH : Program := view rowH.prog [33]
def looseH : List PySem.Str := (["RecordError", "InvalidKind", "InvalidReader", "InvalidDesign", "InvalidText", "BARRED", "LETTERS", "MOST_LETTERS", "is_sequence", "is_name", "WRITER_WORDS", "KIND", "NAMED", "BESIDE", "deed_in", "deeds_in", "named_in", "Kind", "_law_deal", "_law_draw", "_law_pick", "_law_mixed", "_law_put", "_law_script", "_law_deed_texts", "_law_titles", "_law_any", "_law_heard", "_law_bent"] : List PySem.Str)
theorem obsH_eq {as : List Addr} (s : SharedT) : as.map (HandSHeadRun.getT s) = as.map s.abs.heap.get? := congrArg (fun g => as.map g) (funext (HandSHeadRun.getT_eq s))
end D
local macro_rules | `(tactic| o_headL (kHook $K $a $e)) => `(tactic| refine HandSHeadRun.head_any (r := D.rowH) (q := D.viewH) (H := PySem.W.kHook $K $a $e) (ob := fun s => List.map (HandSHeadRun.getT s) $a) (M := 12000) (loose := D.looseH) (d := HandSHeadRun.topDef D.rowH.prog 33) (kwd := []) (fun s => D.obsH_eq s) (by kernel_rfl) (fun s => by kernel_rfl) (fun w os => by kernel_rfl) (by kernel_rfl) (by kernel_rfl) (by kernel_rfl) (by rfl) (by first | assumption | decide +kernel) (by decide +kernel) ⟨rfl, rfl, rfl, rfl, rfl, by decide +kernel⟩ ?hw ?hc)
local macro_rules | `(tactic| simp_arith!) => `(tactic| first | (as_aux_lemma => k_is) | k_is)
open PySem PySem.W PyProof.Rows
set_option maxHeartbeats 0 in
theorem D.early {F : Mir.OpN} (hM : D.AllMk F) (hL : ∀ {ns : List Int}, ns.length ≤ 63 → ∃ hp', F [.t (.scr (ns.map Mir.T.int))] [] = .ok (.t Yc9) hp') : PySem.Challenge.rw_untorn_k03_kinds_refused.Holds := by
 w_on; o_law; k_headL; (case hw => w_witness2)
 k_fill
 refine Mir.walkG (l := PySem.Challenge.rw_untorn_k03_kinds_refused) (n := 63) (k := 17) (x := "_law_script_here") (CX := fun w => L2.CX PySem.Challenge.rw_untorn_k03_kinds_refused.prog w) (sp := fun w => Mir.spM _ w F 1) rfl Yaz rfl ⟨rfl, by decide, by decide⟩ (fun w h Y => PySem.W.kIn_of Y) ?F (fun _ _ _ _ hl hS => D.law_sp (hL hl) hS) (fun _ _ _ _ _ h => D.no_cx h)
 case F =>
  intro w mg fa h KX G hmg
  refine' hM KX G hmg ?ya2 ?yfv ?yfw ?yfx ?yfy ?yfz ?yf0 ?yb9 ?yca ?yco ?ih ?it ?ia_Kind ?im_Kind ?yau ?ybj ?ybk ?ya5 ?yak ?yav ?ybl ?yaw ?yax ?ybr ?ybs ?ybt ?ybu ?ybv ?ybw ?ybx ?yby ?ybz ?yar ?ya6 ?ya7 ?ya8 ?ya9 ?yba ?ybb ?ybc ?ym ?yas ?ya0 ?yn ?yat ?ya1 ?y9 ?ybd ?yb0 ?yu ?yx ?yy ?yz ?y0 ?y3 ?xsup ?xany ?xtop ?w_MOST_LETTERS ?w_LETTERS ?w_BARRED ?lk_BARRED ?yce ?ycf ?oa_BARRED ?or_BARRED ?oz_BARRED ?w_WRITER_WORDS ?lk_WRITER_WORDS ?yah ?yai ?oa_WRITER_WORDS ?or_WRITER_WORDS ?oz_WRITER_WORDS ?yhr ?yhs ?yht ?ygo ?yf1 ?yhu ?ycp ?yhv ?yf2 ?yhw ?yhx ?yhy ?ycz ?yan ?yc0 ?ycg ?yc1 ?ydo ?yb2 ?yb3 ?ych ?yap ?yci ?yb4 ?ya3 ?ycj ?yc2 ?ydp ?ygt
  (case ya2 | yfv | yfw | yfx | yfy | yfz | yf0 | yb9 | yca | yco | ih | it | ia_Kind | im_Kind | yau | ybj => simp_arith!)
  (case ybk => first | rfl | decide)
  (case ya5 | yak | yav | ybl | yaw | yax | ybr | ybs | ybt => simp_arith!)
  (case ybu => exact rfl)
  (case ybv => first | rfl | decide +kernel)
  (case ybw => simp_arith!)
  (case ybx => ks_is)
  (case yby | ybz | yar | ya6 => simp_arith!)
  (case ya7 => first | rfl | k_is)
  (case ya8 | ya9 | yba | ybb | ybc | ym | yas | ya0 | yn | yat | ya1 | y9 | ybd | yb0 => simp_arith!)
  (case yu => first | rfl | k_is)
  (case yx => decide)
  (case yy => first | rfl | k_is)
  (case yz => decide)
  (case y0 => first | rfl | k_is)
  (case y3 => decide)
  (case xsup | xany => simp_arith!)
  (case xtop => first | rfl | decide +kernel)
  (case w_MOST_LETTERS | w_LETTERS | w_BARRED | lk_BARRED => simp_arith!)
  (case yce => exact rfl)
  (case ycf => exact rfl)
  (case oa_BARRED => exact rfl)
  (case or_BARRED => repeat (first | exact .nil | refine .cons ⟨_, rfl⟩ ?_))
  (case oz_BARRED => decide)
  (case w_WRITER_WORDS | lk_WRITER_WORDS => simp_arith!)
  (case yah => exact rfl)
  (case yai => exact rfl)
  (case oa_WRITER_WORDS => exact rfl)
  (case or_WRITER_WORDS => repeat (first | exact .nil | refine .cons ⟨_, rfl⟩ ?_))
  (case oz_WRITER_WORDS => decide)
  (case yhr | yhs | yht | ygo | yf1 | yhu | ycp | yhv | yf2 | yhw | yhx | yhy => simp_arith!)
  (case ycz | yan | yc0 | ycg | yc1 | ydo | yb2 | yb3 | ych | yap | yci | yb4 | ycj | yc2 | ydp | ygt => (refine' D.MDf.of ?a ?b ?c ?d; (case a => simp_arith!); (case b => simp_arith!); (case c => simp_arith!); (case d => simp_arith!)))
  (case ya3 => (refine' D.HDf.of ?a ?b ?c ?d ?e; (case a => simp_arith!); (case b => simp_arith!); (case c => simp_arith!); (case d => simp_arith!); (case e => simp_arith!)))
end
namespace D
open PySem PySem.Spec L2 Mir
open PyProof.Rows hiding St
local macro_rules | `(tactic| simp_arith [$as,*]) => `(tactic| simp -implicitDefEqProofs only [Nat.reduceAdd, Nat.reduceMul, Nat.reduceSub, Nat.reduceLeDiff, Nat.reduceLT, Nat.reduceEqDiff, Nat.reduceBEq, Int.reduceAdd, Int.reduceSub, Int.reduceMul, Int.reduceNeg, Int.reduceLT, Int.reduceLE, Int.reduceEq, Int.reduceToNat, Int.reduceBEq, Int.reduceNegSucc, reduceIte, reduceCtorEq, if_true, if_false, Bool.false_eq_true, eq_self, and_self, and_true, true_and, and_false, false_and, decide_true, decide_false, decide_eq_true_eq, List.map_nil, List.map_cons, List.append_nil, List.nil_append, List.cons_append, List.getElem?_cons_zero, List.getElem?_cons_succ, List.set_cons_zero, List.set_cons_succ, List.length_cons, List.length_nil, List.replicate_succ, List.replicate_zero, Option.map_some, Option.bind_some, Bool.not_true, Bool.not_false, Bool.and_true, Bool.true_and, Bool.and_false, Bool.false_and, beq_self_eq_true, List.zip_cons_cons, List.zip_nil_right, List.foldl_cons, List.foldl_nil, Option.isSome_some, Option.isSome_none, ite_true, ite_false, List.length_map, zae, bind_bad, bind_er, zbp, noEr_bad, then_nx, then_rt, then_bk, then_ct, p_var, p_c, p_bin, p_un, p_nil, p_cons, p_star, p_app, p_frz, p_test, p_and, p_or, p_not, p_if, p_andV, p_orV, p_notV, p_chain, p_skip, p_seq, p_ret, p_retN, p_drop, p_brk, p_cnt, p_asg, p_set, p_par, p_parG, p_aug, p_for, p_while, p_comp, p_sq, p_src, p_yes, p_call, p_meth0, p_meth, p_sl, p_noPart, p_part, p_disp, p_dput, p_fz, p_gN, p_gsN, p_gsC, p_gTp, p_gTt, p_gAp, p_gAt, p_gAl, zbu, seqT_t, seqT_l, seqT_s, items_t, items_l, items_s, items_r, litems_l, litems_s, litems_r, hitems_l, hitems_r, asT_t, asT_r, getL_new, zbm, allI_map, allS_map, allB_map, asB_bl, truW_bl, iNeg_i, opI_ii, opC_ii, cYes_t, wLt_ii, wLt_ss, wAdd_ii, isN_n, isN_i, isN_b, isN_t, isB_bb, oInt_i, oAbs_i, oMax2_i, oMin2_i, oLen_l, oLen_t, oLen_r, oTup_t, oTup_l, oListF_l, oListF_t, oListL_l, oListL_t, sqI_l, sqI_t, sqI_s, enum1_1, zip2_2, isL_r, isL_l, isTp_t, freeze_t, freeze_r, fit_n, fit_b, fit_i, fit_s, fit_t, fit_l, fitL_n, fitL_c, eqT_nn, eqT_ii, eqT_bb, eqT_ss, eqT_tt, eqT_ll, eqTL_nn, eqTL_cn, eqTL_nc, eqTL_cc, allT_n, allT_c, lstOf_e, tupOf_e, newL_e, oAppend_r, oPop_r, asK_i, asK_s, dGet_s, ev_for0, ev_for1, ev_atl0, ev_atl1, ev_atl2, ev_atl3, ev_ixl0, ev_ixt0, ev_ixl1, ev_ixt1, ev_ixl2, ev_ixt2, ev_ixl3, ev_ixt3, ev_atl4, ev_ixl4, ev_ixt4, ev_gt, ev_ge, ev_le, ev_sub, ev_eqi, ev_eqs, ev_eqb, ev_wipe0, ev_wipe1, ev_comp1, $as,*])
local macro_rules | `(tactic| simp_all_arith) => `(tactic| repeat (first | (with_reducible refine zap ?_) | (with_reducible refine za6 ?_) | (with_reducible refine zbd ?_) | (with_reducible refine vc_if ?_) | (with_reducible refine vc_test ?_) | (with_reducible refine vc_bin ?_) | (with_reducible refine vc_un ?_) | (with_reducible refine zal ?_) | (with_reducible refine zbc ?_) | (with_reducible refine zcf ?_) | (with_reducible refine vc_call ?_) | (with_reducible refine vc_callD ?_) | (with_reducible refine vc_and ?_) | (with_reducible refine vc_or ?_) | (with_reducible refine vc_not ?_) | (with_reducible refine zbq ?_) | (with_reducible refine zb0 ?_) | (with_reducible refine vc_drop ?_) | (with_reducible refine vc_sl ?_) | (with_reducible refine vc_slL ?_) | (with_reducible refine vc_noPart ?_) | (with_reducible refine vc_part ?_) | (with_reducible refine vc_for ?_) | (with_reducible refine vc_sq ?_) | (with_reducible refine vc_src ?_) | (with_reducible refine vc_asg ?_) | (with_reducible refine vc_fld ?_) | (with_reducible refine vc_c ?_) | ((with_reducible apply zba); · rfl) | (with_reducible refine vc_asB ?_) | ((with_reducible apply vc_fz); · rfl) | (with_reducible refine vc_meth ?_) | (with_reducible refine vc_comp ?_) | (with_reducible refine vc_rt ?_) | (with_reducible refine vc_yes ?_) | ((with_reducible apply vc_lstE); (· rfl); (· exact Nat.le_of_ble_eq_true rfl)) | ((with_reducible apply vc_tupE); (· rfl); (· exact Nat.le_of_ble_eq_true rfl)) | (with_reducible refine vc_sqL ?_) | (with_reducible refine vc_sqT ?_) | (with_reducible refine vc_slWl ?_) | (with_reducible refine vc_slWt ?_) | (with_reducible refine vc_slLl ?_) | (with_reducible refine vc_sm ?_) | (with_reducible refine vc_frz ?_) | (with_reducible refine vc_frzD ?_) | (with_reducible refine vc_chain ?_) | (with_reducible refine vc_par2 ?_) | (with_reducible refine vc_parG ?_) | (with_reducible refine Wp.rw wAdd_ii ?_) | (with_reducible refine Wp.rw ev_eqi ?_) | (with_reducible refine Wp.rw ev_eqs ?_) | (with_reducible refine Wp.rw oLen_l ?_) | (with_reducible refine Wp.rw oLen_t ?_) | (with_reducible refine Wp.rw iGt_ii ?_) | (with_reducible refine Wp.rw wLt_ii ?_) | (with_reducible refine Wp.rw ev_sub ?_) | (with_reducible refine Wp.rw ev_le ?_) | (with_reducible refine Wp.rw ev_ge ?_) | (with_reducible refine Wp.rw freeze_t ?_) | (with_reducible refine Wp.ok ?_)))
/-- what isinstance answers -/
def isTab : CT → CT → Option Bool := fun t c => match t, c with
 | .inl a, .inl b => kitB a b
 | .inr a, .inr b => if a = b ∧ (a = "Kind") then some true else none
 | _, _ => none
def zcc : M Bool := zaj asB (mBin iGe (mVar 4) (mBin iPow (mC (.int 10)) (mC (.int 18))))
def zcu : M W := mVar 4
def zb9 : M Fl := mSet 3 (mBin iMod (mApp oInt (zab (mBin wAdd (mBin wAdd (mBin wMul (mVar 3) (mC (.int 48271))) (mBin iMod (mApp oInt Yu) (mC (.int 2147483629)))) (mC (.int 41))) (mNil))) (mC (.int 2147483647)))
def zcv : M W := mApp oAbs (zab (mApp oInt Yu) (mNil))
def B_w_deal : M Fl := mSeq (mSet 2 Ydf) (mSeq (mSet 3 (mBin wAdd (mC (.int 49979687)) (mBin wMul (mC (.int 59)) (mVar 1)))) (mSeq (mFor Ydr (gN 4) zb9) (mRet (mApp newL (zab (mUn oRevL (zb1 zak Ydr (gN 4) zcc zcu [4])) (zab (mVar 3) (mNil)))))))
def F_w_deal : OpN := fnM 2 5 B_w_deal
def zbf : M W := mBin wAdd (mBin wAdd (mVar 1) (mC (.str " "))) (mVar 2)
def B_w_deed_texts : M Fl := mRet (zb1 zak (mSq (mVar 0)) (gT 2 (gsC (gN 1) (gsC (gN 2) gsN))) mYes zbf [1, 2])
def zbr : OpN := fnP 1 3 B_w_deed_texts
def zbo : M Fl := mDrop (mMeth0 isL oPop Ya4)
def B_w_draw : M Fl := mSeq (mWhile 4096 (mAnd Ydm (zaj asB (mBin Ydz (mBin ixW Ya4 (mUn iNeg Yt)) Yj))) zbo) (mSeq (mIf Ydm (mSeq (mSet 2 (mMeth0 isL oPop Ya4)) (mSeq (mDrop Ye5) (mRet (mBin iMod (mApp oInt Yc2) (mVar 1))))) (zcl)) (mSeq (mIput (mVar 0) Yt (mBin iMod Ycn (mC (.int 2147483647)))) (mRet (mBin iMod (mApp oInt (zab (mBin iDiv (mBin ixW (mVar 0) Yt) (mC (.int 16))) (mNil))) (mVar 1)))))
def zat : OpN := fnM 2 3 B_w_draw
def zby : M Fl := mDrop (mMeth isL zcb (mVar 3) (zab (mMeth isL oPopAt (mVar 2) (zab (zan zat [] (zab (mVar 0) (zab (mApp oLen Yc2) (mNil)))) (mNil))) (mNil)))
def B_w_mixed : M Fl := mSeq (mPar [2, 3] (zab (mApp oListL Yp) (zab (mApp newL (mNil)) (mNil)))) (mSeq (mWhile 4096 (zaj asB (mBin Ybx (mVar 2) (mApp zak (mNil)))) zby) (mFz 3 (mRet (mVar 3))))
def zbz : OpN := fnM 2 4 B_w_mixed
def B_w_pick : M Fl := mRet (mBin ixW (mVar 1) Ycj)
def zaw : OpN := fnM 2 2 B_w_pick
def f_w_put_l1 : M Fl := mSeq (mSet 5 (zan zat [] (zab (mVar 0) (zab (mBin wAdd Ybt Yt) (mNil))))) (mSet 3 (mBin wAdd (mBin wAdd (mSl (mVar 3) zay (zbn (mVar 5))) (mApp zak Yu)) (mSl (mVar 3) (zbn (mVar 5)) zay)))
def B_w_put : M Fl := mSeq (mSet 3 (mApp oListF Yp)) (mSeq (mFor Ydr (gN 4) f_w_put_l1) (mRet (mVar 3)))
def F_w_put : OpN := fnM 3 6 B_w_put
def zb6 : M W := mApp zce (zab (mC (.str "bump")) Y5)
def zb5 : M W := mApp zce (zab (mC (.str "write")) (zab (mVar 7) (mNil)))
def B_w_script : M Fl := mSeq (mSet 4 (mSl (zan zbz [] (zab (mVar 0) Yp)) zay (zbn (mBin wAdd Yt Ycj)))) (mSeq (mSet 5 (mSl (zb1 zak (mSq (mVar 4)) (gN 7) mYes zb5 [7]) zay (zbn (mVar 3)))) (mSeq (mSet 6 (zb1 zak Yay (gN 8) mYes zb6 [8])) (mRet (zan F_w_put [] (zab (mVar 0) (zab (mVar 5) (zab (mSl (mVar 6) zay Yfd) (mNil))))))))
def zb8 : OpN := fnM 4 9 B_w_script
def B_w_titles : M Fl := mRet (mSl (zan zbz [] (zab (mVar 0) (zab (mApp zak (zab (mC (.str "move")) (zab (mC (.str "add")) (zab (mC (.str "w")) (zab (mC (.str "both")) (zab (mC (.str "r")) (zab (mC (.str "iff")) (zab (mC (.str "zzzz")) (mNil))))))))) (mNil)))) zay (zbn (mVar 1)))
def zcp : OpN := fnM 2 2 B_w_titles
def zcj : M W := mBin (inS false) (mVar 1) (mC (.str "abcdefghijklmnopqrstuvwxyz"))
def B_is_name : M Fl := mSeq (mIf (mOr (mNot Yac) (mOr (zaj asB Yb1) (mNot Ye8))) Yd4 (zcl)) (mRet (mApp oAll (zab (zb1 zak (mStrI (mVar 0)) (gN 1) mYes zcj [1]) (mNil))))
def zaz : OpN := fnP 1 2 B_is_name
def B_is_sequence : M Fl := mRet (mApp (oIsi isTab) (zab (mVar 0) (zab (mApp zce (zab (mC (.ty "list")) (zab (mC (.ty "tuple")) (mNil)))) (mNil))))
def za5 : OpN := fnP 1 1 B_is_sequence
def B_deed_in : M Fl := mSeq (mIf (mNot Yac) (mRet Ybq) (zcl)) (mSeq (mSet 2 (mSM oSplit (mVar 0) (mC (.str " ")))) (mSeq Yd Ya5))
def zcn : OpN := fnP 2 3 B_deed_in
def zax : M Bool := mAnd (zaj asB (mBin (isN true) (mVar 5) Ybq)) (zaj asB Ybn)
def za1 : M W := mBin ixW (mVar 5) Yt
def za9 : M W := zan zcn [] (zab (mVar 4) Yp)
def B_deeds_in : M Fl := mSeq (mIf (mNot (zaj truW (zan za5 [] Ycd))) (mRet Ybq) (zcl)) (mSeq (mSet 2 (zb1 zak (mSq (mVar 0)) (gN 4) mYes za9 [4])) (mSeq (mSet 3 (zb1 zak Ydr (gN 5) zax za1 [5])) (mRet (mIf (mOr (zaj asB (mBin (inW false) Ybq (mVar 2))) (zaj asB (mBin Ybx (mLenSet (mVar 3)) Ybt))) Ybq (mApp oTup Yc2)))))
def zbb : OpN := fnP 2 6 B_deeds_in
def zcx : M Fl := mSeq (mIf (mNot (zaj truW (zan zaz [] Yp))) (mRaise (mExc "InvalidKind" "word" (zab (mC (.str "name")) (mNil)))) (zcl)) (mSeq (mSet 3 (zan zbb [] Ydj)) (mSeq (mIf (mOr (zaj asB (mBin (isN false) (mVar 3) Ybq)) (zaj asB (mBin Ydz Ybt Yj))) (mRaise (mExc "InvalidKind" "word" (zab Yeq (mNil)))) (zcl)) (mSeq (mFldSet ["Kind"] "name" (mVar 0) (mVar 1)) (mSeq (mFldSet ["Kind"] "steps" (mVar 0) (mApp oTup Yc2)) (mFldSet ["Kind"] "deeds" (mVar 0) (mVar 3))))))
def zas : OpN := fnX 3 4 zcx
def zch : M Fl := mDrop (mFrzI Yb8)
def zck : Ex → M Fl := fun ex => mSeq (mSet 2 (mIf (mAnd (zaj asB (mC Yc9)) (mNot (zaj asB (mXIt [.inr "InvalidReader", .inr "InvalidDesign"] false (mApp zce (zab (mC (.cls "InvalidReader")) (zab (mC (.cls "InvalidDesign")) (mNil)))))))) (mXF "word" ex) (mC (.str "other")))) (zcl)
def B_w_heard : M Fl := mSeq (mSet 2 Ybq) (mSeq (mTryAs 3 zch [("InvalidKind", hitC "InvalidKind", zck)]) (mRet (mVar 2)))
def zam : OpN := fnP 2 4 B_w_heard
def B_w_bent : M Fl := mSeq (mSet 2 (mApp zak (zab (mC (.str "write")) (zab (mC (.str "write  a")) (zab (mC (.str "write a ")) (zab (mC (.str "Write a")) (zab (mC (.str "bump")) (zab (mC (.str "look c")) (zab (mC (.str "read a")) (zab (mC (.str "write abcde")) (zab (mC (.str "write A")) (mNil)))))))))))) (mSeq (mSet 2 (mBin wAdd (mVar 2) (mApp zak (zab (mC (.str "write kind")) (zab (mC (.str "bump same")) (zab (mC (.str "write a b")) (zab (mC (.str "")) (zab Ybq (zab (mC (.int 3)) (zab (mC Yc9) (zab (mApp zce (zab (mC (.str "write")) (zab (mC (.str "a")) (mNil)))) (zab (mApp zak (zab Yh (mNil))) (mNil))))))))))))) (mSeq (mSet 2 (mBin wAdd (mVar 2) (mApp zak (zab (mC (.str "write 1")) (zab (mC (.str "bump if")) (mNil)))))) (mSeq (mSet 3 (zan zat [] (zab (mVar 0) (zab (mBin wAdd (mApp oLen Yp) Yt) (mNil))))) (mSeq (mSet 4 (mApp zak Ya2)) (mRet (zan zaw [] (zab (mVar 0) (zab (mBin wAdd (mVar 4) (mApp zak Ybg)) (mNil)))))))))
def zbs : OpN := fnM 2 5 B_w_bent
def f_w_any_c1 (G : OpN) : M W := zan G [] (zab (mVar 0) (zab (mBin iSub (mVar 1) Yt) (mNil)))
def B_w_any (G : OpN) : M Fl := mSeq (mSet 2 (mIf (zaj asB (mBin iGt (mVar 1) Yj)) (zan zat [] (zab (mVar 0) (zab (mC (.int 5)) (mNil)))) (mC (.int 9)))) (mSeq (mIf (zaj asB (mBin wLt (mVar 2) (mC (.int 2)))) (mSeq (mSet 3 (zb1 zak Yay (gN 5) mYes (f_w_any_c1 G) [5])) (mRet (mIf (zaj asB (mBin Ydz (mVar 2) Yj)) (mVar 3) (mApp oTup (zab (mVar 3) (mNil)))))) (zcl)) (mSeq (mSet 4 (mApp zak (zab Ybq (zab (mC Yc9) (zab (mC Ybc) (zab Yj (zab Yt (zab (mC (.int 2)) (zab (mBin iSub Yj Yt) (zab (mBin iPow (mC (.int 10)) (mC (.int 12))) (zab (mC (.str "")) (zab (mC (.str "a")) (zab Yh (zab (mC (.str "look c")) (zab (mC (.str "kind")) (zab (mC (.str "same 0 1")) (zab (mC (.str "abcde")) (mNil)))))))))))))))))) (mRet (zan zaw [] (zab (mVar 0) (zab (mBin wAdd (mVar 4) (mApp zak (zab (mApp zce (zab (mC (.str "c")) (zab (mC (.int 2)) (mNil)))) (mNil)))) (mNil)))))))
def S_w_any (G : OpN) : OpN := fnM 2 6 (B_w_any G)
def F_w_any : OpN := recN S_w_any 12
def f_law_l1 : M Fl := mSeq (mSet 4 (zan zbr [] (zab (zan zb8 [] Ya7) (mNil)))) (mSeq (mSet 5 (mBin ixW (zan zcp [] (zab (mVar 2) (zab Yt (mNil)))) Yj)) (mSeq (mSet 6 Yk) (mSeq (mDrop (mMeth isL zcb (mVar 6) (zab (mC (.str "read")) (mNil)))) (mFz 6 (mSeq (mSet 7 (zan zaw [] (zab (mVar 2) (zab (mVar 6) (mNil))))) (mSeq (mIf (mOr (zaj asB (mBin (isN true) (zan zam [] (zab (mVar 5) Yu)) Ybq)) (zaj asB Ydw)) Yd4 (zcl)) (mSeq (mIf (mOr Yeg Yef) Yd4 (zcl)) (mSeq (mIf (zaj asB (mBin Ybx (zan zam [] (zab (mVar 5) Ybu)) Yeq)) Yd4 (zcl)) (mSeq (mIf (zaj asB Ybb) Yd4 (zcl)) (mIf (zaj asB Ya3) Yd4 (zcl)))))))))))
def f_law_l2 : M Fl := mSeq (mSet 2 (zan F_w_deal [] (zab (mVar 0) Yp))) (mFor (mSrc rng1 (zab (mC (.int 6)) (mNil))) (gN 3) f_law_l1)
def B_law : M Fl := mSeq (mFor (mSrc rng1 (zab (mApp oMax2 (zab Yt (zab (mApp oMin2 (zab (mC (.int 3)) (zab (mApp oLen Ycd) (mNil)))) (mNil)))) (mNil))) (gN 1) f_law_l2) (mSeq (mIf (zaj asB Ybk) Yd4 (zcl)) (mRet (mBin Ydz Ycf Yeq)))
def F_law : OpN := fnM 1 8 B_law
/-- where the draws lie: the list i, the great cells j -/
structure DealAt (i j : Nat) (gs : List Int) (st : Int) (hp : IH) : Prop where
 d : getL hp i = some [.r j, .t (.int st)]
 g : getL hp j = some (gs.map wI)
 len : gs.length ≤ 63
 lo : 0 ≤ st
 hi : st < 2147483647
theorem DealAt.ne {i j : Nat} {gs : List Int} {st : Int} {hp : IH} (h : DealAt i j gs st hp) : i ≠ j := by
 intro e
 subst e
 have a := h.d
 rw [h.g] at a
 cases gs with
 | nil => cases a
 | cons x xs => simp [wI] at a
theorem ne_nil {gs : List Int} {hp : IH} {j : Nat} (h : getL hp j = some (gs.map wI)) : eqW true (.r j) (.t (.lst [])) hp = .ok (.t (.bl (!gs.isEmpty))) hp := by
 unfold eqW
 simp only [asT_r, h, Option.bind_some, allT_ints, Option.map_some, asT_t, fit_l, fitL_ints, fitL_n]
 cases gs <;> simp
abbrev popT : M Bool := mAnd Ydm (zaj asB (mBin Ydz (mBin ixW Ya4 (mUn iNeg Yt)) Yj))
theorem at0 {a b : W} : atI [a, b] 0 = some a := rfl
theorem at1 {a b : W} : atI [a, b] 1 = some b := rfl
theorem pop_loop {i j : Nat} {wd : W} {c : Option W} {st : Int} (hij : i ≠ j) : ∀ (n : Nat) (gs : List Int) (hp : IH), gs.length < n → getL hp i = some [.r j, .t (.int st)] → getL hp j = some (gs.map wI) →
  ∃ gs' : List Int, gs'.length ≤ gs.length ∧ zcm popT zbo n [some (.r i), some wd, c] hp = .ok (.nx [some (.r i), some wd, c]) (hp.set j (some (.lst (gs'.map wI)))) := by
 intro n
 induction n with
 | zero => intro gs hp h; omega
 | succ n ih =>
  intro gs hp h hd hg
  have hj := getL_lt hg
  have g0 : mBin ixW (mVar 0) Yj [some (.r i), some wd, c] hp = .ok (.r j) hp := binP rfl rfl (by rw [ixW_r, hd, Option.bind_some, at0])
  rcases List.eq_nil_or_concat gs with e | ⟨ys, y, e⟩
  ·subst e
   refine ⟨[], Nat.le_refl _, ?_⟩
   unfold zcm popT
   rw [p_and, zco (binP g0 rfl (ne_nil hg)), zae]
   simp
   exact (set_same (zbj hg)).symm
  ·rw [List.concat_eq_append] at e
   subst e
   have hg' : getL hp j = some (ys.map wI ++ [wI y]) := by rw [hg]; simp
   have t1 : popT [some (.r i), some wd, c] hp = .ok (decide (y = 0)) hp := by
    unfold popT
    rw [p_and, zco (binP g0 rfl (ne_nil hg)), zae, if_pos Yal]
    refine zco (binP (binP g0 rfl (b := .t (.int (-1))) (r := .ok (.t (.int y)) hp) ?_) rfl ?_)
    ·rw [ixW_r, hg', Option.bind_some, atI_end]
    ·by_cases hy : y = 0 <;> simp [hy]
   unfold zcm
   rw [t1, zae]
   by_cases hy : y = 0
   ·obtain ⟨gs', l, q⟩ := ih ys Y2 (by simp at h; omega) (by rw [getL_ne hij.symm]; exact hd) (zbm hj)
    refine ⟨gs', by simp; omega, ?_⟩
    have body : zbo [some (.r i), some wd, c] hp = .ok (.nx [some (.r i), some wd, c]) Y2 := by
     unfold zbo
     rw [p_drop, p_meth0, g0, zae]
     simp [hg', wI]
    rw [decide_eq_true hy, if_pos rfl, body, zae]
    simp only [q, List.set_set]
   ·refine ⟨ys ++ [y], Nat.le_refl _, ?_⟩
    rw [decide_eq_false hy, if_neg Yaz]
    rw [set_same (zbj hg)]
theorem draw_ok {i j : Nat} {gs : List Int} {st : Int} {hp : IH} {wide : Int} (d : DealAt i j gs st hp) (hw : 0 < wide) (hw2 : wide < 2 ^ 64) :
  ∃ (n : Int) (hp' : IH) (gs' : List Int) (st' : Int), zat [.r i, .t (.int wide)] hp = .ok (.t (.int n)) hp' ∧ 0 ≤ n ∧ n < wide ∧ DealAt i j gs' st' hp' ∧ hp'.length = hp.length ∧ ∀ k, k ≠ i → k ≠ j → hp'[k]? = hp[k]? := by
 obtain ⟨hd, hg, hl, lo, hi⟩ := d
 have hne : i ≠ j := DealAt.ne ⟨hd, hg, hl, lo, hi⟩
 have hj := getL_lt hg
 have hi' := getL_lt hd
 obtain ⟨g2, l2, q2⟩ := pop_loop (i := i) (j := j) (wd := .t (.int wide)) (c := none) hne 4096 gs hp Yc hd hg
 have hd2 : getL Yaf i = some [.r j, .t (.int st)] := by rw [getL_ne hne.symm]; exact hd
 have hg2 : getL Yaf j = some (g2.map wI) := zbm hj
 have hmod : ∀ x : Int, 0 ≤ x % wide ∧ x % wide < wide := fun x => ⟨Int.emod_nonneg _ Yc, Int.emod_lt_of_pos _ hw⟩
 have g0 : ∀ (a : Option W), mBin ixW (mVar 0) Yj [some (.r i), some Yah, a] Yaf = .ok (.r j) Yaf := fun a => binP rfl rfl (by rw [ixW_r, hd2, Option.bind_some, at0])
 have g1 : ∀ (a : Option W), mBin ixW (mVar 0) Yt [some (.r i), some Yah, a] Yaf = .ok (.t (.int st)) Yaf := fun a => binP rfl rfl (by rw [ixW_r, hd2, Option.bind_some, at1])
 have ww : mWhile 4096 popT zbo [some (.r i), some Yah, none] hp = .ok (.nx [some (.r i), some Yah, none]) Yaf := q2
 have cn := ne_nil hg2
 rcases List.eq_nil_or_concat g2 with e | ⟨ys, y, e⟩
 ·subst e
  refine ⟨((st * 48271 + 43) % 2147483647 / 16) % wide, (hp.set j Yv).set i Y4, [], (st * 48271 + 43) % 2147483647, ?_, (hmod _).1, (hmod _).2, ⟨?_, ?_, ?_, ?_, ?_⟩, ?_, ?_⟩
  ·have c1 : cMul st 48271 = true := cMul_ok Yc Yc
   have hi2 : i < (hp.set j Yv).length := by simpa using hi'
   refine fnM_ok (eta := [some (.r i), some Yah, none]) rfl rfl ?_
   unfold B_w_draw
   refine zbl ww ?_
   refine zbl (h1 := hp.set j Yv) (e1 := [some (.r i), some Yah, none]) ?_ ?_
   ·rw [if_no (zco (binP (g0 none) rfl cn))]
    rfl
   ·have ev : mBin iMod Ycn (mC (.int 2147483647)) [some (.r i), some Yah, none] (hp.set j Yv) = .ok (.t (.int ((st * 48271 + 43) % 2147483647))) (hp.set j Yv) := by
     refine binP (app1P (binP (binP (g1 none) rfl (wMul_ok c1)) rfl wAdd_ii) oInt_i) rfl ?_
     exact iMod_ok (cMod_ok Yc)
    refine zbl (e1 := [some (.r i), some Yah, none]) (h1 := (hp.set j Yv).set i Y4) ?_ ?_
    ·exact iput_ok (k := 1) ev rfl rfl hd2 Yal
    ·rw [p_ret]
     have h3 : mBin ixW (mVar 0) Yt [some (.r i), some Yah, none] ((hp.set j Yv).set i Y4) = .ok (.t (.int ((st * 48271 + 43) % 2147483647))) ((hp.set j Yv).set i Y4) := binP rfl rfl (by rw [ixW_r, zbm hi2, Option.bind_some, at1])
     have c3 : ∀ x, cDiv x 16 = true := fun x => cDiv_ok Yc Yc
     rw [binP (r := .ok (.t (.int (((st * 48271 + 43) % 2147483647 / 16) % wide))) ((hp.set j Yv).set i Y4)) (app1P (binP h3 rfl (iDiv_ok (c3 _))) oInt_i) rfl (iMod_ok (cMod_ok hw)), zae]
  ·rw [zbm (by simpa using hi')]
  ·rw [getL_ne hne, zbm (by simpa using hj)]
  ·simp
  ·exact Int.emod_nonneg _ Yc
  ·exact Int.emod_lt_of_pos _ Yc
  ·simp
  ·intro k h1 h2
   rw [List.getElem?_set_ne (Ne.symm h1), List.getElem?_set_ne (Ne.symm h2)]
 ·rw [List.concat_eq_append] at e
  subst e
  have hg3 : getL (hp.set j (some (.lst ((ys ++ [y]).map wI)))) j = some (ys.map wI ++ [wI y]) := by rw [hg2]; simp
  refine ⟨y % wide, hp.set j Yb2, ys ++ [y / wide], st, ?_, (hmod _).1, (hmod _).2, ⟨?_, ?_, ?_, lo, hi⟩, ?_, ?_⟩
  ·have hl2 : ys.length < 16777216 := by simp at l2; omega
   refine fnM_ok (eta := [some (.r i), some Yah, none]) rfl rfl ?_
   unfold B_w_draw
   refine zbl ww ?_
   rw [p_seq, if_yes (zco (binP (g0 none) rfl (cn.trans Yal)))]
   have e1 : mSet 2 (mMeth0 isL oPop Ya4) [some (.r i), some Yah, none] (hp.set j (some (.lst ((ys ++ [y]).map wI)))) = .ok (.nx [some (.r i), some Yah, some (.t (.int y))]) Y2 := by
    refine (set_ok (w := .t (.int y)) (h1 := hp.set j (some (.lst (ys.map wI)))) ?_).trans rfl
    rw [p_meth0, g0, zae]
    simp [hj, zbm, wI]
   have hd3 : getL Y2 i = some [.r j, .t (.int st)] := by rw [getL_ne hne.symm]; exact hd
   have g3 : mBin ixW (mVar 0) Yj [some (.r i), some Yah, some (.t (.int y))] Y2 = .ok (.r j) Y2 := binP rfl rfl (by rw [ixW_r, hd3, Option.bind_some, at0])
   have dv : mBin iDiv (mVar 2) (mVar 1) [some (.r i), some Yah, some (.t (.int y))] Y2 = .ok (.t (.int (y / wide))) Y2 := binP rfl rfl (iDiv_ok (cDiv_ok hw hw2))
   have e2 : mDrop Ye5 [some (.r i), some Yah, some (.t (.int y))] Y2 = .ok (.nx [some (.r i), some Yah, some (.t (.int y))]) (hp.set j Yb2) := by
    rw [p_drop, p_meth, g3, zae]
    simp only [isL_r, zbm hj, Option.isSome_some, if_true, p_cons, dv, zae, p_nil, oAppend_r, List.length_map, hl2, List.set_set]
    simp [wI]
   rw [zbl e1 (zbl e2 (r := .ok (.rt (.t (.int (y % wide)))) (hp.set j Yb2)) ?_)]
   ·rfl
   ·rw [p_ret, binP (r := .ok (.t (.int (y % wide))) (hp.set j Yb2)) (app1P rfl oInt_i) rfl (iMod_ok (cMod_ok hw)), zae]
  ·rw [getL_ne hne.symm]; exact hd
  ·rw [zbm hj]
  ·simp at l2 ⊢; omega
  ·simp
  ·intro k h1 h2
   rw [List.getElem?_set_ne (Ne.symm h2)]
theorem DealAt.ltA {i j : Nat} {gs : List Int} {st : Int} {hp : IH} (h : DealAt i j gs st hp) : i < hp.length ∧ j < hp.length := ⟨getL_lt h.d, getL_lt h.g⟩
theorem DealAt.keepA {i j : Nat} {gs : List Int} {st : Int} {hp hp' : IH} (h : DealAt i j gs st hp) (h1 : hp'[i]? = hp[i]?) (h2 : hp'[j]? = hp[j]?) : DealAt i j gs st hp' := by
 obtain ⟨a, b, c, e, f⟩ := h
 exact ⟨by unfold getL at a ⊢; rw [h1]; exact a, by unfold getL at b ⊢; rw [h2]; exact b, c, e, f⟩
/-- the draws lie at i and j -/
def Deal (i j : Nat) (hp : IH) : Prop := ∃ gs st, DealAt i j gs st hp
theorem Deal.ne {i j : Nat} {hp : IH} (d : Deal i j hp) : i ≠ j := let ⟨_, _, h⟩ := d; h.ne
theorem Deal.lt {i j : Nat} {hp : IH} (d : Deal i j hp) : i < hp.length ∧ j < hp.length := let ⟨_, _, h⟩ := d; h.ltA
/-- cells besides the draws' stay -/
def Ext (i j : Nat) (hp hp' : IH) : Prop := hp.length ≤ hp'.length ∧ ∀ k, k < hp.length → k ≠ i → k ≠ j → hp'[k]? = hp[k]?
theorem Ext.refl {i j : Nat} {hp : IH} : Ext i j hp hp := ⟨Nat.le_refl _, fun _ _ _ _ => rfl⟩
theorem Ext.trans {i j : Nat} {a b c : IH} (h : Ext i j a b) (g : Ext i j b c) : Ext i j a c :=
 ⟨Nat.le_trans h.1 g.1, fun k hk h1 h2 => (g.2 k (Nat.lt_of_lt_of_le hk h.1) h1 h2).trans (h.2 k hk h1 h2)⟩
theorem Deal.keep {i j : Nat} {hp hp' : IH} (d : Deal i j hp) (h1 : hp'[i]? = hp[i]?) (h2 : hp'[j]? = hp[j]?) : Deal i j hp' := by
 obtain ⟨gs, st, h⟩ := d
 exact ⟨gs, st, h.keepA h1 h2⟩
theorem draw_is {i j : Nat} {hp : IH} {wide : Int} (d : Deal i j hp) (hw : 0 < wide) (hw2 : wide < 2 ^ 64) :
  ∃ (n : Int) (hp' : IH), zat [.r i, .t (.int wide)] hp = .ok (.t (.int n)) hp' ∧ 0 ≤ n ∧ n < wide ∧ Deal i j hp' ∧ hp'.length = hp.length ∧ ∀ k, k ≠ i → k ≠ j → hp'[k]? = hp[k]? := by
 obtain ⟨gs, st, h⟩ := d
 obtain ⟨n, hp', gs', st', h1, h2, h3, h4, h5, h6⟩ := draw_ok h hw hw2
 exact ⟨n, hp', h1, h2, h3, ⟨gs', st', h4⟩, h5, h6⟩
theorem pick_is {i j : Nat} {hp : IH} {ts : List T} (d : Deal i j hp) (h0 : 0 < ts.length) (h1 : ts.length < 2 ^ 60) :
  ∃ (t : T) (hp' : IH), t ∈ ts ∧ zaw [.r i, .t Yc1] hp = .ok (.t t) hp' ∧ Deal i j hp' ∧ Ext i j hp hp' := by
 obtain ⟨n, hp', e, n0, n1, d', l, k⟩ := draw_is (wide := ts.length) d Yc Yc
 have hn : n.toNat < ts.length := by omega
 refine ⟨ts[n.toNat], hp', List.getElem_mem _, ?_, d', ⟨by omega, fun q _ h2 h3 => k q h2 h3⟩⟩
 have ha : atI Yl n = some (.t ts[n.toNat]) := by
  rw [atI_nn n0 (by simpa using n1)]
  simp [hn]
 simp [zaw, fnM, B_w_pick, e, ha]
theorem neT_nil {ts : List T} {hp : IH} {j : Nat} (h : getL hp j = some Yl) (f : fitL ts 59 = true) : eqW true (.r j) (.t (.lst [])) hp = .ok (.t (.bl (!ts.isEmpty))) hp := by
 unfold eqW
 simp only [asT_r, h, Option.bind_some, zbu, Option.map_some, asT_t, fit_l, fitL_n, f]
 cases ts <;> simp
theorem seqIx {n : Int} {m : Nat} (h0 : 0 ≤ n) (h1 : n < m) : seqIndex? n m = some n.toNat := by
 unfold seqIndex?
 simp only [show ¬ n < 0 by omega, if_false]
 simp [h0, h1]
theorem mix_loop {i j a b : Nat} {w1 : W} (hab : a ≠ b) (hia : i ≠ a) (hib : i ≠ b) (hja : j ≠ a) (hjb : j ≠ b) : ∀ (n : Nat) (xs ys : List T) (hp : IH), xs.length < n → ys.length + xs.length < 1000000 → fitL xs 59 = true →
  getL hp a = some Yet → getL hp b = some (ys.map W.t) → Deal i j hp →
  ∃ (zs : List T) (hp' : IH), zs.Perm xs ∧ zcm (zaj asB (mBin Ybx (mVar 2) (mApp zak (mNil)))) zby n [some (.r i), some w1, some (.r a), some (.r b)] hp = .ok (.nx [some (.r i), some w1, some (.r a), some (.r b)]) hp' ∧
   getL hp' b = some ((ys ++ zs).map W.t) ∧ Deal i j hp' ∧ hp'.length = hp.length ∧ ∀ k, k ≠ i → k ≠ j → k ≠ a → k ≠ b → hp'[k]? = hp[k]? := by
 intro n
 induction n with
 | zero => intro xs ys hp h; omega
 | succ n ih =>
  intro xs ys hp h hz hf ha hb d
  cases xs with
  | nil =>
   refine ⟨[], hp, .refl _, ?_, by simpa using hb, d, rfl, fun _ _ _ _ _ => rfl⟩
   unfold zcm
   simp [neT_nil ha hf]
  | cons x0 xr =>
   obtain ⟨m, h1, e, m0, m1, d1, l1, k1⟩ := draw_is (wide := (x0 :: xr).length) d Yb6 (by simp only [List.length_cons] at hz ⊢; omega)
   have hm : m.toNat < (x0 :: xr).length := by omega
   have ha1 : getL h1 a = some ((x0 :: xr).map W.t) := by rw [getL_keep (k1 a hia.symm hja.symm)]; exact ha
   have hb1 : getL h1 b = some (ys.map W.t) := by rw [getL_keep (k1 b hib.symm hjb.symm)]; exact hb
   have la1 := getL_lt ha1
   have lb1 := getL_lt hb1
   let h2 := h1.set a (some (.lst (((x0 :: xr).eraseIdx m.toNat).map W.t)))
   have hb2 : getL h2 b = some (ys.map W.t) := by rw [getL_ne hab]; exact hb1
   have lb2 : b < h2.length := by simpa [h2] using lb1
   let h3 := h2.set b (some (.lst ((ys ++ [(x0 :: xr)[m.toNat]]).map W.t)))
   have ha3 : getL h3 a = some (((x0 :: xr).eraseIdx m.toNat).map W.t) := by rw [getL_ne hab.symm, zbm la1]
   have hb3 : getL h3 b = some ((ys ++ [(x0 :: xr)[m.toNat]]).map W.t) := zbm lb2
   have d3 : Deal i j h3 := d1.keep (by simp only [h3, h2]; rw [List.getElem?_set_ne hib.symm, List.getElem?_set_ne hia.symm]) (by simp only [h3, h2]; rw [List.getElem?_set_ne hjb.symm, List.getElem?_set_ne hja.symm])
   have el : ((x0 :: xr).eraseIdx m.toNat).length = xr.length := by rw [List.length_eraseIdx, if_pos hm]; rfl
   obtain ⟨zs, hp', p, q, r, d', l', k'⟩ := ih ((x0 :: xr).eraseIdx m.toNat) (ys ++ [(x0 :: xr)[m.toNat]]) h3 (by rw [el]; simp at h; omega) (by rw [el]; simp at hz ⊢; omega) (fitL_erase _ hf) ha3 hb3 d3
   refine ⟨(x0 :: xr)[m.toNat] :: zs, hp', (p.cons _).trans (erase_perm _ _ hm), ?_, by simpa using r, d', by rw [l']; simp [h3, h2, l1], fun k c1 c2 c3 c4 => by rw [k' k c1 c2 c3 c4]; simp only [h3, h2]; rw [List.getElem?_set_ne c4.symm, List.getElem?_set_ne c3.symm, k1 k c1 c2]⟩
   have body : zby [some (.r i), some w1, some (.r a), some (.r b)] hp = .ok (.nx [some (.r i), some w1, some (.r a), some (.r b)]) h3 := by
    have pop : oPopAt (.r a) [.t (.int m)] h1 = .ok (.t (x0 :: xr)[m.toNat]) h2 := by
     have m1' : m < ((x0 :: xr).map W.t).length := by simpa using m1
     have hz' : m < 2 ^ 63 := by simp at m1 hz; omega
     simp only [oPopAt, ha1, seqIx m0 m1', List.getElem?_map, List.getElem?_eq_getElem hm, Option.map_some, erase_map]
     rw [if_pos ⟨by omega, hz'⟩]
    have app : zcb (.r b) [.t (x0 :: xr)[m.toNat]] h2 = .ok Yaw h3 := by
     have : (ys.map W.t).length < 16777216 := by simp at hz ⊢; omega
     rw [oAppend_r, hb2]
     simp only [this, if_true]
     simp [h3]
    simp only [List.length_cons] at e
    simp only [zby, p_drop, p_meth, p_var, p_cons, p_nil, p_call, p_app, List.getElem?_cons_succ, List.getElem?_cons_zero, zae, isL_r, hb, ha, oLen_r, Option.isSome_some, if_true, List.map_nil, List.append_nil, List.length_map, List.length_cons, e, zbp, pop, app]
   unfold zcm
   simp only [p_test, p_bin, p_var, p_app, p_nil, List.getElem?_cons_succ, List.getElem?_cons_zero, zae, lstOf_e, allT_n, List.length_nil, Nat.zero_le, if_true, neT_nil ha hf, asB_bl, body]
   simpa using q
theorem mixed_is {i j : Nat} {hp : IH} {ts : List T} (d : Deal i j hp) (hl : ts.length < 4000) (hf : fitL ts 59 = true) :
  ∃ (zs : List T) (hp' : IH), zs.Perm ts ∧ zbz [.r i, .t Yc1] hp = .ok (.t (.lst zs)) hp' ∧ Deal i j hp' ∧ Ext i j hp hp' := by
 obtain ⟨li, lj⟩ := d.lt
 let h1 : IH := hp ++ [some (.lst Yl)]
 let h2 : IH := h1 ++ [some (.lst [])]
 have l1 : h1.length = hp.length + 1 := by simp [h1]
 have ga : getL h2 hp.length = some Yl := by rw [getL_app Yc]; simp [h1]
 have gb : getL h2 h1.length = some (([] : List T).map W.t) := by simp [h2]
 have d2 : Deal i j h2 := d.keep (by simp only [h2, h1]; rw [List.append_assoc, List.getElem?_append_left li]) (by simp only [h2, h1]; rw [List.append_assoc, List.getElem?_append_left lj])
 obtain ⟨zs, h3, p, q, r, d3, l3, k3⟩ := mix_loop (i := i) (j := j) (a := hp.length) (b := h1.length) (w1 := .t Yc1) Yc Yc Yc Yc Yc 4096 ts [] h2 Yc Yai hf ga gb d2
 refine ⟨zs, h3.set h1.length none, p, ?_, d3.keep (by rw [List.getElem?_set_ne Yc]) (by rw [List.getElem?_set_ne Yc]), ⟨by rw [List.length_set, l3]; simp only [h2, List.length_append]; omega, fun k hk c1 c2 => ?_⟩⟩
 ·have e1 : hp ++ [some (Cell.lst Yl)] = h1 := rfl
  have e2 : h1 ++ [some (Cell.lst [])] = h2 := rfl
  simp only [List.nil_append] at r
  have e3 : (hp ++ [some (Cell.lst Yl)]).length = h1.length := rfl
  simp only [zbz, fnM, B_w_mixed]
  simp [q, r, e1, e2]
 ·rw [List.getElem?_set_ne Yc, k3 k c1 c2 Yc Yc]
  simp only [h2, h1]
  rw [List.append_assoc, List.getElem?_append_left hk]
theorem stir_loop {w0 w1 w2 : W} : ∀ (cs : List Int) (st : Int) (o4 : Option W) (hp : IH), 0 ≤ st → st < 2 ^ 40 →
  ∃ (st' : Int) (o4' : Option W), 0 ≤ st' ∧ st' < 2 ^ 40 ∧ (cs ≠ [] → st' < 2147483647) ∧ forL (gN 4) zb9 ((cs.map T.int).map W.t) [some w0, some w1, some w2, some (.t (.int st)), o4] hp = .ok (.nx [some w0, some w1, some w2, some (.t (.int st')), o4']) hp
 | [], st, o4, hp, h0, h1 => ⟨st, o4, h0, h1, fun h => (h rfl).elim, rfl⟩
 | c :: cs, st, o4, hp, h0, h1 => by
  have c1 : cMul st 48271 = true := cMul_ok Yc Yc
  have b0 : 0 ≤ (st * 48271 + c % 2147483629 + 41) % 2147483647 := Int.emod_nonneg _ Yc
  have b1 : (st * 48271 + c % 2147483629 + 41) % 2147483647 < 2147483647 := Int.emod_lt_of_pos _ Yc
  obtain ⟨st', o4', a, b, d, q⟩ := stir_loop (w0 := w0) (w1 := w1) (w2 := w2) cs ((st * 48271 + c % 2147483629 + 41) % 2147483647) (some (.t (.int c))) hp b0 Yc
  refine ⟨st', o4', a, b, fun _ => ?_, ?_⟩
  ·by_cases e : cs = []
   ·subst e
    simp only [List.map_nil, forL, Res.ok.injEq, Fl.nx.injEq, List.cons.injEq, Option.some.injEq, W.t.injEq, T.int.injEq] at q
    omega
   ·exact d e
  ·rw [← q]
   have body : zb9 [some w0, some w1, some w2, some (.t (.int st)), some (.t (.int c))] hp = .ok (.nx [some w0, some w1, some w2, some (.t (.int ((st * 48271 + c % 2147483629 + 41) % 2147483647))), some (.t (.int c))]) hp := by
    unfold zb9
    refine (set_ok (h1 := hp) (binP (app1P (binP (binP (binP rfl rfl (wMul_ok c1)) (binP (app1P rfl oInt_i) rfl (iMod_ok (cMod_ok Yc))) wAdd_ii) rfl wAdd_ii) oInt_i) rfl (iMod_ok (cMod_ok Yc)))).trans rfl
   simp only [List.map_cons, forL, p_gN, List.set_cons_succ, List.set_cons_zero, body, zae]
theorem deal_is {ns : List Int} {b : Int} {hp : IH} (hn : ns.length ≤ 63) (hb : 0 ≤ b ∧ b < 1000) : ∃ (k : Nat) (hp' : IH), F_w_deal [.t Y7, .t (.int b)] hp = .ok (.r k) hp' ∧ Deal k (k - 1) hp' ∧ hp.length < k ∧ ∀ x, x < hp.length → hp'[x]? = hp[x]? := by
 let cs : List Int := (cutL ns (some b) (some 62)).map fun c => if c < 0 then -c else c
 have lc : cs.length ≤ 63 := by
  have := cutL_len ns (some b) (some 62)
  simp only [cs, List.length_map]
  omega
 have mb : cMul 59 b = true := cMul_ok Yc Yc
 obtain ⟨st, o4, a, bb, z, q⟩ := stir_loop (w0 := .t Y7) (w1 := .t (.int b)) (w2 := .t Yd5) cs (49979687 + 59 * b) none hp Yc Yc
 have st31 : st < 2147483647 := by
  by_cases e : cs = []
  ·rw [e] at q
   simp only [List.map_nil, forL, Res.ok.injEq, Fl.nx.injEq, List.cons.injEq, Option.some.injEq, W.t.injEq, T.int.injEq] at q
   omega
  ·exact z e
 let g : Int → Bool := fun c => decide ((10 : Int) ^ 18 ≤ c)
 let eta0 : IS := [some (.t Y7), some (.t (.int b)), none, none, none]
 have k1 : (cutL (ns.map T.int) (some b) (some 62)).length ≤ 16777216 := by
  have := cutL_len (ns.map T.int) (some b) (some 62)
  rw [List.length_map] at this
  omega
 have s1 : mSet 2 Ydf eta0 hp = .ok (.nx [some (.t Y7), some (.t (.int b)), some (.t Yd5), none, none]) hp := by
  refine (set_ok (w := .t Yd5) (h1 := hp) (comp_ok (ws := ((cutL ns (some b) (some 62)).map T.int).map W.t) (ys := (cs.map T.int).map W.t) (h1 := hp) (h2 := hp) ?_ ?_ ?_ ?_)).trans rfl
  ·rw [← cutL_map]
   simp [eta0, slW]
  ·rw [← cutL_map]; simpa using k1
  ·simp only [cs]
   rw [List.map_map (f := fun c : Int => if c < 0 then -c else c)]
   exact comp_all fun c _ => app1P (app1P rfl oInt_i) oAbs_i
  ·have : cs.length ≤ 16777216 := by omega
   simp [-List.map_map, this]
 have c2 : zb1 zak Ydr (gN 4) zcc zcu [4] [some (.t Y7), some (.t (.int b)), some (.t Yd5), some (.t (.int st)), o4] hp = .ok (.t (.lst ((cs.filter g).map T.int))) hp := by
  have lf := List.length_filter_le g cs
  refine comp_ok (ws := (cs.map T.int).map W.t) (ys := ((cs.filter g).map T.int).map W.t) (h1 := hp) (h2 := hp) rfl Yai ?_ ?_
  ·refine comp_list (p := g) (fun c _ => ?_) fun c _ _ => rfl
   simp [zcc, wipeI, g, cPow]
  ·have : (cs.filter g).length ≤ 16777216 := by omega
   simp [-List.map_map, this]
 let h1 : IH := hp ++ [some (.lst (((cs.filter g).reverse).map wI))]
 let h2 : IH := h1 ++ [some (.lst [.r hp.length, .t (.int st)])]
 have lz : (cs.filter g).length ≤ 63 := Nat.le_trans (List.length_filter_le _ _) lc
 refine ⟨hp.length + 1, h2, ?_, ⟨(cs.filter g).reverse, st, ⟨?_, ?_, by simpa using lz, a, st31⟩⟩, by omega, fun x hx => ?_⟩
 ·refine fnM_ok (eta := eta0) rfl rfl ?_
  unfold B_w_deal
  refine zbl s1 ?_
  refine zbl (h1 := hp) ((set_ok (h1 := hp) (binP rfl (binP rfl rfl (wMul_ok mb)) wAdd_ii)).trans rfl) ?_
  refine zbl ((for_ok (ws := (cs.map T.int).map W.t) (h1 := hp) rfl).trans q) ?_
  have rv : mUn oRevL (zb1 zak Ydr (gN 4) zcc zcu [4]) [some (.t Y7), some (.t (.int b)), some (.t Yd5), some (.t (.int st)), o4] hp = .ok Yb9 h1 := by
   rw [p_un, c2, zae]
   unfold oRevL
   simp only [litems_l, h1]
   rw [← List.map_reverse, ← List.map_reverse, List.map_map]
   rfl
  have l1 : h1.length = hp.length + 1 := by simp [h1]
  rw [p_ret, p_app, zau rv (zau rfl rfl), zae, newL_e, if_pos Yal, zae, l1]
 ·rw [show hp.length + 1 - 1 = hp.length by omega]
  have e : hp.length + 1 = h1.length := by simp [h1]
  rw [e]
  exact getL_new
 ·rw [show hp.length + 1 - 1 = hp.length by omega, getL_app (by simp [h1])]
  simp [h1]
 ·simp only [h2, h1]
  rw [List.append_assoc, List.getElem?_append_left hx]
theorem fnP_lift {n nn : Nat} {B : M Fl} {ws : List W} {y : T} {h0 hp : IH} (h : fnP n nn B ws [] = .ok (.t y) h0) : fnP n nn B ws hp = .ok (.t y) hp := by
 unfold fnP at h ⊢
 split at h
 ·rename_i c
  rw [if_pos c]
  split at h
  ·cases h
   rfl
  ·cases h
   rfl
  ·cases h
 ·cases h
mutual
def sameT : T → T → Bool
 | .non, y => (match y with | .non => true | _ => false)
 | .int i, y => (match y with | .int j => decide (i = j) | _ => false)
 | .str x, y => (match y with | .str z => decide (x = z) | _ => false)
 | .tup xs, y => (match y with | .tup ys => sameL xs ys | _ => false)
 | .lst xs, y => (match y with | .lst ys => sameL xs ys | _ => false)
 | .ins c fs vs, y => (match y with | .ins c' fs' vs' => decide (c = c') && (decide (fs = fs') && sameL vs vs') | _ => false)
 | .bl i, y => (match y with | .bl j => decide (i = j) | _ => false)
 | .scr _, _ => false | .pr _, _ => false | .ty _, _ => false | .dic _ _, _ => false | .cls _, _ => false | .dit _ _, _ => false | .exc _ _ _, _ => false
def sameL : List T → List T → Bool
 | [], ys => (match ys with | [] => true | _ :: _ => false)
 | x :: xs, ys => (match ys with | [] => false | y :: ys => sameT x y && sameL xs ys)
end
mutual
theorem same_eq : ∀ (x y : T), sameT x y = true → x = y
 | .non, y, h => by cases y <;> simp [sameT] at h ⊢
 | .int i, y, h => by cases y <;> simp [sameT] at h ⊢; exact h
 | .str x, y, h => by cases y <;> simp [sameT] at h ⊢; exact h
 | .tup xs, y, h => by cases y <;> simp [sameT] at h ⊢; exact sameL_eq _ _ h
 | .lst xs, y, h => by cases y <;> simp [sameT] at h ⊢; exact sameL_eq _ _ h
 | .ins c fs vs, y, h => by cases y <;> simp [sameT] at h ⊢; exact ⟨h.1, h.2.1, sameL_eq _ _ h.2.2⟩
 | .bl i, y, h => by cases y <;> simp [sameT] at h ⊢; exact h
 | .scr _, y, h => by simp [sameT] at h
 | .pr _, y, h => by simp [sameT] at h
 | .ty _, y, h => by simp [sameT] at h
 | .dic _ _, y, h => by simp [sameT] at h
 | .cls _, y, h => by simp [sameT] at h
 | .dit _ _, y, h => by simp [sameT] at h
 | .exc _ _ _, y, h => by simp [sameT] at h
theorem sameL_eq : ∀ (xs ys : List T), sameL xs ys = true → xs = ys
 | [], ys, h => by cases ys <;> simp [sameL] at h ⊢
 | x :: xs, ys, h => by
  cases ys with
  | nil => simp [sameL] at h
  | cons y ys =>
   simp only [sameL, Bool.and_eq_true] at h
   rw [same_eq _ _ h.1, sameL_eq _ _ h.2]
end
def isT (r : Res W) (t : T) : Bool := match r with
 | .ok (.t y) _ => sameT y t
 | _ => false
theorem isT_ok {r : Res W} {t : T} (h : isT r t = true) : ∃ h', r = .ok (.t t) h' := by
 unfold isT at h
 split at h
 ·rename_i y h'
  exact ⟨h', by rw [same_eq _ _ h]⟩
 ·cases h
theorem dmeth_ok {f : OpM} {Fo : M W} {Fs : M (List W)} {eta : IS} {hp h1 h2 h3 : IH} {o v : W} {ws : List W} (h : Fo eta hp = .ok o h1) (i : isL o h1 = true) (a : Fs eta h1 = .ok ws h2) (q : f o ws h2 = .ok v h3) : mDrop (mMeth isL f Fo Fs) eta hp = .ok Ycc h3 := by
 rw [p_drop, p_meth, h, zae]
 simp only [i, if_true]
 rw [a, zae, q, zae]
/-- a comprehension whose turns leave the heap -/
theorem comp_g {A : Type} {G : W → IS → Option IS} {U : M Bool} {E : M W} {eta : IS} {hp : IH} {src : A → W} {loc : A → IS} {p : A → Bool} {g : A → T} : ∀ (as : List A), (∀ a ∈ as, G (src a) eta = some (loc a)) → (∀ a ∈ as, U (loc a) hp = .ok (p a) hp) → (∀ a ∈ as, p a = true → E (loc a) hp = .ok (.t (g a)) hp) →
  zbv G U E eta (as.map src) hp = .ok (((as.filter p).map g).map W.t) hp
 | [], _, _, _ => rfl
 | a :: as, h1, h2, h3 => by
  have ih := comp_g (G := G) (U := U) (E := E) (eta := eta) (hp := hp) (src := src) (loc := loc) (p := p) (g := g) as (fun b hb => h1 b Yd3) (fun b hb => h2 b Yd3) fun b hb => h3 b Yd3
  have e1 := h1 a Yan
  have e2 := h2 a Yan
  have e3 := h3 a Yan
  simp only [List.map_cons, zbv, turnL, e1, e2, zae]
  by_cases c : p a = true
  ·rw [c, List.filter_cons_of_pos c]
   simp only [if_true, e3 c, zae, zbp, ih, List.map_cons]
  ·have c' : p a = false := by simpa using c
   rw [c', List.filter_cons_of_neg c]
   simp only [Bool.false_eq_true, if_false, zae, zbp, ih]
theorem filter_all {A : Type} (l : List A) : l.filter (fun _ => true) = l := List.filter_eq_self.mpr fun _ _ => rfl
theorem lst_ok {ts : List T} {hp : IH} (h : ts.length ≤ 16777216) : zak Yl hp = .ok Yw hp := by
 unfold zak
 rw [zbu]
 simp only [h, if_true]
section
open TL
theorem len_app (x y : Str) : (x ++ y).length = x.length + y.length := by rw [len_tl, len_tl, len_tl, tl_append, List.length_append]
theorem join_cons2 (s x y : Str) (r : List Str) : Txt.join s (x :: y :: r) = x ++ s ++ Txt.join s (y :: r) := by rw [join_eq, join_eq]; rfl
theorem join_one (s x : Str) : Txt.join s [x] = x := by rw [join_eq]; rfl
theorem sm_ok {f : OpM} {Fo Fe : M W} {eta : IS} {hp h1 h2 : IH} {a : Str} {u : W} {r : Res W} (h : Fo eta hp = .ok Yea h1) (g : Fe eta h1 = .ok u h2) (q : f Yea [u] h2 = r) : mSM f Fo Fe eta hp = r := by
 unfold mSM
 rw [h, zae]
 show (Fe eta h1).bind _ = _
 rw [g, zae]
 exact q
theorem split_is {a b : Str} {ls : List Str} {hp : IH} (e : Txt.split a b = ls) (hb : (b.length == 0) = false) (ha : a.length + 2 ≤ 16777216) : oSplit Yea [.t (.str b)] hp = .ok (.t (.lst (ls.map T.str))) hp := by
 unfold oSplit
 simp only
 rw [if_pos ⟨hb, ha⟩, e]
/-- a name: small letters, at most four -/
structure Nam (x : Str) : Prop where
 is : ∀ hp, zaz [.t (.str x)] hp = .ok (.t Yc9) hp
 fr : ∀ c ∈ tl x, 97 ≤ c ∧ c ≤ 122
 ln : x.length ≤ 4
 ne : x ≠ "if"
def namB (x : Str) : Bool := isT (zaz [.t (.str x)] []) Yc9 && ((tl x).all (fun c => decide (97 ≤ c) && decide (c ≤ 122)) && (decide (x.length ≤ 4) && !decide (x = "if")))
theorem nam_ok {x : Str} (h : namB x = true) : Nam x := by
 unfold namB at h
 simp only [Bool.and_eq_true, List.all_eq_true, decide_eq_true_eq, Bool.not_eq_true', decide_eq_false_iff_not] at h
 obtain ⟨h1, h2, h3, h4⟩ := h
 obtain ⟨_, e⟩ := isT_ok h1
 exact ⟨fun hp => fnP_lift e, h2, h3, h4⟩
theorem Nam.no {x : Str} (n : Nam x) {c : Nat} (h : c < 97) : c ∉ tl x := fun m => by have := n.fr c m; omega
/-- a step: a word, a name -/
abbrev Deed := Str × Str
def dTx (d : Deed) : Str := d.1 ++ " " ++ d.2
def dTr (d : Deed) : T := .tup [.str d.1, .str d.2]
/-- words without signs that part texts -/
structure Wrd (w : Str) : Prop where
 fr : ∀ c ∈ tl w, 97 ≤ c ∧ c ≤ 122
 ln : w.length ≤ 10
def wrdB (w : Str) : Bool := (tl w).all (fun c => decide (97 ≤ c) && decide (c ≤ 122)) && decide (w.length ≤ 10)
theorem wrd_ok {w : Str} (h : wrdB w = true) : Wrd w := by
 unfold wrdB at h
 simp only [Bool.and_eq_true, List.all_eq_true, decide_eq_true_eq] at h
 exact ⟨h.1, h.2⟩
theorem Wrd.no {w : Str} (n : Wrd w) {c : Nat} (h : c < 97) : c ∉ tl w := fun m => by have := n.fr c m; omega
theorem tl_sp : tl (" " : Str) = [32] := by decide +kernel
theorem split_sp {w x : Str} (hw : 32 ∉ tl w) (hx : 32 ∉ tl x) : Txt.split (w ++ " " ++ x) " " = [w, x] := by
 have h : w ++ " " ++ x = Txt.join " " [w, x] := by rw [join_eq]; rfl
 rw [h]
 exact split_join (s := 32) (S := []) tl_sp Ym Yal fun p hp => by
  simp only [List.mem_cons, List.not_mem_nil, or_false] at hp
  rcases hp with rfl | rfl
  ·exact hw
  ·exact hx
theorem sp_len : (" " : Str).length = 1 := by decide +kernel
theorem dTx_len {d : Deed} (w : Wrd d.1) (n : Nam d.2) : (dTx d).length ≤ 15 := by
 unfold dTx
 rw [len_app, len_app, sp_len]
 have := w.ln
 have := n.ln
 omega
theorem in_strs {neg : Bool} {x : Str} {l : List Str} {hp : IH} : inW neg (.t (.str x)) (.t (.tup (l.map T.str))) hp = .ok (.t (.bl (if neg then !decide (x ∈ l) else decide (x ∈ l)))) hp := by
 have f : fitL (l.map T.str) 60 = true := fitL_strs
 simp only [inW, asT_t, items_t, Option.bind_some, zbu, fit_s, f, and_self, if_true, any_str]
theorem deed_is {d : Deed} {ws : List Str} {hp : IH} (hw : d.1 ∈ ws) (w : Wrd d.1) (n : Nam d.2) :
  zcn [.t Yds, .t Yag] hp = .ok (.t (dTr d)) hp := by
 refine fnP_ok (ts := [.str (dTx d), .tup (ws.map T.str)]) (eta := [some (.t Yds), some (.t Yag), none]) rfl rfl (h1 := []) ?_
 have sp : mSM oSplit (mVar 0) (mC (.str " ")) [some (.t Yds), some (.t Yag), none] [] = .ok (.t (.lst [.str d.1, .str d.2])) [] :=
  sm_ok rfl rfl (split_is (split_sp (w.no Yc) (n.no Yc)) Ym (by have := dTx_len w n; unfold dTx at this; omega))
 have nw : ∀ h : IH, inW true (.t (.str d.1)) (.t Yag) h = .ok (.t Ybc) h := fun h => by
  rw [in_strs]
  simp [hw]
 have nn := n.is
 unfold B_deed_in
 refine zbl (e1 := [some (.t Yds), some (.t Yag), none]) (h1 := []) rfl ?_
 refine zbl (set_ok sp) ?_
 simp only [List.set_cons_succ, List.set_cons_zero]
 unfold dTr
 simp_arith [nw, nn, Int.cast_ofNat_Int]
theorem onceK_nd : ∀ (ks acc : List Key), (acc ++ ks).Nodup → ks.foldl addK acc = acc ++ ks
 | [], acc, _ => by simp
 | k :: ks, acc, h => by
  have hm : memK k acc = false := by
   simp only [memK, List.any_eq_false, decide_eq_true_eq]
   intro j hj e
   subst e
   exact (List.nodup_append.mp h).2.2 _ hj _ Yan rfl
  have e : addK acc k = acc ++ [k] := by simp [addK, hm]
  rw [List.foldl_cons, e, onceK_nd ks (acc ++ [k]) (by simpa using h), List.append_assoc]
  rfl
theorem keysOf_strs : ∀ l : List Str, keysOf ((l.map T.str).map W.t) = some (l.map Sum.inr)
 | [] => rfl
 | x :: l => by
  simp only [List.map_cons, keysOf, keysOf_strs l, Option.map_some]
theorem lenset_nd {F : M W} {eta : IS} {hp h1 : IH} {l : List Str} (h : F eta hp = .ok (.t (.lst (l.map T.str))) h1) (nd : l.Nodup) (hl : l.length ≤ 4000) : mLenSet F eta hp = .ok (.t (.int (l.length : Nat))) h1 := by
 unfold mLenSet
 rw [h, zae, litems_l, Option.bind_some, keysOf_strs]
 have nd2 : (l.map Yco).Nodup := List.Pairwise.map _ (fun a b h e => h (Sum.inr.inj e)) nd
 have e : zb4 (l.map Yco) = l.map Sum.inr := by
  unfold zb4
  rw [onceK_nd _ [] (by simpa using nd2), List.nil_append]
 simp only [e, List.length_map, hl, if_true]
end
section
open TL
structure DOk (ws : List Str) (d : Deed) : Prop where
 m : d.1 ∈ ws
 w : Wrd d.1
 n : Nam d.2
theorem seq_isq {b : Bool} {ts : List T} {hp : IH} : za5 [.t (sqT b ts)] hp = .ok (.t Yc9) hp := by
 cases b
 ·exact fnP_ok (ts := [.lst ts]) (eta := [some Yw]) rfl rfl (h1 := []) rfl
 ·exact fnP_ok (ts := [.tup ts]) (eta := [some Yae]) rfl rfl (h1 := []) rfl
theorem non_in {l : List T} {hp : IH} (f2 : fitL l 60 = true) (h : ∀ t ∈ l, Mir.eqT t .non = false) : inW false Yaw (.t (.lst l)) hp = .ok (.t Ybc) hp := by
 have a : l.any (fun y => Mir.eqT y .non) = false := List.any_eq_false.mpr fun t ht => by simp [h t ht]
 simp only [inW, asT_t, items_l, Option.bind_some, zbu, fit_n, f2, and_self, if_true, a]
 simp
theorem dTr_fit {ds : List Deed} {n : Nat} : fitL Yce (n + 2) = true := by
 induction ds with
 | nil => simp
 | cons d ds ih => simp [dTr, ih]
theorem deeds_is {b : Bool} {w0 : Str} {ws : List Str} {ds : List Deed} {hp : IH} (ok : ∀ d ∈ ds, DOk Yby d) (nd : ((ds.filter fun d => decide (d.1 = w0)).map (·.2)).Nodup) (hl : ds.length ≤ 1000) :
  zbb [.t (sqT b Yz), .t Y3] hp = .ok (.t (.tup Yce)) hp := by
 let v0 : Option W := some (.t (sqT b Yz))
 let v1 : Option W := some (.t Y3)
 refine fnP_ok (ts := [sqT b Yz, .tup ((w0 :: ws).map T.str)]) (eta := [v0, v1, none, none, none, none]) rfl rfl (h1 := []) ?_
 unfold B_deeds_in
 refine zbl (e1 := [v0, v1, none, none, none, none]) (h1 := []) ?_ ?_
 ·rw [if_no (h1 := []) (by rw [p_not, p_test, zao (ws := [.t (sqT b Yz)]) rfl seq_isq]; rfl)]
  rfl
 have c1 : zb1 zak (mSq (mVar 0)) (gN 4) mYes za9 [4] [v0, v1, none, none, none, none] [] = .ok Yy [] := by
  have q := comp_g (G := gN 4) (U := mYes) (E := za9) (eta := [v0, v1, none, none, none, none]) (hp := []) (src := fun d : Deed => W.t Yds)
   (loc := fun d => [v0, v1, none, none, some (.t Yds), none]) (p := fun _ => true) (g := dTr) ds Ycx Ycx
   (fun d hd _ => zao (ws := [.t Yds, .t Y3]) rfl (deed_is (ok d hd).m (ok d hd).w (ok d hd).n))
  rw [filter_all] at q
  refine comp_ok (ws := (ds.map fun d => T.str (dTx d)).map W.t) (ys := (ds.map dTr).map W.t) (h1 := []) (h2 := []) ?_ Yai ?_ (lst_ok Yai)
  ·rw [p_sq, varP rfl, zae, sqI_sq]
  ·rw [List.map_map]
   exact q
 refine zbl (set_ok c1) ?_
 let eta1 : IS := [v0, v1, some Yy, none, none, none]
 have c2 : zb1 zak Ydr (gN 5) zax za1 [5] eta1 [] = .ok (.t (.lst (((ds.filter fun d => decide (d.1 = w0)).map (·.2)).map T.str))) [] := by
  have q := comp_g (G := gN 5) (U := zax) (E := za1) (eta := eta1) (hp := []) (src := fun d : Deed => W.t (dTr d))
   (loc := fun d => [v0, v1, some Yy, none, none, some (.t (dTr d))]) (p := fun d => decide (d.1 = w0)) (g := fun d => .str d.2) ds Ycx
   (fun d _ => by
    unfold zax dTr
    simp_arith [v1]) (fun _ _ _ => by
    unfold za1 dTr
    simp_arith [])
  have le := List.length_filter_le (fun d : Deed => decide (d.1 = w0)) ds
  refine comp_ok (ws := (ds.map dTr).map W.t) (ys := ((ds.filter fun d => decide (d.1 = w0)).map fun d => T.str d.2).map W.t) (h1 := []) (h2 := []) rfl Yai ?_ ?_
  ·rw [List.map_map]
   exact q
  ·rw [lst_ok Yai, List.map_map]
   rfl
 refine zbl (set_ok c2) ?_
 have le := List.length_filter_le (fun d : Deed => decide (d.1 = w0)) ds
 have ni : ∀ h : IH, inW false Yaw Yy h = .ok (.t Ybc) h := fun h => non_in dTr_fit fun t ht => by
  obtain ⟨d, _, rfl⟩ := List.mem_map.mp ht
  simp [dTr, Mir.eqT]
 generalize hps : (ds.filter fun d => decide (d.1 = w0)).map (·.2) = parts at nd ⊢
 have lp : parts.length ≤ 1000 := by rw [← hps, List.length_map]; omega
 have ls : mLenSet (mVar 3) [v0, v1, some Yy, some (.t (.lst (parts.map T.str))), none, none] [] = .ok (.t (.int (parts.length : Nat))) [] := lenset_nd rfl nd Yc
 show mRet _ [v0, v1, some Yy, some (.t (.lst (parts.map T.str))), none, none] [] = _
 simp_arith [ni, ls]
/-- a kind -/
def kndT (n : Str) (ds : List Deed) : T := .ins "Kind" ["name", "steps", "deeds"] [.str n, .tup Yz, .tup Yce]
abbrev wW : List Str := ["write", "bump"]
theorem fnX_nx {n nn : Nat} {B : M Fl} {ws : List W} {hp h1 : IH} {e eta : IS} (hl : ws.length = n) (he : ws.map some ++ List.replicate (nn - n) none = eta) (h : B eta hp = .ok (.nx e) h1) : fnX n nn B ws hp = .ok Yaw h1 := by
 unfold fnX
 rw [if_pos hl, he, h]
theorem fset_ok' {cs : List Str} {f c : Str} {Fo Fv : M W} {eta : IS} {hp h1 : IH} {v : W} {i : Nat} {fs : List Yd9} (h : Fv eta hp = .ok v h1) (g : Fo eta h1 = .ok (.r i) h1) (q : h1[i]? = some (some (.ins c fs))) (m : c ∈ cs) (l : fs.length < 1000) : mFldSet cs f Fo Fv eta hp = .ok Ycc (h1.set i (some Yfc)) := by
 unfold mFldSet
 rw [h, zae, g, zae]
 unfold fldSet
 simp only [q, m, l, and_self, if_true]
theorem set_set {hp : IH} {i : Nat} {a b : Option Cell} : (hp.set i a).set i b = hp.set i b := List.set_set ..
theorem set_at {hp : IH} {i : Nat} {a : Option Cell} (h : i < hp.length) : (hp.set i a)[i]? = some a := by rw [List.getElem?_set_self h]
theorem kind_init {b : Bool} {n : Str} {ds : List Deed} {hp : IH} {i : Nat} (hi : hp[i]? = some (some (.ins "Kind" []))) (hn : Nam n) (ok : ∀ d ∈ ds, DOk wW d) (nd : ((ds.filter fun d => decide (d.1 = ("write" : Str))).map (·.2)).Nodup) (hl : ds.length ≤ 1000) (h0 : 0 < ds.length) :
  zas [.r i, .t (.str n), .t (sqT b Yz)] hp = .ok Yaw (hp.set i (some (.ins "Kind" [("name", .t (.str n)), ("steps", .t (.tup Yz)), ("deeds", .t (.tup Yce))]))) := by
 have il : i < hp.length := (List.getElem?_eq_some_iff.mp hi).1
 let v2 : W := .t (sqT b Yz)
 refine fnX_nx (e := [some (.r i), some (.t (.str n)), some v2, some (.t (.tup Yce))]) (eta := [some (.r i), some (.t (.str n)), some v2, none]) rfl rfl ?_
 unfold zcx
 refine zbl (e1 := [some (.r i), some (.t (.str n)), some v2, none]) (h1 := hp) ?_ ?_
 ·rw [if_no (h1 := hp) (by rw [p_not, p_test, zao (ws := [.t (.str n)]) rfl (hn.is _)]; rfl)]
  rfl
 refine zbl (set_ok (zao (ws := [v2, .t (.tup (wW.map T.str))]) rfl (deeds_is ok nd hl))) ?_
 simp only [List.set_cons_succ, List.set_cons_zero]
 refine zbl (e1 := [some (.r i), some (.t (.str n)), some v2, some (.t (.tup Yce))]) (h1 := hp) ?_ ?_
 ·simp_arith []
  rw [if_neg Yc]
 refine zbl (fset_ok' (c := "Kind") (h1 := hp) (v := .t (.str n)) rfl rfl hi Yaz Yaz) ?_
 refine zbl (fset_ok' (c := "Kind") (v := .t (.tup Yz)) (app1P rfl oTup_sq) rfl (set_at il) Yaz (Nat.lt_of_sub_eq_succ rfl)) ?_
 rw [set_set]
 refine (fset_ok' (c := "Kind") (v := .t (.tup Yce)) rfl rfl (set_at il) Yaz (Nat.lt_of_sub_eq_succ rfl)).trans ?_
 rw [set_set]
 rfl
end
section
open TL
theorem app_at {hp : IH} {x : Option Cell} : (hp ++ [x])[hp.length]? = some x := by simp
theorem app_set {hp : IH} {x y : Option Cell} : (hp ++ [x]).set hp.length y = hp ++ [y] := by simp
theorem frz_made {F : M W} {eta : IS} {hp h1 : IH} {c : Str} {fs : List Yd9} {ts : List T} (h : F eta hp = .ok (.r h1.length) (h1 ++ [some (.ins c fs)])) (g : ∀ h, frzAll fs h = .ok ts h) : mFrzI F eta hp = .ok (.t (.ins c (fs.map (·.1)) ts)) (h1 ++ [none]) := by
 unfold mFrzI
 rw [h, zae]
 unfold freezeI
 simp only [app_at, g, zae, app_set]
structure KOk (n : Str) (ds : List Deed) : Prop where
 n : Nam n
 ok : ∀ d ∈ ds, DOk wW d
 nd : ((ds.filter fun d => decide (d.1 = ("write" : Str))).map (·.2)).Nodup
 hl : ds.length ≤ 1000
 h0 : 0 < ds.length
theorem wAdd_st {x y : Str} {hp : IH} (h : x.length + y.length ≤ 16777216) : wAdd (.t (.str x)) (.t (.str y)) hp = .ok (.t (.str (x ++ y))) hp := by
 unfold wAdd
 simp [h]
end
section
theorem makeX_ok {c : Str} {f : OpN} {ds : List T} {Fs : M (List W)} {eta : IS} {hp h1 : IH} {ws : List W} {fs : List Yd9} (h : Fs eta hp = .ok ws h1) (q : f Yei (h1 ++ [some (.ins c [])]) = .ok Yaw (h1 ++ [some (.ins c fs)])) :
  mMakeX c f ds Fs eta hp = .ok (.r h1.length) (h1 ++ [some (.ins c fs)]) := by
 unfold mMakeX
 rw [h, zae, q]
 rfl
theorem kind_made {b : Bool} {n : Str} {ds : List Deed} {Fs : M (List W)} {eta : IS} {hp h1 : IH} (K : KOk n ds) (h : Fs eta hp = .ok [.t (.str n), .t (sqT b Yz)] h1) :
  mFrzI (mMakeX "Kind" zas [] Fs) eta hp = .ok (.t (kndT n ds)) (h1 ++ [none]) := by
 have q := kind_init (b := b) (hp := h1 ++ [some (.ins "Kind" [])]) (i := h1.length) app_at K.n K.ok K.nd K.hl K.h0
 rw [app_set] at q
 exact frz_made (makeX_ok (ds := []) h q) fun _ => rfl
end
section
structure ScrP (w u : Str) (cs ctr : List Str) (m : Nat) (ds : List Deed) : Prop where
 ok : ∀ d ∈ ds, (d.1 = w ∧ d.2 ∈ cs) ∨ (d.1 = u ∧ d.2 ∈ ctr)
 nd : ((ds.filter fun d => decide (d.1 = w)).map (·.2)).Nodup
 len : ds.length ≤ m
 one : ∃ d ∈ ds, d.1 = w
theorem scrp_perm {w u : Str} {cs ctr ps : List Str} {m : Nat} {xs ys : List Deed} (p : xs.Perm ((ps.map fun x => ((w, x) : Deed)).take m ++ ys)) (nd : ps.Nodup) (hp : ∀ x ∈ ps, x ∈ cs) (h0 : 0 < ps.length) (m0 : 0 < m) (hy : ∀ y ∈ ys, y.1 = u ∧ y.2 ∈ ctr) (yl : ys.length ≤ m - ((ps.map fun x => ((w, x) : Deed)).take m).length) (hu : u ≠ w) : ScrP w u cs ctr m xs := by
 have e1 : (ps.map fun x => ((w, x) : Deed)).take m = (ps.take m).map fun x => (w, x) := (List.map_take ..).symm
 rw [e1] at p yl
 refine ⟨fun d hd => ?_, ?_, ?_, ?_⟩
 ·rcases List.mem_append.mp (p.mem_iff.mp hd) with h | h
  ·obtain ⟨x, hx, rfl⟩ := List.mem_map.mp h
   exact .inl ⟨rfl, hp x (List.mem_of_mem_take hx)⟩
  ·exact .inr (hy d h)
 ·refine (((p.filter fun d => decide (d.1 = w)).map (·.2)).nodup_iff).mpr ?_
  have f1 : ys.filter (fun d => decide (d.1 = w)) = [] := List.filter_eq_nil_iff.mpr fun d hd => by
   rw [(hy d hd).1]
   simpa using hu
  have f2 : ((ps.take m).map fun x => ((w, x) : Deed)).filter (fun d => decide (d.1 = w)) = (ps.take m).map fun x => (w, x) := List.filter_eq_self.mpr fun d hd => by
   obtain ⟨x, _, rfl⟩ := List.mem_map.mp hd
   simp
  rw [List.filter_append, f1, f2, List.append_nil, List.map_map]
  have : (fun x : Deed => x.2) ∘ (fun x : Str => ((w, x) : Deed)) = id := rfl
  rw [this, List.map_id]
  exact nd.sublist (List.take_sublist _ _)
 ·have := p.length_eq
  have l2 : ((ps.take m).map fun x => ((w, x) : Deed)).length ≤ m := by rw [List.length_map]; exact List.length_take_le ..
  rw [List.length_append] at this
  omega
 ·cases ps with
  | nil => simp at h0
  | cons x ps =>
   obtain ⟨k, rfl⟩ : ∃ k, m = k + 1 := ⟨m - 1, by omega⟩
   exact ⟨(w, x), p.mem_iff.mpr (List.mem_append.mpr (.inl Yal)), rfl⟩
end
section
variable {i j : Nat} {hp : IH}
theorem cutL_from2 {A : Type} (xs : List A) (k : Nat) : cutL xs (some (k : Int)) none = xs.drop k := by
 unfold cutL
 rw [HT.sIx_none, HT.sIx_nat]
 rcases Nat.le_total k xs.length with h | h
 ·rw [Nat.min_eq_left h, List.take_of_length_le (by rw [List.length_drop]; omega)]
 ·rw [Nat.min_eq_right h, List.drop_eq_nil_of_le Ydy, List.drop_eq_nil_of_le h, List.take_nil]
theorem oListF_l {ts : List T} : oListF [.t Yc1] hp = .ok Yw hp := by
 unfold oListF
 simp
theorem put_is {ds ms : List Deed} (d : Deal i j hp) (hl : ds.length + ms.length ≤ 1000) : ∃ (xs : List Deed) (hp' : IH), xs.Perm (ds ++ ms) ∧ F_w_put [.r i, .t (.lst Yce), .t Yer] hp = .ok (.t Ycu) hp' ∧ Deal i j hp' := by
 suffices h : Wp (F_w_put [.r i, .t (.lst Yce), .t Yer] hp) fun w h => ∃ xs : List Deed, xs.Perm (ds ++ ms) ∧ w = .t Ycu ∧ Deal i j h by
  obtain ⟨w, h1, e, xs, p, rfl, d1⟩ := h.ex
  exact ⟨xs, h1, p, e, d1⟩
 refine vc_fnM (eta := [some (.r i), some Yy, some (.t Yer), none, none, none]) rfl rfl ?_
 unfold B_w_put
 refine zap (zbd (zcf (zal (zba rfl (zbc (Wp.rw oListF_l (Wp.ok (za6 ?_))))))))
 refine zap (vc_for (vc_sq (zba rfl (vc_sqL ?_))))
 refine vc_loop (G := gN 4) (S := f_w_put_l1) (fun ws eta h => ∃ (xs rest : List Deed) (v4 v5 : Option W), ws = (rest.map dTr).map W.t ∧ (xs ++ rest).Perm (ds ++ ms) ∧ eta = [some (.r i), some Yy, some (.t Yer), some (.t Ycu), v4, v5] ∧ Deal i j h) ?_ _ _ _ ⟨ds, ms, none, none, rfl, .refl _, rfl, d⟩ ?_
 ·rintro w ws eta h ⟨xs, rest, v4, v5, ew, p, rfl, d⟩
  cases rest with
  | nil => simp at ew
  | cons y rest =>
   simp only [List.map_cons, List.cons.injEq] at ew
   obtain ⟨rfl, rfl⟩ := ew
   refine ⟨_, rfl, ?_⟩
   have pl := p.length_eq
   simp only [List.length_append, List.length_cons] at pl
   obtain ⟨n, h1, e1, n0, n1, d1, _⟩ := draw_is (wide := (xs.length : Nat) + 1) d Yc Yc
   obtain ⟨k, rfl⟩ : ∃ k : Nat, n = (k : Int) := ⟨n.toNat, by omega⟩
   unfold f_w_put_l1
   let E : Option W → IS := fun v5 => [some (.r i), some Yy, some (.t Yer), some (.t Ycu), some (.t (dTr y)), v5]
   have ln : (mBin wAdd Ybt Yt : M W) (E v5) h = .ok (.t (.int ((xs.length : Nat) + 1))) h := binP (app1P (a := .t Ycu) rfl Ybv) rfl rfl
   refine zap (zbd (vc_call (zal (zba rfl (zal (Wp.of ln (zbc (Wp.of e1 (za6 ?_)))))))))
   show Wp ((mSet 3 _ : M Fl) (E (some (.t Yb0))) h1) _
   have s1 : (mSl (mVar 3) zay (zbn (mVar 5)) : M W) (E (some (.t Yb0))) h1 = .ok (.t (.lst ((xs.take k).map dTr))) h1 := by
    show slW (.t Ycu) none (some (k : Int)) h1 = _
    simp only [slW, cutL_to, List.map_take]
   have s2 : (mSl (mVar 3) (zbn (mVar 5)) zay : M W) (E (some (.t Yb0))) h1 = .ok (.t (.lst ((xs.drop k).map dTr))) h1 := by
    show slW (.t Ycu) (some (k : Int)) none h1 = _
    simp only [slW, cutL_from2, List.map_drop]
   have lt : (xs.take k).length ≤ xs.length := List.length_take_le' ..
   have ld : (xs.drop k).length ≤ xs.length := by rw [List.length_drop]; omega
   have s3 : (mBin wAdd (mBin wAdd (mSl (mVar 3) zay (zbn (mVar 5))) (mApp zak Yu)) (mSl (mVar 3) (zbn (mVar 5)) zay) : M W) (E (some (.t Yb0))) h1 = .ok (.t (.lst ((xs.take k ++ [y] ++ xs.drop k).map dTr))) h1 := by
    have a1 := binP (f := wAdd) s1 (b := .t (.lst [dTr y])) (Fb := mApp zak Yu) rfl (r := .ok (.t (.lst ((xs.take k).map dTr ++ [dTr y]))) h1) (by rw [wAdd_ll, if_pos (by simp only [List.length_map, List.length_cons, List.length_nil]; omega)])
    refine binP a1 s2 ?_
    rw [wAdd_ll, if_pos (by simp only [List.length_append, List.length_map, List.length_cons, List.length_nil]; omega)]
    simp only [List.map_append, List.map_cons, List.map_nil]
   refine zbd (Wp.of s3 ⟨_, rfl, xs.take k ++ [y] ++ xs.drop k, rest, _, _, rfl, ?_, rfl, d1⟩)
   have q1 : (xs.take k ++ [y] ++ xs.drop k).Perm (xs ++ [y]) := by
    have : (xs.take k ++ ([y] ++ xs.drop k)).Perm (xs.take k ++ (xs.drop k ++ [y])) := List.Perm.append_left _ List.perm_append_comm
    rw [← List.append_assoc, ← List.append_assoc, List.take_append_drop] at this
    exact this
   have q2 := q1.append_right rest
   rw [List.append_assoc xs] at q2
   exact q2.trans p
 ·rintro e h ⟨xs, rest, v4, v5, ew, p, rfl, d⟩
  cases rest with
  | cons y rest => simp at ew
  | nil =>
   rw [List.append_nil] at p
   exact za6 (zb0 (zba rfl ⟨_, rfl, xs, p, rfl, d⟩))
end
section
variable {i j : Nat} {hp : IH}
theorem script_is {cs ctr : List Str} {m : Nat} (d : Deal i j hp) (nd : cs.Nodup) (c0 : 0 < cs.length) (cl : cs.length ≤ 100) (t0 : 0 < ctr.length) (tl : ctr.length ≤ 100) (m0 : 0 < m) (ml : m ≤ 100) : ∃ (ds : List Deed) (hp' : IH), ScrP "write" "bump" cs ctr m ds ∧ zb8 [.r i, .t Yd6, .t (.lst (ctr.map T.str)), .t (.int (m : Nat))] hp = .ok Yy hp' ∧ Deal i j hp' := by
 suffices h : Wp (zb8 [.r i, .t Yd6, .t (.lst (ctr.map T.str)), .t (.int (m : Nat))] hp) fun w h => ∃ ds : List Deed, ScrP "write" "bump" cs ctr m ds ∧ w = .t (.lst Yce) ∧ Deal i j h by
  obtain ⟨w, h1, e, ds, s, rfl, d1⟩ := h.ex
  exact ⟨ds, h1, s, e, d1⟩
 let V1 : Option W := some (.t Yd6)
 let V2 : Option W := some (.t (.lst (ctr.map T.str)))
 let V3 : Option W := some (.t (.int (m : Nat)))
 refine vc_fnM (eta := [some (.r i), V1, V2, V3, none, none, none, none, none]) rfl rfl ?_
 obtain ⟨zs, h1, p1, e1, d1, _⟩ := mixed_is (ts := cs.map T.str) d Yai fitL_strs
 obtain ⟨l, pl, el⟩ := perm_strs p1
 subst el
 obtain ⟨n, h2, e2, n0, n1, d2, _⟩ := draw_is (wide := (cs.length : Nat)) d1 Yc Yc
 have ll := pl.length_eq
 let ps : List Str := l.take (n.toNat + 1)
 have psl : ps.length = n.toNat + 1 := by simp only [ps, List.length_take]; omega
 have psn : ps.Nodup := (pl.nodup_iff.mpr nd).sublist (List.take_sublist _ _)
 have psm : ∀ x ∈ ps, x ∈ cs := fun x hx => pl.mem_iff.mp (List.mem_of_mem_take hx)
 unfold B_w_script
 have ol : ∀ {v4 : Option W}, (mApp oLen Yp : M W) [some (.r i), V1, V2, V3, v4, none, none, none, none] h1 = .ok (.t (.int (cs.length : Nat))) h1 := app1P (a := .t Yd6) rfl Ybv
 have sl : (mSl (zan zbz [] (zab (mVar 0) Yp)) zay (zbn (mBin wAdd Yt Ycj)) : M W) [some (.r i), V1, V2, V3, none, none, none, none, none] hp = .ok Yam h2 := by
  rw [p_sl, zao (ws := [.r i, .t Yd6]) rfl e1, zae, p_noPart, zae, p_part, bin_ok (h1 := h1) (h2 := h2) (a := .t (.int 1)) (b := .t (.int n)) (r := .ok (.t (.int (1 + n))) h2) rfl (zao (ws := [.r i, .t (.int (cs.length : Nat))]) (zau rfl (zau ol rfl)) e2) rfl, zae]
  show slW (.t (.lst (l.map T.str))) none (some (1 + n)) h2 = _
  have : 1 + n = ((n.toNat + 1 : Nat) : Int) := by omega
  simp only [slW, this, cutL_to, ps, List.map_take]
 refine zap (zbd (Wp.of sl (za6 ?_)))
 let St : List Deed := ps.map fun x => ("write", x)
 let E1 : IS := [some (.r i), V1, V2, V3, some Yam, none, none, none, none]
 have cp : (zb1 zak (mSq (mVar 4)) (gN 7) mYes zb5 [7] : M W) E1 h2 = .ok (.t (.lst (St.map dTr))) h2 := by
  refine comp_ok (ws := (ps.map T.str).map W.t) (ys := (St.map dTr).map W.t) (h1 := h2) (h2 := h2) rfl Yai ?_ (lst_ok (by simp [St]; omega))
  have e : St.map dTr = ps.map fun x => T.tup [.str "write", .str x] := by simp [St, dTr, Function.comp_def]
  rw [e]
  exact comp_all fun x _ => rfl
 let D1 : List Deed := St.take m
 have sl2 : (mSl (zb1 zak (mSq (mVar 4)) (gN 7) mYes zb5 [7]) zay (zbn (mVar 3)) : M W) E1 h2 = .ok (.t (.lst (D1.map dTr))) h2 := by
  rw [p_sl, cp, zae, p_noPart, zae]
  show slW (.t (.lst (St.map dTr))) none (some (m : Int)) h2 = _
  simp only [slW, cutL_to, D1, List.map_take]
 refine zap (zbd (Wp.of sl2 (za6 ?_)))
 obtain ⟨f, h3, e3, f0, f1, d3, _⟩ := draw_is (wide := 3) d2 Yc Yc
 let E2 : IS := [some (.r i), V1, V2, V3, some Yam, some (.t (.lst (D1.map dTr))), none, none, none]
 have rg : rng1 [.t (.int f)] h3 = .ok ((List.range f.toNat).map natW) h3 := by
  obtain ⟨k, rfl⟩ : ∃ k : Nat, f = (k : Int) := ⟨f.toNat, by omega⟩
  exact rng_is Yc
 have fl : f.toNat ≤ 3 := by omega
 refine zap (zbd (vc_comp (vc_src (zal (vc_call (zal (zba rfl (zal (vc_c (zbc (Wp.of e3 (zbc (Wp.rw rg (Wp.ok ⟨by simp; omega, ?_⟩))))))))))))))
 refine vc_compL (fun ws acc h => ∃ ys : List Deed, acc = (ys.map dTr).map W.t ∧ ys.length + ws.length = f.toNat ∧ (∀ y ∈ ys, y.1 = "bump" ∧ y.2 ∈ ctr) ∧ Deal i j h) ?_ _ [] _ _ ⟨[], rfl, by simp, by simp, d3⟩ ?_
 ·rintro w ws acc h ⟨ys, rfl, ly, hy, d⟩
  obtain ⟨t, h4, mt, e4, d4, _⟩ := pick_is (ts := ctr.map T.str) d Yai Yai
  obtain ⟨x, hx, rfl⟩ := List.mem_map.mp mt
  refine ⟨_, rfl, vc_yes ?_⟩
  simp only [if_true]
  unfold zb6
  refine zcf (zal (vc_c (zal (vc_call (zal (zba rfl (zal (zba rfl (zbc (Wp.of e4 (zbc (vc_tupE (ts := [.str "bump", .str x]) rfl Yal ⟨ys ++ ([("bump", x)] : List Deed), by simp [dTr], ?_, ?_, d4⟩))))))))))))
  ·simp only [List.length_append, List.length_cons, List.length_nil] at ly ⊢
   omega
  ·intro y hy'
   rcases List.mem_append.mp hy' with h' | h'
   ·exact hy y h'
   ·rw [List.mem_singleton.mp h']
    exact ⟨rfl, hx⟩
 rintro r h4 ⟨ys, er, ly, hy, d4⟩
 rw [List.nil_append] at er
 subst er
 simp only [List.length_nil, Nat.add_zero] at ly
 refine vc_lstM Yai (za6 ?_)
 let E3 : IS := [some (.r i), V1, V2, V3, some Yam, some (.t (.lst (D1.map dTr))), some (.t (.lst (ys.map dTr))), none, none]
 have dl : D1.length ≤ m := List.length_take_le ..
 have sl3 : (mSl (mVar 6) zay Yfd : M W) E3 h4 = .ok (.t (.lst ((ys.take (m - D1.length)).map dTr))) h4 := by
  have o5 : (mApp oLen (zab (mVar 5) (mNil)) : M W) E3 h4 = .ok (.t (.int (D1.length : Nat))) h4 := app1P (a := .t (.lst (D1.map dTr))) rfl Ybv
  rw [p_sl, varP (w := .t (.lst (ys.map dTr))) rfl, zae, p_noPart, zae, p_part, bin_ok (h1 := h4) (h2 := h4) (a := .t (.int (m : Nat))) (b := .t (.int (D1.length : Nat))) (r := .ok (.t (.int ((m : Nat) - (D1.length : Nat) : Int))) h4) rfl o5 rfl, zae]
  show slW (.t (.lst (ys.map dTr))) none (some ((m : Nat) - (D1.length : Nat) : Int)) h4 = _
  rw [show ((m : Nat) - (D1.length : Nat) : Int) = ((m - D1.length : Nat) : Int) by omega]
  simp only [slW, cutL_to, List.map_take]
 have sl1 : St.length = n.toNat + 1 := by simp only [St, List.length_map, psl]
 have dl1 : D1.length ≤ 100 := by omega
 have yl : (ys.take (m - D1.length)).length ≤ m - D1.length := List.length_take_le ..
 obtain ⟨xs, h5, px, e5, d5⟩ := put_is (ds := D1) (ms := ys.take (m - D1.length)) d4 Yc
 refine zb0 (vc_call (zal (zba rfl (zal (zba rfl (zal (Wp.of sl3 (zbc (Wp.of e5 ⟨_, rfl, xs, ?_, rfl, d5⟩)))))))))
 exact scrp_perm px psn psm Yc m0 (fun y hy' => hy y (List.mem_of_mem_take hy')) yl Ym
end
section
variable {eta : IS} {hp : IH}
theorem vc_ifE {A : Type} {QA : A → IH → Prop} {U : M Bool} {F G : M A} {b : Bool} (e : U eta hp = .ok b hp) (t : b = true → Wp Ycy QA) (f : b = false → Wp (G eta hp) QA) : Wp (mIf U F G eta hp) QA := by
 refine vc_if (Wp.of e ?_)
 cases b with
 | true => exact Wp.itt rfl (t rfl)
 | false => exact Wp.itf Yaz (f rfl)
theorem andE {U V : M Bool} {a b : Bool} (h : U eta hp = .ok a hp) (h' : a = true → V eta hp = .ok b hp) : mAnd U V eta hp = .ok (a && b) hp := by
 show (U eta hp).bind _ = _
 rw [h, zae]
 cases a with
 | true => simpa using h' rfl
 | false => rfl
theorem orE {U V : M Bool} {a b : Bool} (h : U eta hp = .ok a hp) (h' : a = false → V eta hp = .ok b hp) : mOr U V eta hp = .ok (a || b) hp := by
 show (U eta hp).bind _ = _
 rw [h, zae]
 cases a with
 | false => simpa using h' rfl
 | true => rfl
end
section
open TL
variable {i j : Nat} {hp : IH}
abbrev ttl : List Str := ["move", "add", "w", "both", "r", "iff", "zzzz"]
theorem ttl_nam : ∀ x ∈ ttl, namB x = true := by decide +kernel
theorem wrd_write : Wrd "write" := wrd_ok Ym
theorem wrd_bump : Wrd "bump" := wrd_ok Ym
theorem titles_is (d : Deal i j hp) : ∃ (x : Str) (hp' : IH), x ∈ ttl ∧ zcp [.r i, .t (.int 1)] hp = .ok (.t (.lst [.str x])) hp' ∧ Deal i j hp' := by
 obtain ⟨zs, h1, p1, e1, d1, _⟩ := mixed_is (ts := ttl.map T.str) d Yal fitL_strs
 obtain ⟨l, pl, el⟩ := perm_strs p1
 subst el
 match l, pl with
 | [], p => exact absurd p.length_eq Yal
 | x :: l, p =>
  refine ⟨x, h1, p.mem_iff.mp Yan, fnM_ok (eta := [some (.r i), some (.t (.int 1))]) rfl rfl ?_, d1⟩
  unfold B_w_titles
  rw [p_ret, p_sl, zao (ws := [.r i, .t (.lst (ttl.map T.str))]) rfl e1, zae]
  rfl
theorem deed_texts_is {ds : List Deed} (hl : ds.length ≤ 1000) (h : ∀ d ∈ ds, (dTx d).length ≤ 15) : zbr [.t (.lst Yce)] hp = .ok (.t (.lst Yz)) hp := by
 refine fnP_ok (ts := [.lst Yce]) (eta := [some Yy, none, none]) rfl rfl (h1 := []) ?_
 unfold B_w_deed_texts
 have q := comp_g (G := gT 2 (gsC (gN 1) (gsC (gN 2) gsN))) (U := mYes) (E := zbf) (eta := [some Yy, none, none]) (hp := []) (src := fun d : Deed => W.t (dTr d))
  (loc := fun d => [some Yy, some (.t (.str d.1)), some (.t (.str d.2))]) (p := fun _ => true) (g := fun d => .str (dTx d)) ds Ycx Ycx (fun d hd _ => by
   have l1 := h d hd
   unfold dTx at l1
   rw [len_app, len_app] at l1
   unfold zbf
   exact binP (binP (a := .t (.str d.1)) (b := .t (.str " ")) rfl rfl (wAdd_st Yc)) (b := .t (.str d.2)) rfl (wAdd_st (by rw [len_app]; omega)))
 rw [filter_all] at q
 rw [p_ret, comp_ok (ws := (ds.map dTr).map W.t) (ys := (ds.map fun d => T.str (dTx d)).map W.t) (h1 := []) (h2 := []) rfl Yai (by rw [List.map_map]; exact q) (lst_ok Yai)]
 rfl
end
section
open TL
variable {hp : IH} {x s : Str} {v : T}
theorem wpV {A : Type} {r : Res A} {a : A} {h0 : IH} (q : Wp r fun w h => w = a ∧ h = h0) : r = .ok a h0 := by
 obtain ⟨w, h1, e, rfl, rfl⟩ := q.ex
 exact e
theorem notE {eta : IS} {U : M Bool} {a : Bool} (h : U eta hp = .ok a hp) : mNot U eta hp = .ok (!a) hp := by rw [p_not, h, zae]
def lowB (x : Str) : Bool := (tl x).all fun c => decide (97 ≤ c) && decide (c ≤ 122)
def barL : List Str := ["if", "bump", "even", "kind", "look", "read", "same"]
def nmB (x : Str) : Bool := !decide (x ∈ barL) && (decide (1 ≤ x.length) && decide (x.length ≤ 4)) && lowB x
/-- a value that is no instance, no type, no error -/
def plnT : T → Bool
 | .non | .bl _ | .int _ | .str _ | .tup _ | .lst _ | .scr _ | .pr _ | .dic _ _ => true
 | _ => false
def strT : T → Bool
 | .str _ => true
 | _ => false
def nmT : T → Bool
 | .str x => nmB x
 | _ => false
theorem isi_str (h : plnT v = true) : oIsi isTab [.t v, .t (.ty "str")] hp = .ok (.t (.bl (strT v))) hp := by
 cases v <;> first | rfl | (simp [plnT] at h)
theorem abc_mem {c : Nat} : c ∈ (Str.ofString "abcdefghijklmnopqrstuvwxyz").cps.toList ↔ 97 ≤ c ∧ c ≤ 122 := by
 have e : (Str.ofString "abcdefghijklmnopqrstuvwxyz").cps.toList = List.range' 97 26 := by decide +kernel
 rw [e, List.mem_range'_1]
 omega
theorem oLen_str (h : x.length ≤ 16777216) : oLen [.t (.str x)] hp = .ok (.t (.int (x.length : Nat))) hp := by
 show (if x.length ≤ 16777216 then (.ok (.t (.int (x.length : Nat))) hp : Res W) else .bad) = _
 rw [if_pos h]
theorem sgn_in {c : Nat} {neg : Bool} : inS neg (.t (.str ⟨#[c]⟩)) (.t (.str "abcdefghijklmnopqrstuvwxyz")) hp = .ok (.t (.bl (if neg then !(decide (97 ≤ c) && decide (c ≤ 122)) else decide (97 ≤ c) && decide (c ≤ 122)))) hp := by
 have e : decide (c ∈ (Str.ofString "abcdefghijklmnopqrstuvwxyz").cps.toList) = (decide (97 ≤ c) && decide (c ≤ 122)) := by
  rw [Bool.eq_iff_iff, decide_eq_true_eq, abc_mem, Bool.and_eq_true, decide_eq_true_eq, decide_eq_true_eq]
 show Res.ok (W.t (.bl (if neg then !decide (c ∈ (Str.ofString "abcdefghijklmnopqrstuvwxyz").cps.toList) else decide (c ∈ (Str.ofString "abcdefghijklmnopqrstuvwxyz").cps.toList)))) hp = _
 rw [e]
theorem len_iff : (decide (1 ≤ x.length) && decide (x.length ≤ 4)) = (decide ((1 : Int) ≤ (x.length : Nat)) && decide (((x.length : Nat) : Int) ≤ 4)) := by
 have a : decide (1 ≤ x.length) = decide ((1 : Int) ≤ (x.length : Nat)) := by rw [decide_eq_decide]; omega
 have b : decide (x.length ≤ 4) = decide (((x.length : Nat) : Int) ≤ 4) := by rw [decide_eq_decide]; omega
 rw [a, b]
theorem isname_s (hl : x.length ≤ 16777216) : zaz [.t (.str x)] hp = .ok (.t (.bl (nmB x))) hp := by
 suffices hh : Wp (zaz [.t (.str x)] hp) fun w h => w = .t (.bl (nmB x)) ∧ h = hp by
  obtain ⟨w, h1, e, rfl, rfl⟩ := hh.ex
  exact e
 let E : Option W → IS := fun w1 => [some (.t (.str x)), w1]
 refine vc_fnP (ts := [.str x]) (eta := E none) rfl rfl ?_
 unfold B_is_name
 have u1 : (mNot Yac : M Bool) (E none) [] = .ok false [] := notE (a := true) rfl
 have u2 : (zaj asB Yb1 : M Bool) (E none) [] = .ok (decide (x ∈ barL)) [] := zco (binP rfl rfl in_strs)
 have u3 : (mNot Ye8 : M Bool) (E none) [] = .ok (!(decide (1 ≤ x.length) && decide (x.length ≤ 4))) [] := by
  refine notE (zco ?_)
  rw [len_iff, p_chain]
  have l : (mApp oLen Ycd : M W) (E none) [] = .ok (.t (.int (x.length : Nat))) [] := app1P rfl (oLen_str hl)
  rw [show (mC (.int 1) : M W) (E none) [] = .ok (.t (.int 1)) [] from rfl, zae, l, zae, ev_le, zae]
  cases decide ((1 : Int) ≤ (x.length : Nat)) with
  | true => simp only [Bool.true_and]; rfl
  | false => rfl
 refine zap (vc_ifE (orE u1 fun _ => orE u2 fun _ => u3) (fun h => zb0 (vc_c (vc_rt ⟨_, rfl, ?_, rfl⟩))) fun h => zbq (za6 ?_))
 ·have : nmB x = false := by
   unfold nmB
   simp only [Bool.false_or, Bool.or_eq_true, Bool.not_eq_true', decide_eq_true_eq] at h
   rcases h with h | h
   ·simp [h]
   ·rw [h]; simp
  rw [this]
 ·have nb : (!decide (x ∈ barL) && (decide (1 ≤ x.length) && decide (x.length ≤ 4))) = true := by
   simp only [Bool.false_or, Bool.or_eq_false_iff, Bool.not_eq_false'] at h
   rw [h.1, h.2]
   rfl
  have x4 : x.length ≤ 4 := by
   simp only [Bool.and_eq_true, decide_eq_true_eq] at nb
   exact nb.2.2
  have e : nmB x = lowB x := by
   unfold nmB
   rw [nb, Bool.true_and]
  rw [e]
  refine zb0 (zcf (zal (vc_comp (Wp.of (a := signs x) (h := []) rfl ⟨?_, ?_⟩))))
  ·show ((tl x).map _).length ≤ _
   rw [List.length_map, ← len_tl]
   omega
  refine vc_mapA (G := gN 1) (E := zcj) (src := fun c : Nat => W.t (.str ⟨#[c]⟩)) (g := fun c => T.bl (decide (97 ≤ c) && decide (c ≤ 122))) (tl x) (fun c hc => ⟨E (some (.t (.str ⟨#[c]⟩))), rfl, ?_⟩) ?_
  ·unfold zcj
   exact binP rfl rfl sgn_in
  ·refine vc_lstM (by rw [List.length_map, ← len_tl]; omega) (zbc ?_)
   have : (tl x).map (fun c => T.bl (decide (97 ≤ c) && decide (c ≤ 122))) = ((tl x).map fun c => (decide (97 ≤ c) && decide (c ≤ 122))).map T.bl := by rw [List.map_map]; rfl
   rw [this]
   refine Wp.rw bools_all (Wp.ok ⟨_, rfl, ?_, rfl⟩)
   rw [List.all_map]
   rfl
theorem isname_T (h : plnT v = true) (hl : ∀ x, v = .str x → x.length ≤ 16777216) : zaz [.t v] hp = .ok (.t (.bl (nmT v))) hp := by
 cases v <;> first | exact isname_s (hl _ rfl) | rfl | (simp [plnT] at h)
/-- a name, as the texts want it -/
theorem nam_of (h : nmB x = true) : Nam x := by
 have hb : (!decide (x ∈ barL)) = true ∧ (decide (1 ≤ x.length) && decide (x.length ≤ 4)) = true ∧ lowB x = true := by
  unfold nmB at h
  rw [Bool.and_eq_true, Bool.and_eq_true] at h
  exact ⟨h.1.1, h.1.2, h.2⟩
 have hl : x.length ≤ 4 := by
  have := hb.2.1
  simp only [Bool.and_eq_true, decide_eq_true_eq] at this
  exact this.2
 refine ⟨fun hp => by rw [isname_s Yc, h], fun c hc => ?_, hl, fun e => ?_⟩
 ·have := List.all_eq_true.mp hb.2.2 c hc
  simpa using this
 ·have := hb.1
  simp [barL, e] at this
theorem nam_to (h : Nam x) : nmB x = true := by
 have a := h.is []
 have l := h.ln
 rw [isname_s Yc] at a
 simpa using a
def deedP (ws : List Str) : List Str → Option Deed
 | [a, b] => if a ∈ ws ∧ nmB b = true then some (a, b) else none
 | _ => none
def deedS (ws : List Str) (s : Str) : Option Deed := deedP ws (Txt.split s " ")
def zbe (ws : List Str) : T → Option Deed
 | .str s => deedS ws s
 | _ => none
def optT : Option Deed → T
 | some d => dTr d
 | none => .non
theorem ts_join {s : Str} : Txt.join " " (Txt.split s " ") = s := by rw [TL.join_eq]; exact PySem.StrLaws.join_split s " "
theorem join_ge {y : Str} : ∀ {ps : List Str} {p : Str}, p ∈ ps → p.length ≤ (Txt.join y ps).length
 | [a], p, h => by rw [List.mem_singleton.mp h, join_one]; exact Nat.le_refl _
 | a :: b :: r, p, h => by
  rw [join_cons2, len_app, len_app]
  rcases List.mem_cons.mp h with rfl | h
  ·omega
  ·have := join_ge (y := y) h
   omega
theorem split_joined {a y : Str} : Txt.join y (Txt.split a y) = a := by rw [TL.join_eq]; exact PySem.StrLaws.join_split a y
theorem split_le {a y p : Str} (h : p ∈ Txt.split a y) : p.length ≤ a.length := by
 have := join_ge (y := y) h
 rw [split_joined] at this
 exact this
theorem deedS_tx {ws : List Str} {d : Deed} (h : deedS ws s = some d) : s = dTx d ∧ d.1 ∈ ws ∧ nmB d.2 = true := by
 unfold deedS at h
 generalize e : Txt.split s " " = ps at h
 unfold deedP at h
 split at h
 ·rename_i a b
  split at h
  ·rename_i c
   cases h
   have := ts_join (s := s)
   rw [e, join_cons2, join_one] at this
   exact ⟨this.symm, c⟩
  ·cases h
 ·cases h
theorem deed_two {ws ps : List Str} {w0 : Option W} (pl : ∀ p ∈ ps, p.length ≤ 1000000) :
  Wp ((mSeq Yd Ya5 : M Fl) [w0, some (.t Yag), some Yam] []) fun fl _ => fl = .rt (.t (optT (deedP ws ps))) := by
 have v1 : ∀ ps : List Str, (zaj asB (mBin Ybx (mApp oLen Yc2) (mC (.int 2))) : M Bool) [w0, some (.t Yag), some Yam] [] = .ok (!decide (ps.length = 2)) [] := fun ps => by
  refine zco (binP (app1P (a := .t (.lst (ps.map T.str))) rfl Ybv) rfl (ev_eqi.trans ?_))
  have : decide (((ps.length : Nat) : Int) = 2) = decide (ps.length = 2) := by rw [decide_eq_decide]; omega
  simp only [if_true, this]
 have no : ∀ ps : List Str, ps.length ≠ 2 → Wp ((mSeq Yd Ya5 : M Fl) [w0, some (.t Yag), some Yam] []) fun fl _ => fl = .rt Yaw := fun ps h => by
  have e := v1 ps
  rw [decide_eq_false h] at e
  exact zap (vc_ifE (b := true) (orE (a := true) (b := true) e fun z => by cases z) (fun c => zb0 (vc_c (vc_rt rfl))) fun c => by cases c)
 match ps, pl with
 | [a, b], pl =>
  let F : IS := [w0, some (.t Yag), some (.t (.lst ([a, b].map T.str)))]
  have i0 : (mBin ixW (mVar 2) Yj : M W) F [] = .ok Yea [] := binP rfl rfl ev_ixl0
  have i1 : (mBin ixW (mVar 2) Yt : M W) F [] = .ok (.t (.str b)) [] := binP rfl rfl ev_ixl1
  have v2 : (zaj asB (mBin (inW true) (mBin ixW (mVar 2) Yj) (mVar 1)) : M Bool) F [] = .ok (!decide (a ∈ ws)) [] := zco (binP i0 rfl in_strs)
  have bl := pl b Yal
  have v3 : (mNot (zaj truW (zan zaz [] (zab (mBin ixW (mVar 2) Yt) (mNil)))) : M Bool) F [] = .ok (!nmB b) [] := notE (by
   rw [p_test, zao (ws := [.t (.str b)]) (zau i1 rfl) (isname_s Yc)]
   rfl)
  refine zap (vc_ifE (orE (v1 [a, b]) fun _ => orE v2 fun _ => v3) (fun c => zb0 (vc_c (vc_rt ?_))) fun c => zbq (za6 ?_))
  ·have : ¬ (a ∈ ws ∧ nmB b = true) := fun z => by simp [z.1, z.2] at c
   simp only [deedP, if_neg this]
   rfl
  ·have : a ∈ ws ∧ nmB b = true := by simpa using c
   simp only [deedP, if_pos this]
   exact zb0 (zcf (zal (Wp.of i0 (zal (Wp.of i1 (zbc (vc_tupE rfl Ya8 rfl)))))))
 | [], _ => exact no [] Yal
 | [a], _ => exact no [a] Yal
 | a :: b :: c0 :: r, _ => exact no (a :: b :: c0 :: r) Yal
theorem deed_T {ws : List Str} (h : plnT v = true) (hl : ∀ x, v = .str x → x.length ≤ 1000000) : zcn [.t v, .t Yag] hp = .ok (.t (optT (zbe ws v))) hp := by
 suffices hh : Wp (zcn [.t v, .t Yag] hp) fun w h => w = .t (optT (zbe ws v)) ∧ h = hp by
  obtain ⟨w, h1, e, rfl, rfl⟩ := hh.ex
  exact e
 let E : Option W → IS := fun w2 => [some (.t v), some (.t Yag), w2]
 refine vc_fnP (ts := [v, .tup (ws.map T.str)]) (eta := E none) rfl rfl ?_
 unfold B_deed_in
 have u1 : (mNot Yac : M Bool) (E none) [] = .ok (!strT v) [] := notE (by
  rw [p_test, show mApp (oIsi isTab) (zab (mVar 0) (zab (mC (.ty "str")) (mNil))) (E none) [] = oIsi isTab [.t v, .t (.ty "str")] [] from rfl, isi_str h]
  rfl)
 refine zap (vc_ifE u1 (fun c => zb0 (vc_c (vc_rt ⟨_, rfl, ?_, rfl⟩))) fun c => zbq (za6 ?_))
 ·cases v <;> first | rfl | (simp [strT] at c)
 obtain ⟨s, rfl⟩ : ∃ s, v = .str s := by
  cases v <;> first | exact ⟨_, rfl⟩ | (simp [strT] at c)
 have sl := hl s rfl
 have sp : (mSM oSplit (mVar 0) (mC (.str " ")) : M W) (E none) [] = .ok (.t (.lst ((Txt.split s " ").map T.str))) [] := sm_ok rfl rfl (split_is rfl Ym Yc)
 refine zap (zbd (Wp.of sp (za6 ?_)))
 refine (deed_two (w0 := some (.t (.str s))) fun p hp => Nat.le_trans (split_le hp) sl).mono fun fl h e => ⟨_, e, ?_, rfl⟩
 rfl
end
section
open TL
variable {hp : IH} {ws : List Str} {w0 : Str} {v : T} {ts : List T}
def seqB : T → Bool
 | .tup _ | .lst _ | .scr _ | .pr _ => true
 | _ => false
theorem isseq_T (h : plnT v = true) : za5 [.t v] hp = .ok (.t (.bl (seqB v))) hp := by
 cases v <;> first | exact fnP_ok (ts := [_]) (eta := [some (.t _)]) rfl rfl (h1 := []) rfl | (simp [plnT] at h)
/-- a step as the reading of any value wants it -/
structure StepOk (t : T) : Prop where
 p : plnT t = true
 l : ∀ x, t = .str x → x.length ≤ 1000000
def allD (ws : List Str) : List T → Option (List Deed)
 | [] => some []
 | t :: r => match zbe ws t, allD ws r with
  | some d, some ds => some (d :: ds)
  | _, _ => none
def wrN (w0 : Str) (ds : List Deed) : List Str := (ds.filter fun d => decide (d.1 = w0)).map (·.2)
def zbx (w0 : Str) (ws : List Str) (ts : List T) : Option (List Deed) := match allD Yby ts with
 | some ds => if (wrN w0 ds).Nodup then some ds else none
 | none => none
/-- what deeds_in tells -/
def dsT : Option (List Deed) → T
 | some ds => .tup Yce
 | none => .non
theorem allD_some : ∀ {ts : List T} {ds : List Deed}, allD ws ts = some ds → ts = ds.map (fun d => T.str (dTx d)) ∧ ∀ d ∈ ds, d.1 ∈ ws ∧ nmB d.2 = true
 | [], ds, h => by
  simp only [allD, Option.some.injEq] at h
  subst h
  exact ⟨rfl, by simp⟩
 | t :: r, ds, h => by
  unfold allD at h
  split at h
  ·rename_i d ds' h1 h2
   cases h
   obtain ⟨e, ok⟩ := allD_some h2
   cases t with
   | str s =>
    obtain ⟨e1, e2, e3⟩ := deedS_tx (show deedS ws s = some d from h1)
    refine ⟨by rw [List.map_cons, ← e, e1], fun x hx => ?_⟩
    rcases List.mem_cons.mp hx with rfl | hx
    ·exact ⟨e2, e3⟩
    ·exact ok x hx
   | _ => cases h1
  ·cases h
theorem allD_found : ∀ {ts : List T}, (∃ ds, allD ws ts = some ds ∧ ts.map (fun t => optT (zbe ws t)) = ds.map dTr ∧ ts.filterMap (zbe ws) = ds) ∨ (allD ws ts = none ∧ ∃ t ∈ ts, zbe ws t = none)
 | [] => .inl ⟨[], rfl, rfl, rfl⟩
 | t :: r => by
  cases e : zbe ws t with
  | none =>
   refine .inr ⟨?_, t, List.mem_cons_self .., e⟩
   simp only [allD, e]
  | some d =>
   rcases allD_found (ts := r) with ⟨ds, h1, h2, h3⟩ | ⟨h1, u, hu, h2⟩
   ·refine .inl ⟨d :: ds, by simp only [allD, e, h1], by rw [List.map_cons, List.map_cons, h2, e]; rfl, by rw [List.filterMap_cons, e]; simp only [h3]⟩
   ·exact .inr ⟨by simp only [allD, e, h1], u, List.mem_cons_of_mem _ hu, h2⟩
theorem opt_fit {ws : List Str} : ∀ ts : List T, fitL (ts.map fun t => optT (zbe ws t)) 60 = true
 | [] => rfl
 | t :: r => by
  simp only [List.map_cons, fitL, opt_fit r, Bool.and_true]
  cases zbe ws t <;> rfl
/-- each once: fewer where some come twice -/
theorem once_le : ∀ (ks acc : List Key), (ks.foldl addK acc).length ≤ acc.length + ks.length
 | [], acc => by simp
 | k :: ks, acc => by
  rw [List.foldl_cons]
  have := once_le ks (addK acc k)
  unfold addK at this ⊢
  split at this
  ·rename_i h; rw [if_pos h]; rw [List.length_cons]; omega
  ·rename_i h; rw [if_neg h]; rw [List.length_append, List.length_singleton] at this; rw [List.length_cons]; omega
theorem once_lt : ∀ (ks acc : List Key), acc.Nodup → ¬ (acc ++ ks).Nodup → (ks.foldl addK acc).length < acc.length + ks.length
 | [], acc, a, n => absurd (by rw [List.append_nil]; exact a) n
 | k :: ks, acc, a, n => by
  rw [List.foldl_cons]
  by_cases h : memK k acc = true
  ·have e : addK acc k = acc := by unfold addK; rw [if_pos h]
   rw [e]
   have := once_le ks acc
   rw [List.length_cons]
   omega
  ·have e : addK acc k = acc ++ [k] := by unfold addK; rw [if_neg h]
   rw [e]
   have hk : k ∉ acc := fun m => h (by
    simp only [memK, List.any_eq_true, decide_eq_true_eq]
    exact ⟨k, m, rfl⟩)
   have := once_lt ks (acc ++ [k]) (by
    rw [List.nodup_append]
    exact ⟨a, by simp, fun x hx y hy e => by rw [List.mem_singleton.mp hy] at e; exact hk (e ▸ hx)⟩) (by rw [List.append_assoc]; exact n)
   rw [List.length_append, List.length_singleton] at this
   rw [List.length_cons]
   omega
theorem lenset_iff {F : M W} {eta : IS} {h1 : IH} {l : List Str} (h : F eta hp = .ok (.t (.lst (l.map T.str))) h1) (hl : l.length ≤ 4000) : ∃ n : Nat, mLenSet F eta hp = .ok (.t (.int (n : Nat))) h1 ∧ (n = l.length ↔ l.Nodup) := by
 by_cases nd : l.Nodup
 ·exact ⟨l.length, lenset_nd h nd hl, by simp [nd]⟩
 ·have n2 : ¬ (l.map Yco).Nodup := fun z => nd ((List.pairwise_map.mp z).imp fun h e => h (by rw [e]))
  have lt := once_lt (l.map Yco) [] List.nodup_nil (by simpa using n2)
  simp only [List.length_nil, List.length_map, Nat.zero_add] at lt
  refine ⟨(zb4 (l.map Yco)).length, ?_, ?_⟩
  ·unfold mLenSet
   rw [h, zae, litems_l, Option.bind_some, keysOf_strs]
   simp only [List.length_map, hl, if_true]
  ·constructor
   ·intro e
    have : (zb4 (l.map Yco)).length = l.length := e
    unfold zb4 at this
    omega
   ·exact fun z => absurd z nd
theorem wr_found : ∀ ts : List T, ((ts.filter fun t => match zbe Yby t with | some d => decide (d.1 = w0) | none => false).map fun t => match zbe Yby t with | some d => T.str d.2 | none => .non) = (wrN w0 (ts.filterMap (zbe Yby))).map T.str
 | [] => rfl
 | t :: r => by
  have ih := wr_found r
  unfold wrN at ih ⊢
  rw [List.filter_cons, List.filterMap_cons]
  cases e : zbe (w0 :: ws) t with
  | none => simp only [Bool.false_eq_true, if_false]; exact ih
  | some d =>
   simp only [List.filter_cons]
   by_cases c : d.1 = w0
   ·simp only [decide_eq_true c, if_true, List.map_cons, e, ih]
   ·simp only [decide_eq_false c, Bool.false_eq_true, if_false]; exact ih
/-- deeds_in of a list or a tuple -/
theorem deeds_L {b : Bool} (hs : ∀ t ∈ ts, StepOk t) (hl : ts.length ≤ 1000) : zbb [.t (sqT b ts), .t Y3] hp = .ok (.t (dsT (zbx w0 ws ts))) hp := by
 suffices hh : Wp (zbb [.t (sqT b ts), .t Y3] hp) fun w h => w = .t (dsT (zbx w0 ws ts)) ∧ h = hp by
  obtain ⟨w, h1, e, rfl, rfl⟩ := hh.ex
  exact e
 let E : Option W → Option W → Option W → Option W → IS := fun w2 w3 w4 w5 => [some (.t (sqT b ts)), some (.t Y3), w2, w3, w4, w5]
 refine vc_fnP (ts := [sqT b ts, .tup ((w0 :: ws).map T.str)]) (eta := E none none none none) rfl rfl ?_
 unfold B_deeds_in
 have u1 : (mNot (zaj truW (zan za5 [] Ycd)) : M Bool) (E none none none none) [] = .ok false [] := notE (a := true) (by rw [p_test, zao (ws := [.t (sqT b ts)]) rfl seq_isq]; rfl)
 refine zap (vc_ifE u1 Yd7 fun _ => zbq (za6 ?_))
 let Fd : List T := ts.map fun t => optT (zbe Yby t)
 have c1 : zb1 zak (mSq (mVar 0)) (gN 4) mYes za9 [4] (E none none none none) [] = .ok (.t (.lst Fd)) [] := by
  refine wpV (vc_comp (vc_sq (zba rfl (Wp.of sqI_sq ⟨by rw [List.length_map]; omega, ?_⟩))))
  refine vc_mapA (G := gN 4) (E := za9) (src := fun t : T => W.t t) (g := fun t => optT (zbe Yby t)) ts (fun t ht => ⟨E none none (some (.t t)) none, rfl, ?_⟩) (vc_lstM (by rw [List.length_map]; omega) ⟨rfl, rfl⟩)
  exact zao (ws := [.t t, .t Y3]) rfl (deed_T (hs t ht).p (hs t ht).l)
 refine zap (zbd (Wp.of c1 (za6 ?_)))
 show Wp ((mSeq _ _ : M Fl) (E Ybl none none none) []) _
 let ps : List Str := wrN w0 (ts.filterMap (zbe Yby))
 have pl : ps.length ≤ ts.length := by
  simp only [ps, wrN, List.length_map]
  exact Nat.le_trans (List.length_filter_le _ _) (List.length_filterMap_le _ _)
 have c2 : zb1 zak Ydr (gN 5) zax za1 [5] (E Ybl none none none) [] = .ok Yam [] := by
  refine wpV (vc_comp (vc_sq (zba rfl (vc_sqL ⟨by simp only [Fd, List.length_map]; omega, ?_⟩))))
  have q := vc_mapG (G := gN 5) (U := zax) (E := za1) (eta := E Ybl none none none) (hp := []) (src := fun t : T => W.t (optT (zbe Yby t))) (p := fun t => match zbe Yby t with | some d => decide (d.1 = w0) | none => false) (g := fun t => match zbe Yby t with | some d => T.str d.2 | none => .non) ts (fun t _ => ⟨E Ybl none none (some (.t (optT (zbe Yby t)))), rfl, ?_, ?_⟩)
  ·have e1 : Fd.map W.t = ts.map fun t => W.t (optT (zbe Yby t)) := by simp only [Fd, List.map_map]; rfl
   rw [e1]
   refine Wp.of q ?_
   rw [wr_found]
   exact vc_lstM (by rw [List.length_map]; show ps.length ≤ _; omega) ⟨rfl, rfl⟩
  ·unfold zax
   cases e : zbe (w0 :: ws) t with
   | none => rfl
   | some d =>
    have a : (zaj asB (mBin (isN true) (mVar 5) Ybq) : M Bool) (E Ybl none none (some (.t (dTr d)))) [] = .ok true [] := rfl
    have c : (zaj asB Ybn : M Bool) (E Ybl none none (some (.t (dTr d)))) [] = .ok (decide (d.1 = w0)) [] := zco (binP (a := .t (.str d.1)) (b := .t (.str w0)) (binP rfl rfl ev_ixt0) (binP rfl rfl ev_ixt0) (ev_eqs.trans Yal))
    have := andE (U := zaj asB (mBin (isN true) (mVar 5) Ybq)) (V := zaj asB Ybn) (eta := E Ybl none none (some (.t (dTr d)))) (hp := []) a fun _ => c
    rw [Bool.true_and] at this
    exact this
  ·intro c
   cases e : zbe (w0 :: ws) t with
   | none => rw [e] at c; cases c
   | some d => exact binP (a := .t (dTr d)) (b := .t (.int 1)) rfl rfl ev_ixt1
 refine zap (zbd (Wp.of c2 (za6 ?_)))
 let G : IS := E Ybl (some Yam) none none
 show Wp ((mRet _ : M Fl) G []) _
 have ni : inW false Yaw (.t (.lst Fd)) [] = .ok (.t (.bl (Fd.any fun y => Mir.eqT y .non))) [] := by
  have e2 : (items [] (.t (.lst Fd))).bind allT = some Fd := allT_ts Fd
  unfold inW
  simp only [show asT [] Yaw = some .non from rfl, e2, show fit .non 60 = true from rfl, show fitL Fd 60 = true from opt_fit ts, and_self, if_true]
  rfl
 have an : (Fd.any fun y => Mir.eqT y .non) = ts.any fun t => (zbe Yby t).isNone := by
  simp only [Fd, List.any_map]
  congr 1
  funext t
  show Mir.eqT (optT (zbe Yby t)) .non = _
  cases zbe (w0 :: ws) t <;> rfl
 have v1 : (zaj asB (mBin (inW false) Ybq (mVar 2)) : M Bool) G [] = .ok (ts.any fun t => (zbe Yby t).isNone) [] := by
  rw [← an]
  exact zco (binP rfl rfl ni)
 obtain ⟨n, en, in_⟩ := lenset_iff (F := mVar 3) (eta := G) (hp := []) (h1 := []) (l := ps) rfl Yc
 have v2 : (zaj asB (mBin Ybx (mLenSet (mVar 3)) Ybt) : M Bool) G [] = .ok (!decide (ps.Nodup)) [] := by
  refine zco (binP en (app1P (a := .t (.lst (ps.map T.str))) rfl Ybv) (ev_eqi.trans ?_))
  have : decide (((n : Nat) : Int) = (ps.length : Nat)) = decide ps.Nodup := by rw [decide_eq_decide, ← in_]; omega
  simp only [if_true, this]
 refine zb0 (vc_ifE (orE v1 fun _ => v2) (fun c => vc_c ⟨_, rfl, ?_, rfl⟩) fun c => ?_)
 ·rcases allD_found (ws := w0 :: ws) (ts := ts) with ⟨ds, h1, h2, h3⟩ | ⟨h1, _⟩
  ·have nn : (ts.any fun t => (zbe Yby t).isNone) = false := by
    rw [← an, show Fd = ds.map dTr from h2, List.any_map]
    exact List.any_eq_false.mpr fun d _ => by show ¬ Mir.eqT (dTr d) .non = true; simp [dTr, Mir.eqT]
   rw [nn] at c
   have nd : ¬ ps.Nodup := by simpa using c
   simp only [ps, h3] at nd
   unfold zbx
   simp only [h1, if_neg nd]
   rfl
  ·unfold zbx
   simp only [h1]
   rfl
 ·have c' : (ts.any fun t => (zbe Yby t).isNone) = false ∧ ps.Nodup := by simpa using c
  rcases allD_found (ws := w0 :: ws) (ts := ts) with ⟨ds, h1, h2, h3⟩ | ⟨_, t, ht, h2⟩
  ·have nd := c'.2
   simp only [ps, h3] at nd
   have e : zbx w0 ws ts = some ds := by
    unfold zbx
    simp only [h1, if_pos nd]
   rw [e]
   exact zcf (zal (zba rfl (zbc (Wp.of (oTup_sq (b := false)) ⟨_, rfl, by rw [show Fd = ds.map dTr from h2]; rfl, rfl⟩))))
  ·exact absurd h2 fun z => by
    have := List.any_eq_false.mp c'.1 t ht
    rw [z] at this
    exact this rfl
theorem deeds_no (h : plnT v = true) (hn : seqB v = false) : zbb [.t v, .t Y3] hp = .ok Yaw hp := by
 suffices hh : Wp (zbb [.t v, .t Y3] hp) fun w h => w = .t .non ∧ h = hp by
  obtain ⟨w, h1, e, rfl, rfl⟩ := hh.ex
  exact e
 refine vc_fnP (ts := [v, .tup ((w0 :: ws).map T.str)]) (eta := [some (.t v), some (.t Y3), none, none, none, none]) rfl rfl ?_
 unfold B_deeds_in
 have u1 : (mNot (zaj truW (zan za5 [] Ycd)) : M Bool) [some (.t v), some (.t Y3), none, none, none, none] [] = .ok true [] := notE (a := false) (by rw [p_test, zao (ws := [.t v]) rfl (isseq_T h), hn]; rfl)
 exact zap (vc_ifE u1 (fun _ => zb0 (vc_c (vc_rt ⟨_, rfl, rfl, rfl⟩))) fun z => by cases z)
end
section
open TL
variable {hp : IH} {nm st v : T} {s : Str} {i : Nat} {ts : List T} {ds : List Deed} {n : Str}
def kdS (st : T) : Option (List Deed) := match st with
 | .lst ts => zbx "write" ["bump"] ts
 | .tup ts => zbx "write" ["bump"] ts
 | _ => none
theorem sk_add (h : zbx "write" ["bump"] ts = some ds) : ts = ds.map (fun d => T.str (dTx d)) ∧ (∀ d ∈ ds, DOk wW d) ∧ (wrN "write" ds).Nodup := by
 unfold zbx at h
 split at h
 ·rename_i ds' h1
  split at h
  ·rename_i nd
   cases h
   obtain ⟨e, ok⟩ := allD_some h1
   refine ⟨e, fun d hd => ?_, nd⟩
   obtain ⟨a, b⟩ := ok d hd
   refine ⟨a, ?_, nam_of b⟩
   simp only [List.mem_cons, List.not_mem_nil, or_false] at a
   rcases a with a | a <;> rw [a]
   ·exact wrd_write
   ·exact wrd_bump
  ·cases h
 ·cases h
def eKind (w : Str) : Ex := ⟨"InvalidKind", [("word", .t (.str w))]⟩
structure StOk (st : T) : Prop where
 p : plnT st = true
 s : ∀ ts, (st = .lst ts ∨ st = .tup ts) → (∀ t ∈ ts, StepOk t) ∧ ts.length ≤ 1000
 n : ∀ ts, st ≠ .scr ts ∧ st ≠ .pr ts
theorem deeds_st (h : StOk st) : zbb [.t st, .t (.tup (wW.map T.str))] hp = .ok (.t (dsT (kdS st))) hp := by
 cases st with
 | lst ts => exact deeds_L (b := false) (h.s ts (.inl rfl)).1 (h.s ts (.inl rfl)).2
 | tup ts => exact deeds_L (b := true) (h.s ts (.inr rfl)).1 (h.s ts (.inr rfl)).2
 | scr ts => exact absurd rfl (h.n ts).1
 | pr ts => exact absurd rfl (h.n ts).2
 | _ => exact deeds_no h.p rfl
theorem kinit_name (h : plnT nm = true) (hl : ∀ x, nm = .str x → x.length ≤ 1000000) (hn : nmT nm = false) : zas [.r i, .t nm, .t st] hp = .er (eKind "name") [] hp := by
 have : Wq (zas [.r i, .t nm, .t st] hp) (fun _ _ => False) fun e eta h => e = eKind "name" ∧ eta = [] ∧ h = hp := by
  refine wq_fnX (eta := [some (.r i), some (.t nm), some (.t st), none]) rfl rfl ?_
  unfold zcx
  have u : (mNot (zaj truW (zan zaz [] Yp)) : M Bool) [some (.r i), some (.t nm), some (.t st), none] hp = .ok true hp := notE (a := false) Ycq
  exact wq_seq (wq_if u Ydi fun z => by cases z)
 rcases this.cases with ⟨_, _, _, z⟩ | ⟨e, eta, h, x, rfl, rfl, rfl⟩
 ·exact z.elim
 ·exact x
theorem kinit_steps (h : plnT nm = true) (hl : ∀ x, nm = .str x → x.length ≤ 1000000) (hn : nmT nm = true) (hs : StOk st) (hk : kdS st = none ∨ kdS st = some []) : zas [.r i, .t nm, .t st] hp = .er (eKind "steps") [] hp := by
 have : Wq (zas [.r i, .t nm, .t st] hp) (fun _ _ => False) fun e eta h => e = eKind "steps" ∧ eta = [] ∧ h = hp := by
  refine wq_fnX (eta := [some (.r i), some (.t nm), some (.t st), none]) rfl rfl ?_
  unfold zcx
  have u : (mNot (zaj truW (zan zaz [] Yp)) : M Bool) [some (.r i), some (.t nm), some (.t st), none] hp = .ok false hp := notE (a := true) Ycq
  refine wq_seq (wq_if u Yd7 fun _ => Wq.eqOk rfl (wq_nx ?_))
  have c : (zan zbb [] Ydj : M W) [some (.r i), some (.t nm), some (.t st), none] hp = .ok (.t (dsT (kdS st))) hp := zao (ws := [.t st, .t (.tup (wW.map T.str))]) rfl (deeds_st hs)
  refine wq_seq (wq_set (Wq.eqOk c (wq_nx ?_)))
  rcases hk with e | e <;> rw [e]
  ·exact wq_seq (wq_if (b := true) (orE (a := true) (b := true) rfl fun z => by cases z) Ydi fun z => by cases z)
  ·exact wq_seq (wq_if (b := true) (orE (a := false) (b := true) rfl fun _ => rfl) Ydi fun z => by cases z)
 rcases this.cases with ⟨_, _, _, z⟩ | ⟨e, eta, h, x, rfl, rfl, rfl⟩
 ·exact z.elim
 ·exact x
end
section
open TL
variable {i j : Nat} {hp : IH}
def anyS : List Str := ["", "a", "write a", "look c", "kind", "same 0 1", "abcde"]
def anyL : List T := [.non, .bl true, .bl false, .int 0, .int 1, .int 2, .int (-1), .int 1000000000000, .str "", .str "a", .str "write a", .str "look c", .str "kind", .str "same 0 1", .str "abcde", .tup [.str "c", .int 2]]
def anyB (t : T) : Bool := plnT t && (match t with | .str x => decide (x ∈ anyS) | _ => true)
/-- what comes out: no instance, no text but these -/
structure AnyT (t : T) : Prop where
 p : plnT t = true
 s : ∀ x, t = .str x → x ∈ anyS
 n : ∀ ts, t ≠ .scr ts ∧ t ≠ .pr ts
theorem anyL_ok : ∀ t ∈ anyL, AnyT t := fun t ht => by
 have hb : ∀ t ∈ anyL, anyB t = true := by decide +kernel
 have h := hb t ht
 unfold anyB at h
 rw [Bool.and_eq_true] at h
 refine ⟨h.1, fun x e => ?_, fun ts => ?_⟩
 ·subst e
  exact of_decide_eq_true h.2
 ·simp only [anyL, List.mem_cons, List.not_mem_nil, or_false] at ht
  rcases ht with rfl | rfl | rfl | rfl | rfl | rfl | rfl | rfl | rfl | rfl | rfl | rfl | rfl | rfl | rfl | rfl <;> exact ⟨(fun e => by cases e), (fun e => by cases e)⟩
theorem any_step {G : OpN} {k : Nat} (hG : ∀ hp, Deal i j hp → 0 < k → ∃ (t : T) (hp' : IH), AnyT t ∧ G [.r i, .t (.int ((k : Int) - 1))] hp = .ok (.t t) hp' ∧ Deal i j hp') (d : Deal i j hp) : ∃ (t : T) (hp' : IH), AnyT t ∧ S_w_any G [.r i, .t Yb0] hp = .ok (.t t) hp' ∧ Deal i j hp' := by
 suffices h : Wp (S_w_any G [.r i, .t Yb0] hp) fun w h => ∃ t : T, w = .t t ∧ AnyT t ∧ Deal i j h by
  obtain ⟨w, h1, e, t, rfl, a, d⟩ := h.ex
  exact ⟨t, h1, a, e, d⟩
 let E : Option W → Option W → Option W → Option W → IS := fun w2 w3 w4 w5 => [some (.r i), some (.t Yb0), w2, w3, w4, w5]
 refine vc_fnM (eta := E none none none none) rfl rfl ?_
 unfold B_w_any
 have t0 : (zaj asB (mBin iGt (mVar 1) Yj) : M Bool) (E none none none none) hp = .ok (decide ((0 : Int) < (k : Nat))) hp := zco (binP rfl rfl ev_gt)
 obtain ⟨f, h1, e1, f0, f1, d1⟩ : ∃ (f : Int) (h1 : IH), (mIf (zaj asB (mBin iGt (mVar 1) (mC (.int 0)))) (zan zat [] (zab (mVar 0) (zab (mC (.int 5)) (mNil)))) (mC (.int 9)) : M W) (E none none none none) hp = .ok (.t (.int f)) h1 ∧ (f < 2 → 0 < k) ∧ 0 ≤ f ∧ Deal i j h1 := by
  by_cases c : 0 < k
  ·obtain ⟨f, h1, e1, f0, f1, d1, _⟩ := draw_is (wide := 5) d Yc Yc
   refine ⟨f, h1, ?_, fun _ => c, f0, d1⟩
   rw [decide_eq_true (show (0 : Int) < (k : Nat) by omega)] at t0
   exact (if_yes t0).trans (zao (ws := [.r i, .t (.int 5)]) rfl e1)
  ·refine ⟨9, hp, ?_, fun h => by omega, by omega, d⟩
   rw [decide_eq_false (show ¬ (0 : Int) < (k : Nat) by omega)] at t0
   exact (if_no t0).trans rfl
 refine zap (zbd (Wp.of e1 (za6 ?_)))
 let F : Option W → Option W → Option W → IS := fun w3 w4 w5 => E (some (.t (.int f))) w3 w4 w5
 show Wp ((mSeq _ _ : M Fl) (F none none none) h1) _
 have t1 : (zaj asB (mBin wLt (mVar 2) (mC (.int 2))) : M Bool) (F none none none) h1 = .ok (decide (f < 2)) h1 := zco (binP rfl rfl wLt_ii)
 refine zap (vc_ifE t1 (fun c => ?_) fun _ => zbq (za6 ?_))
 ·have kp := f0 (of_decide_eq_true c)
  obtain ⟨n, h2, e2, n0, n1, d2, _⟩ := draw_is (wide := 3) d1 Yc Yc
  obtain ⟨m, rfl⟩ : ∃ m : Nat, n = (m : Int) := ⟨n.toNat, by omega⟩
  have cp : Wp ((zb1 zak Yay (gN 5) mYes (f_w_any_c1 G) [5] : M W) (F none none none) h1) fun w h => ∃ ts : List T, w = .t Yc1 ∧ Deal i j h := by
   refine vc_comp (vc_src (zal (Wp.of (zao (ws := [.r i, .t (.int 3)]) rfl e2) (zbc (Wp.rw (rng_is (n := m) Yc) (Wp.ok ⟨by rw [List.length_map, List.length_range]; omega, ?_⟩))))))
   refine vc_compL (fun ws acc h => Deal i j h ∧ (∃ ts : List T, acc = ts.map W.t) ∧ acc.length + ws.length ≤ 10) ?_ _ _ _ _ ⟨d2, ⟨[], rfl⟩, by simp; omega⟩ ?_
   ·rintro w ws acc h ⟨d, ⟨ts, rfl⟩, l⟩
    refine ⟨_, rfl, vc_yes ?_⟩
    rw [if_pos rfl]
    obtain ⟨t, h', a, e, d'⟩ := hG h d kp
    refine Wp.of (zao (ws := [.r i, .t (.int ((k : Int) - 1))]) (zau rfl (zau (binP rfl rfl ev_sub) rfl)) e) ⟨d', ⟨ts ++ [t], by rw [List.map_append]; rfl⟩, ?_⟩
    rw [List.length_append, List.length_singleton]
    rw [List.length_cons] at l
    omega
   ·rintro r h ⟨d, ⟨ts, e⟩, l⟩
    have e : r = ts.map W.t := by simpa using e
    subst e
    have l : ts.length ≤ 10 := by simpa using l
    exact vc_lstM Yc ⟨ts, rfl, d⟩
  refine zap (zbd (cp.mono fun w h ⟨ts, e, d⟩ => ?_))
  subst e
  refine za6 (zb0 ?_)
  have t2 : (zaj asB (mBin Ydz (mVar 2) Yj) : M Bool) (F (some Yw) none none) h = .ok (decide (f = 0)) h := zco (binP rfl rfl (ev_eqi.trans rfl))
  refine vc_ifE t2 (fun _ => zba rfl (vc_rt ⟨_, rfl, .lst ts, rfl, ⟨rfl, (fun x e => by cases e), fun us => ⟨Yc3, Yc3⟩⟩, d⟩)) fun _ => ?_
  exact Wp.of (app1P (a := .t Yc1) rfl oTup_l) (vc_rt ⟨_, rfl, .tup ts, rfl, ⟨rfl, (fun x e => by cases e), fun us => ⟨Yc3, Yc3⟩⟩, d⟩)
 ·refine zap (zbd (Wp.of (a := .t (.lst (anyL.take 15))) (h := h1) rfl (za6 (zb0 ?_))))
  obtain ⟨t, h2, ht, e2, d2, _⟩ := pick_is (ts := anyL) d1 Yaz Yaz
  exact Wp.of (zao (ws := [.r i, .t (.lst anyL)]) (h1 := h1) rfl e2) ⟨_, rfl, t, rfl, anyL_ok t ht, d2⟩
theorem any_is : ∀ {n k : Nat} {hp : IH}, k < n → Deal i j hp → ∃ (t : T) (hp' : IH), AnyT t ∧ recN S_w_any n [.r i, .t Yb0] hp = .ok (.t t) hp' ∧ Deal i j hp'
 | n + 1, k, hp, h, d => any_step (G := recN S_w_any n) (fun hp d kp => by
   have e : ((k : Int) - 1) = ((k - 1 : Nat) : Int) := by omega
   rw [e]
   exact any_is (n := n) Yc d) d
end
section
open TL
variable {hp : IH} {i j : Nat} {nm st : T} {n : Str} {ds : List Deed}
def hKd (nm st : T) : T := if nmT nm = true then (match kdS st with | some (_ :: _) => .non | _ => .str "steps") else .str "name"
theorem zcq (h : plnT nm = true) (hl : ∀ x, nm = .str x → x.length ≤ 1000000) (hs : StOk st) : zam [.t nm, .t st] hp = .ok (.t (hKd nm st)) hp := by
 refine wpV ?_
 let E : Option W → Option W → IS := fun w2 w3 => [some (.t nm), some (.t st), w2, w3]
 refine vc_fnP (ts := [nm, st]) (eta := E none none) rfl rfl ?_
 unfold B_w_heard
 refine zap (zbd (vc_c (za6 (zap (Wq.wp (wq_tryAs ?_))))))
 let F : IS := E (some Yaw) none
 show Wq (zch F []) _ _
 unfold zch
 have a : (zab (mVar 0) Yp : M (List W)) F [] = .ok [.t nm, .t st] [] := rfl
 have bad : ∀ w : Str, (∀ (i : Nat) (hp : IH), zas [.r i, .t nm, .t st] hp = .er (eKind w) [] hp) → hKd nm st = .str w →
   Wq ((mDrop (mFrzI Yb8) : M Fl) F []) Ybw fun e eta' h => Wq (clsL 3 e eta' h [("InvalidKind", hitC "InvalidKind", zck)]) Ybw Ycl := fun w hw e => by
  refine wq_drop (wq_frzI (wq_makeX a (Wq.eqEr (hw _ _) ?_)))
  refine wq_cls rfl rfl Ya8 ?_
  unfold zck
  refine zap (zbd (Wp.of (a := .t (.str w)) rfl (za6 (zbq ?_))))
  refine za6 (zb0 (zba rfl ⟨_, rfl, ?_, rfl⟩))
  rw [e]
 by_cases hn : nmT nm = true
 ·obtain ⟨x, rfl⟩ : ∃ x, nm = .str x := by
   cases nm <;> first | exact ⟨_, rfl⟩ | (simp [nmT] at hn)
  cases hk : kdS st with
  | none => exact bad "steps" (fun i hp => kinit_steps h hl hn hs (.inl hk)) (by unfold hKd; rw [if_pos hn, hk])
  | some ds =>
   match ds, hk with
   | [], hk => exact bad "steps" (fun i hp => kinit_steps h hl hn hs (.inr hk)) (by unfold hKd; rw [if_pos hn, hk])
   | d :: r, hk =>
    have e : hKd (.str x) st = .non := by
     unfold hKd
     rw [if_pos hn, hk]
    obtain ⟨b, ts, rfl, hk'⟩ : ∃ (b : Bool) (ts : List T), st = sqT b ts ∧ zbx "write" ["bump"] ts = some (d :: r) := by
     cases st with
     | lst ts => exact ⟨false, ts, rfl, hk⟩
     | tup ts => exact ⟨true, ts, rfl, hk⟩
     | _ => cases hk
    obtain ⟨e1, ok, nd⟩ := sk_add hk'
    have K : KOk x (d :: r) := ⟨nam_of hn, ok, nd, by
     have : ts.length ≤ 1000 := by
      cases b
      ·exact (hs.s ts (.inl rfl)).2
      ·exact (hs.s ts (.inr rfl)).2
     rw [e1, List.length_map] at this
     exact this, Nat.succ_pos _⟩
    subst e1
    have m := kind_made (b := b) K a
    rw [e]
    have dr : (mDrop (mFrzI Yb8) : M Fl) F [] = .ok (.nx F) [none] := by
     show ((mFrzI Yb8 F []).bind _ : Res Fl) = _
     rw [m]
     rfl
    exact Wq.eqOk dr (za6 (zb0 (zba rfl ⟨_, rfl, rfl, rfl⟩)))
 ·exact bad "name" (fun i hp => kinit_name h hl (Bool.eq_false_iff.mpr hn)) (by unfold hKd; rw [if_neg hn])
theorem allD_tx : ∀ {ds : List Deed}, (∀ d ∈ ds, DOk wW d) → allD wW Ydc = some ds
 | [], _ => rfl
 | d :: r, h => by
  have D := h d Yan
  have e : deedS wW (dTx d) = some d := by
   unfold deedS
   rw [show Txt.split (dTx d) " " = [d.1, d.2] from split_sp (D.w.no Yc) (D.n.no Yc)]
   show (if d.1 ∈ wW ∧ nmB d.2 = true then some (d.1, d.2) else none) = some d
   rw [if_pos ⟨D.m, nam_to D.n⟩]
  have e2 := allD_tx (ds := r) fun x hx => h x (List.mem_cons_of_mem _ hx)
  rw [List.map_cons, List.map_cons]
  unfold allD
  rw [e2, show zbe wW Yds = some d from e]
theorem hKd_good (hn : nmB n = true) {b : Bool} (ok : ∀ d ∈ ds, DOk wW d) (nd : (wrN "write" ds).Nodup) (h0 : ds ≠ []) : hKd (.str n) (sqT b Ydc) = .non := by
 have k : kdS (sqT b Ydc) = some ds := by
  have dl : zbx "write" ["bump"] Ydc = some ds := by
   unfold zbx
   rw [show allD ["write", "bump"] Ydc = some ds from allD_tx ok]
   exact if_pos nd
  cases b <;> exact dl
 unfold hKd
 rw [if_pos (show nmT (.str n) = true from hn), k]
 match ds, h0 with
 | _ :: _, _ => rfl
/-- steps that are no steps -/
structure BadS (st : T) : Prop where
 o : StOk st
 k : kdS st = none ∨ kdS st = some []
theorem hKd_bad (hn : nmT nm = true) (h : BadS st) : hKd nm st = .str "steps" := by
 unfold hKd
 rw [if_pos hn]
 rcases h.k with e | e <;> rw [e]
theorem allD_mem {ws : List Str} {t : T} : ∀ {ts : List T}, t ∈ ts → zbe ws t = none → allD ws ts = none
 | u :: r, h, e => by
  rcases List.mem_cons.mp h with rfl | h
  ·simp only [allD, e]
  ·have := allD_mem (ws := ws) h e
   simp only [allD, this]
   cases zbe ws u <;> rfl
theorem kdS_no {b : Bool} {ts : List T} {t : T} (h : t ∈ ts) (e : zbe wW t = none) : kdS (sqT b ts) = none := by
 have : zbx "write" ["bump"] ts = none := by
  unfold zbx
  rw [show allD ["write", "bump"] ts = none from allD_mem h e]
 cases b <;> exact this
theorem stOk_sq {b : Bool} {ts : List T} (h : ∀ t ∈ ts, StepOk t) (l : ts.length ≤ 1000) : StOk (sqT b ts) where
 p := by cases b <;> rfl
 s := fun us e => by
  have : us = ts := by cases b <;> rcases e with e | e <;> first | cases e; rfl | cases e
  subst this
  exact ⟨h, l⟩
 n := fun us => by cases b <;> exact ⟨Yc3, Yc3⟩
theorem stOk_pl {t : T} (h : plnT t = true) (n : seqB t = false) : StOk t where
 p := h
 s := fun us e => by rcases e with e | e <;> rw [e] at n <;> cases n
 n := fun us => ⟨(fun e => by rw [e] at n; cases n), (fun e => by rw [e] at n; cases n)⟩
def odd03 : List T := [.str "write", .str "write  a", .str "write a ", .str "Write a", .str "bump", .str "look c", .str "read a", .str "write abcde", .str "write A", .str "write kind", .str "bump same", .str "write a b", .str "", .non, .int 3, .bl true, .tup [.str "write", .str "a"], .lst [.str "write a"], .str "write 1", .str "bump if"]
def stB (t : T) : Bool := plnT t && (match t with | .str x => decide (x.length ≤ 1000000) | _ => true)
theorem stB_ok {t : T} (h : stB t = true) : StepOk t := by
 unfold stB at h
 rw [Bool.and_eq_true] at h
 refine ⟨h.1, fun x e => ?_⟩
 subst e
 exact of_decide_eq_true h.2
theorem odd03_ok : ∀ t ∈ odd03, stB t = true ∧ zbe wW t = none := by decide +kernel
def tx03 (ds : List Deed) : List T := ds.map fun d => .str (dTx d)
theorem tx03_ok (h : ∀ d ∈ ds, (dTx d).length ≤ 15) : ∀ t ∈ tx03 ds, StepOk t := fun t ht => by
 obtain ⟨d, hd, rfl⟩ := List.mem_map.mp ht
 exact ⟨rfl, fun x e => by cases e; have := h d hd; omega⟩
theorem bent_is (d : Deal i j hp) (dl : ∀ d ∈ ds, (dTx d).length ≤ 15) (hl : ds.length ≤ 100) (h0 : ds ≠ []) : ∃ (st : T) (hp' : IH), BadS st ∧ zbs [.r i, .t Yaq] hp = .ok (.t st) hp' ∧ Deal i j hp' := by
 obtain ⟨dd, dr, hdd⟩ : ∃ dd dr, ds = dd :: dr := List.exists_cons_of_ne_nil h0
 suffices h : Wp (zbs [.r i, .t Yaq] hp) fun w h => ∃ st : T, w = .t st ∧ BadS st ∧ Deal i j h by
  obtain ⟨w, h1, e, t, rfl, a, d⟩ := h.ex
  exact ⟨t, h1, a, e, d⟩
 have tl : (tx03 ds).length = ds.length := List.length_map ..
 have ok := tx03_ok dl
 let S : Option W := some (.t Yaq)
 let E : Option W → Option W → Option W → IS := fun w2 w3 w4 => [some (.r i), S, w2, w3, w4]
 refine vc_fnM (eta := E none none none) rfl rfl ?_
 unfold B_w_bent
 refine zap (zbd (Wp.of (a := .t (.lst (odd03.take 9))) (h := hp) rfl (za6 ?_)))
 refine zap (zbd (Wp.of (a := .t (.lst (odd03.take 18))) (h := hp) rfl (za6 ?_)))
 refine zap (zbd (Wp.of (a := .t (.lst odd03)) (h := hp) rfl (za6 ?_)))
 let O : Option W := some (.t (.lst odd03))
 show Wp ((mSeq _ _ : M Fl) (E O none none) hp) _
 obtain ⟨q, h1, e1, q0, q1, d1, _⟩ := draw_is (wide := (ds.length : Int) + 1) d Yc Yc
 have ol : (mBin wAdd (mApp oLen Yp) Yt : M W) (E O none none) hp = .ok (.t (.int ((ds.length : Int) + 1))) hp := by
  rw [bin_ok (h1 := hp) (h2 := hp) (app1P (a := .t Yaq) rfl (by rw [oLen_l, tl])) (b := .t (.int 1)) rfl (r := .ok (.t (.int ((ds.length : Int) + 1))) hp) rfl]
 refine zap (zbd (Wp.of (zao (ws := [.r i, .t (.int ((ds.length : Int) + 1))]) (zau rfl (zau ol rfl)) e1) (za6 ?_)))
 obtain ⟨n, rfl⟩ : ∃ n : Nat, q = (n : Int) := ⟨q.toNat, by omega⟩
 let Q : Option W := some (.t (.int (n : Nat)))
 show Wp ((mSeq _ _ : M Fl) Yev h1) _
 obtain ⟨o, h2, ho, e2, d2, _⟩ := pick_is (ts := odd03) d1 Yaz Yaz
 have p1 : (zan zaw [] (zab (mVar 0) Yc2) : M W) Yev h1 = .ok (.t o) h2 := zao (ws := [.r i, .t (.lst odd03)]) rfl e2
 have p2 : (mApp zak Y5 : M W) Yev h1 = .ok (.t (.lst [o])) h2 := wpV (zcf (zal (Wp.of p1 (zbc (vc_lstM (ts := [o]) Ya8 ⟨rfl, rfl⟩)))))
 let A : List T := cutL (tx03 ds) none (some (n : Int))
 let B : List T := cutL (tx03 ds) (some (n : Int)) none
 have al : A.length ≤ 100 := Nat.le_trans (cutL_len _ _ _) Yc
 have bl : B.length ≤ 100 := Nat.le_trans (cutL_len _ _ _) Yc
 have am : ∀ t ∈ A, t ∈ tx03 ds := fun t ht => List.mem_of_mem_drop (List.mem_of_mem_take ht)
 have bm : ∀ t ∈ B, t ∈ tx03 ds := fun t ht => List.mem_of_mem_drop (List.mem_of_mem_take ht)
 have s1 : (mSl (mVar 1) zay (zbn (mVar 3)) : M W) Yev h1 = .ok (.t (.lst A)) h1 := wpV (vc_sl (zba rfl (vc_noPart (vc_part (zba rfl ⟨_, rfl, vc_slWl ⟨rfl, rfl⟩⟩)))))
 have s2 : (mSl (mVar 1) (zbn (mVar 3)) zay : M W) Yev h2 = .ok (.t (.lst B)) h2 := wpV (vc_sl (zba rfl (vc_part (zba rfl ⟨_, rfl, vc_noPart (vc_slWl ⟨rfl, rfl⟩)⟩))))
 have s3 : (mBin wAdd (mBin wAdd (mSl (mVar 1) zay (zbn (mVar 3))) (mApp zak Y5)) (mSl (mVar 1) (zbn (mVar 3)) zay) : M W) Yev h1 = .ok (.t (.lst (A ++ [o] ++ B))) h2 :=
  wpV (vc_bin (vc_bin (Wp.of s1 (Wp.of p2 (vc_addL (xs := A) (ys := [o]) rfl rfl Yai (Wp.of s2 (vc_addL (xs := A ++ [o]) (ys := B) rfl rfl Yai ⟨rfl, rfl⟩)))))))
 have s4 : (mBin wAdd (mVar 1) (mApp zak (zab Yh (zab Yh (mNil)))) : M W) Yev h2 = .ok (.t (.lst Ydd)) h2 :=
  wpV (vc_bin (zba (w := .t Yaq) rfl (Wp.of (a := .t (.lst [.str "write a", .str "write a"])) rfl (vc_addL (xs := tx03 ds) (ys := [.str "write a", .str "write a"]) rfl rfl (by simp [tl]; omega) ⟨rfl, rfl⟩))))
 have b1 : BadS (.lst (A ++ [o] ++ B)) := by
  obtain ⟨ob, on⟩ := odd03_ok o ho
  refine ⟨stOk_sq (b := false) (fun t ht => ?_) Yai, .inl (kdS_no (b := false) (t := o) Yal on)⟩
  simp only [List.append_assoc, List.mem_append, List.mem_singleton] at ht
  rcases ht with ht | rfl | ht
  ·exact ok t (am t ht)
  ·exact stB_ok ob
  ·exact ok t (bm t ht)
 have b2 : BadS (.lst Ydd) := by
  refine ⟨stOk_sq (b := false) (fun t ht => ?_) (by simp [tl]; omega), .inl ?_⟩
  ·rcases List.mem_append.mp ht with ht | ht
   ·exact ok t ht
   ·have : t = .str "write a" := by simpa using ht
    rw [this]
    exact stB_ok Ym
  ·show zbx "write" ["bump"] _ = none
   unfold zbx
   cases e : allD ["write", "bump"] (tx03 ds ++ [.str "write a", .str "write a"]) with
   | none => rfl
   | some es =>
    simp only
    refine if_neg fun nd => ?_
    obtain ⟨e1, _⟩ := allD_some e
    have e2 := congrArg List.reverse e1
    rw [List.reverse_append] at e2
    have e3 : (es.map fun d => T.str (dTx d)).reverse = es.reverse.map fun d => T.str (dTx d) := List.map_reverse.symm
    rw [e3] at e2
    have dup : ∃ d1 d2 rest, es = rest ++ [d2, d1] ∧ dTx d1 = "write a" ∧ dTx d2 = "write a" := by
     match hr : es.reverse, e2 with
     | d1 :: d2 :: rest, e2 =>
      refine ⟨d1, d2, rest.reverse, ?_, ?_, ?_⟩
      ·have := congrArg List.reverse hr
       rw [List.reverse_reverse] at this
       rw [this]
       simp
      ·simp at e2
       exact e2.1.symm
      ·simp at e2
       exact e2.2.1.symm
     | [d1], e2 => simp at e2
     | [], e2 => simp at e2
    obtain ⟨d1, d2, rest, rfl, x1, x2⟩ := dup
    have one : ∀ d ∈ rest ++ [d2, d1], dTx d = "write a" → d = (("write", "a") : Deed) := fun d hd x => by
     obtain ⟨w, m⟩ := (allD_some e).2 d hd
     have D : DOk wW d := ⟨w, by
      simp only [List.mem_cons, List.not_mem_nil, or_false] at w
      rcases w with w | w <;> rw [w]
      ·exact wrd_write
      ·exact wrd_bump, nam_of m⟩
     have sp := split_sp (w := d.1) (x := d.2) (D.w.no Yc) (D.n.no Yc)
     have sp : Txt.split (dTx d) " " = [d.1, d.2] := sp
     rw [x, show Txt.split ("write a" : Str) " " = [("write" : Str), ("a" : Str)] by decide +kernel] at sp
     injection sp with s1 s2
     injection s2 with s2 _
     exact Prod.ext s1.symm s2.symm
    have y1 := one d1 Yal x1
    have y2 := one d2 Yal x2
    rw [y1, y2] at nd
    have : wrN "write" (rest ++ [(("write", "a") : Deed), ("write", "a")]) = wrN "write" rest ++ [("a" : Str), ("a" : Str)] := by
     unfold wrN
     rw [List.filter_append, List.map_append]
     rfl
    rw [this] at nd
    have := (List.nodup_append.mp nd).2.1
    simp at this
 let X : List T := [.lst (A ++ [o] ++ B), .lst Ydd]
 have s5 : (mApp zak Ya2 : M W) Yev h1 = .ok (.t (.lst X)) h2 := wpV (zcf (zal (Wp.of s3 (zal (Wp.of s4 (zbc (vc_lstE (ts := X) rfl Ya8 ⟨rfl, rfl⟩)))))))
 refine zap (zbd (Wp.of s5 (za6 ?_)))
 show Wp ((mRet _ : M Fl) (E O Q (some (.t (.lst X)))) h2) _
 let F : IS := E O Q (some (.t (.lst X)))
 let P6 : List T := [.non, .str "write a", .int 3, .tup [], .lst [], .str (dTx dd)]
 have b6 : ∀ t ∈ P6, BadS t := fun t ht => by
  simp only [P6, List.mem_cons, List.not_mem_nil, or_false] at ht
  rcases ht with rfl | rfl | rfl | rfl | rfl | rfl
  ·exact ⟨stOk_pl rfl rfl, .inl rfl⟩
  ·exact ⟨stOk_pl rfl rfl, .inl rfl⟩
  ·exact ⟨stOk_pl rfl rfl, .inl rfl⟩
  ·exact ⟨stOk_sq (b := true) (ts := []) Yal Yal, .inr rfl⟩
  ·exact ⟨stOk_sq (b := false) (ts := []) Yal Yal, .inr rfl⟩
  ·exact ⟨stOk_pl rfl rfl, .inl rfl⟩
 obtain ⟨u, h3, hu, e3, d3, _⟩ := pick_is (ts := P6) d2 (Nat.succ_pos _) (show 6 < 2 ^ 60 by decide)
 obtain ⟨st, h4, hst, e4, d4, _⟩ := pick_is (ts := X ++ [u]) d3 Yal (show 3 < 2 ^ 60 by decide)
 have x0 : (mBin ixW (mVar 1) Yj : M W) F h2 = .ok (.t (.str (dTx dd))) h2 := binP (a := .t Yaq) rfl rfl (by rw [hdd]; exact ev_ixl0)
 have x1 : (mApp zak Yg : M W) F h2 = .ok (.t (.lst P6)) h2 := wpV (zcf (zal (vc_c (zal (vc_c (zal (vc_c (zal (Wp.of (a := .t (.tup [])) (h := h2) rfl (zal (Wp.of (a := .t (.lst [])) (h := h2) rfl (zal (Wp.of x0 (zbc (vc_lstE (ts := P6) rfl Ya8 ⟨rfl, rfl⟩)))))))))))))))
 have x2 : (mApp zak Ybg : M W) F h2 = .ok (.t (.lst [u])) h3 := wpV (zcf (zal (Wp.of (zao (ws := [.r i, .t (.lst P6)]) (zau rfl (zau x1 rfl)) e3) (zbc (vc_lstM (ts := [u]) Ya8 ⟨rfl, rfl⟩)))))
 have x3 : (mBin wAdd (mVar 4) (mApp zak Ybg) : M W) F h2 = .ok (.t (.lst (X ++ [u]))) h3 := wpV (vc_bin (zba (w := .t (.lst X)) rfl (Wp.of x2 (vc_addL (xs := X) (ys := [u]) rfl rfl (show 2 + 1 ≤ _ by decide) ⟨rfl, rfl⟩))))
 refine zb0 (Wp.of (zao (ws := [.r i, .t (.lst (X ++ [u]))]) (zau rfl (zau x3 rfl)) e4) ⟨_, rfl, st, rfl, ?_, d4⟩)
 simp only [X, List.cons_append, List.nil_append, List.mem_cons, List.not_mem_nil, or_false] at hst
 rcases hst with rfl | rfl | rfl
 ·exact b1
 ·exact b2
 ·exact b6 _ hu
end
section
open TL
variable {h : IH} {i j : Nat}
abbrev AB : List Str := ["a", "b"]
abbrev C1 : List Str := ["c"]
theorem ab_nam : ∀ x ∈ AB, namB x = true := by decide +kernel
theorem c1_nam : ∀ x ∈ C1, namB x = true := by decide +kernel
theorem dok03 {ds : List Deed} (S : ScrP "write" "bump" AB C1 4 ds) : ∀ d ∈ ds, DOk wW d := fun d hd => by
 rcases S.ok _ hd with ⟨e, m⟩ | ⟨e, m⟩
 ·exact ⟨by rw [e]; simp, by rw [e]; exact wrd_write, nam_ok (ab_nam _ m)⟩
 ·exact ⟨by rw [e]; simp, by rw [e]; exact wrd_bump, nam_ok (c1_nam _ m)⟩
def odd3 : List T := [.str "kind", .str "if", .str "look", .str "", .str "abcde", .str "A", .non, .int 3, .bl true, .tup [.str "w"], .lst [.str "w"], .str "w ", .str "same", .str "bump", .str "even", .str "read"]
theorem odd3_ok : ∀ t ∈ odd3, stB t = true ∧ nmT t = false := by decide +kernel
theorem hKd_name {nm st : T} (h : nmT nm = false) : hKd nm st = .str "name" := by
 unfold hKd
 rw [if_neg (by rw [h]; simp)]
theorem any_bad {t : T} (a : AnyT t) : BadS (.tup [t, .str "write a"]) := by
 have st : StepOk t := ⟨a.p, fun x e => by
  have m := a.s x e
  have : ∀ x ∈ anyS, x.length ≤ 1000000 := by decide +kernel
  exact this x m⟩
 refine ⟨stOk_sq (b := true) (fun u hu => ?_) Yal, .inl ?_⟩
 ·simp only [List.mem_cons, List.not_mem_nil, or_false] at hu
  rcases hu with rfl | rfl
  ·exact st
  ·exact stB_ok Ym
 ·by_cases e : zbe wW t = none
  ·exact kdS_no (b := true) (t := t) Yal e
  ·obtain ⟨x, rfl⟩ : ∃ x, t = .str x := by
    cases t <;> first | exact ⟨_, rfl⟩ | exact absurd rfl e
   have m := a.s x rfl
   have all : ∀ x ∈ anyS, zbe wW (.str x) ≠ none → kdS (.tup [.str x, .str "write a"]) = none := by decide +kernel
   exact all x m e
def F03 (w0 w1 : Option W) (i : Nat) (w3 w4 w5 w6 w7 : Option W) : IS := [w0, w1, some (.r i), w3, w4, w5, w6, w7]
theorem turn03 (d : Deal i j h) {w0 w1 w3 w4 w5 w6 w7 : Option W} :
  Wp (f_law_l1 (F03 w0 w1 i w3 w4 w5 w6 w7) h) fun fl h' => ∃ w4 w5 w6 w7, fl = .nx (F03 w0 w1 i w3 w4 w5 w6 w7) ∧ Deal i j h' := by
 unfold f_law_l1
 obtain ⟨ds, h1, S, e1, d1⟩ := script_is (cs := AB) (ctr := C1) (m := 4) d Ym Yaz Yaz Yaz Yaz Yaz Yaz
 have ok := dok03 S
 have dl : ∀ d ∈ ds, (dTx d).length ≤ 15 := fun d hd => dTx_len (ok d hd).w (ok d hd).n
 have sl := S.len
 have h0 : ds ≠ [] := by
  obtain ⟨d, hd, _⟩ := S.one
  exact List.ne_nil_of_mem hd
 let E := F03 w0 w1 i w3
 have sc : (zan zb8 [] Ya7 : M W) (E w4 w5 w6 w7) h = .ok Yy h1 := zao (ws := [.r i, .t (.lst (AB.map T.str)), .t (.lst (C1.map T.str)), .t (.int 4)]) rfl e1
 have dt := deed_texts_is (hp := h1) (ds := ds) Yc dl
 refine zap (zbd (vc_call (zal (Wp.of sc (zbc (Wp.of dt (za6 ?_)))))))
 let St : Option W := some (.t Yaq)
 show Wp ((mSeq _ _ : M Fl) (E St w5 w6 w7) h1) _
 obtain ⟨n, h2, hn, e2, d2⟩ := titles_is d1
 have nn : nmB n = true := nam_to (nam_ok (ttl_nam n hn))
 have nl : n.length ≤ 4 := (nam_ok (ttl_nam n hn)).ln
 have tt : (mBin ixW (zan zcp [] (zab (mVar 2) (zab Yt (mNil)))) Yj : M W) (E St w5 w6 w7) h1 = .ok (.t (.str n)) h2 := by
  rw [bin_ok (h1 := h2) (h2 := h2) (zao (ws := [.r i, .t (.int 1)]) rfl e2) rfl ev_ixl0]
 refine zap (zbd (Wp.of tt (za6 ?_)))
 let N : Option W := some (.t (.str n))
 show Wp ((mSeq _ _ : M Fl) (E St N w6 w7) h2) _
 obtain ⟨li, lj⟩ := d2.lt
 let k := h2.length
 let o15 : List W := (odd3.take 15).map W.t
 have c1 : (mSet 6 Yk : M Fl) (E St N w6 w7) h2 = .ok (.nx (E St N (some (.r k)) w7)) (h2 ++ [some (.lst o15)]) := rfl
 refine zap (Wp.of c1 (za6 ?_))
 let h3 : IH := h2 ++ [some (.lst o15)]
 have g3 : getL h3 k = some o15 := by
  unfold getL
  simp only [h3, k]
  rw [List.getElem?_append_right Ydy, Nat.sub_self]
  rfl
 have c2 : (mDrop (mMeth isL zcb (mVar 6) (zab (mC (.str "read")) (mNil))) : M Fl) (E St N (some (.r k)) w7) h3 = .ok (.nx (E St N (some (.r k)) w7)) (h3.set k (some (.lst (odd3.map W.t)))) :=
  dmeth_ok (o := .r k) (h1 := h3) (h2 := h3) (ws := [.t (.str "read")]) rfl (by simp only [isL, zcr, g3]; rfl) rfl (by
   simp only [zcb, g3]
   rfl)
 refine zap (Wp.of c2 (za6 ?_))
 have lk : k < h3.length := by simp [h3, k]
 have g4 : getL (h3.set k (some (.lst (odd3.map W.t)))) k = some (odd3.map W.t) := by
  unfold getL
  rw [List.getElem?_set_self lk]
 refine vc_fz (w := .r k) rfl (Wp.of (frz_ok g4) ?_)
 let h5 : IH := (h3.set k (some (.lst (odd3.map W.t)))).set k none
 have d5 : Deal i j h5 := by
  have d3 : Deal i j h3 := d2.keep (List.getElem?_append_left li) (List.getElem?_append_left lj)
  have hik : i ≠ k := by simp only [k]; omega
  have hjk : j ≠ k := by simp only [k]; omega
  exact (d3.keep (List.getElem?_set_ne (Ne.symm hik)) (List.getElem?_set_ne (Ne.symm hjk))).keep (List.getElem?_set_ne (Ne.symm hik)) (List.getElem?_set_ne (Ne.symm hjk))
 let O : Option W := some (.t (.lst odd3))
 show Wp ((mSeq _ _ : M Fl) (E St N O w7) h5) _
 obtain ⟨w, h6, hw, e6, d6, _⟩ := pick_is (ts := odd3) d5 Yaz Yaz
 obtain ⟨wb, wn⟩ := odd3_ok w hw
 have wS := stB_ok wb
 refine zap (zbd (Wp.of (zao (ws := [.r i, .t (.lst odd3)]) rfl e6) (za6 ?_)))
 let X : Option W := some (.t w)
 let G : IS := E St N O X
 show Wp ((mSeq _ _ : M Fl) G h6) _
 have gS : ∀ b, StOk (sqT b (tx03 ds)) := fun b => stOk_sq (tx03_ok dl) (by unfold tx03; rw [List.length_map]; omega)
 have e7 : tx03 ds = (ds.map dTx).map T.str := by unfold tx03; rw [List.map_map]; rfl
 have good : ∀ b, hKd (.str n) (sqT b (tx03 ds)) = .non := fun b => by
  rw [e7]
  exact hKd_good nn ok S.nd h0
 have hd1 : ∀ {h : IH}, zam [.t (.str n), .t Yaq] h = .ok Yaw h := fun {h} => by
  rw [zcq (st := .lst (tx03 ds)) rfl Ydh (gS false), show hKd (.str n) Yaq = .non from good false]
 have hd2 : ∀ {h : IH}, zam [.t (.str n), .t (.tup (tx03 ds))] h = .ok Yaw h := fun {h} => by
  rw [zcq (st := .tup (tx03 ds)) rfl Ydh (gS true), show hKd (.str n) (.tup (tx03 ds)) = .non from good true]
 have tu : (mApp oTup Yu : M W) G h6 = .ok (.t (.tup (tx03 ds))) h6 := app1P (a := .t Yaq) rfl oTup_l
 have t1 := orE (a := false) (b := false) (show (zaj asB (mBin (isN true) (zan zam [] (zab (mVar 5) Yu)) Ybq) : M Bool) G h6 = .ok false h6 from zco (binP (zao (ws := [.t (.str n), .t Yaq]) rfl hd1) rfl rfl)) fun _ =>
  show (zaj asB Ydw : M Bool) G h6 = .ok false h6 from zco (binP (zao (ws := [.t (.str n), .t (.tup (tx03 ds))]) (zau rfl (zau tu rfl)) hd2) rfl rfl)
 refine zap (vc_ifE t1 Yd7 fun _ => zbq (za6 ?_))
 -- a wrong name
 obtain ⟨s1, h7, b1, e8, d7⟩ := bent_is d6 dl Yc h0
 have be : ∀ {h h' : IH} {s : T}, zbs [.r i, .t Yaq] h = .ok (.t s) h' → (zan zbs [] (zab (mVar 2) Yu) : M W) G h = .ok (.t s) h' := fun e => zao (ws := [.r i, .t Yaq]) rfl e
 have n1 : ∀ {st : T} {h : IH}, StOk st → zam [.t w, .t st] h = .ok (.t (.str "name")) h := fun {st h} o => by
  rw [zcq wS.p wS.l o, hKd_name wn]
 have t2 : Wp ((mOr Yeg Yef : M Bool) G h6) fun b h => b = false ∧ h = h7 :=
  vc_or (Wp.of (a := false) (h := h6) (zco (binP (zao (ws := [.t w, .t Yaq]) rfl (n1 (gS false))) rfl (ev_eqs.trans rfl))) (Wp.itf Yaz (vc_test (vc_bin (Wp.of (zao (ws := [.t w, .t s1]) (zau rfl (zau (be e8) rfl)) (n1 b1.o)) (vc_c (Wp.of ev_eqs (vc_asB ⟨rfl, rfl⟩))))))))
 refine zap (vc_if (t2.mono fun b h ⟨eb, eh⟩ => ?_))
 rw [eb, eh]
 refine Wp.itf Yaz (zbq (za6 ?_))
 -- bent steps
 obtain ⟨s2, h8, b2, e9, d8⟩ := bent_is d7 dl Yc h0
 have n2 : ∀ {st : T} {h : IH}, BadS st → zam [.t (.str n), .t st] h = .ok (.t (.str "steps")) h := fun {st h} b => by
  rw [zcq rfl Ydh b.o, hKd_bad (show nmT (.str n) = true from nn) b]
 have t3 : (zaj asB (mBin Ybx (zan zam [] (zab (mVar 5) Ybu)) Yeq) : M Bool) G h7 = .ok false h8 := by
  show ((mBin _ _ _ : M W) G h7).bind _ = _
  rw [bin_ok (h1 := h8) (h2 := h8) (zao (ws := [.t (.str n), .t s2]) (zau rfl (zau (be e9) rfl)) (n2 b2)) rfl (ev_eqs.trans rfl)]
  rfl
 refine zap (vc_if (Wp.of t3 (Wp.itf Yaz (zbq (za6 ?_)))))
 -- any value among them
 obtain ⟨t, h9, at_, e10, d9⟩ := any_is (n := 12) (k := 6) Yaz d8
 have an : (mApp oTup (zab (mApp zak (zab Yat (zab Yh (mNil)))) (mNil)) : M W) G h8 = .ok (.t (.tup [t, .str "write a"])) h9 := by
  have c : (mApp zak (zab Yat (zab Yh (mNil))) : M W) G h8 = .ok (.t (.lst [t, .str "write a"])) h9 := wpV (zcf (zal (Wp.of (zao (ws := [.r i, .t (.int 6)]) rfl e10) (zal (vc_c (zbc (vc_lstM (ts := [t, .str "write a"]) Ya8 ⟨rfl, rfl⟩)))))))
  show ((zab _ _ : M (List W)) G h8).bind _ = _
  rw [zau c rfl]
  rfl
 have t4 : (zaj asB Ybb : M Bool) G h8 = .ok false h9 := by
  show ((mBin _ _ _ : M W) G h8).bind _ = _
  rw [bin_ok (h1 := h9) (h2 := h9) (zao (ws := [.t (.str n), .t (.tup [t, .str "write a"])]) (zau rfl (zau an rfl)) (n2 (any_bad at_))) rfl (ev_eqs.trans rfl)]
  rfl
 refine zap (vc_if (Wp.of t4 (Wp.itf Yaz (zbq (za6 ?_)))))
 -- bumps twice
 let bb : List Deed := [("bump", "c"), ("bump", "c"), ("write", "a")]
 have bok : ∀ d ∈ bb, DOk wW d := fun d hd => by
  simp only [bb, List.mem_cons, List.not_mem_nil, or_false] at hd
  rcases hd with rfl | rfl | rfl
  ·exact ⟨by simp, wrd_bump, nam_ok Ym⟩
  ·exact ⟨by simp, wrd_bump, nam_ok Ym⟩
  ·exact ⟨by simp, wrd_write, nam_ok Ym⟩
 have bt : (mBin wAdd (mBin wMul (mApp zak (zab (mC (.str "bump c")) (mNil))) (mC (.int 2))) (mApp zak (zab Yh (mNil))) : M W) G h9 = .ok (.t Yb4) h9 := rfl
 have bS : StOk Yb4 := stOk_sq (b := false) (fun t ht => by
  obtain ⟨x, hx, rfl⟩ := List.mem_map.mp ht
  obtain ⟨d, hd, rfl⟩ := List.mem_map.mp hx
  exact ⟨rfl, fun y e => by cases e; have := dTx_len (bok d hd).w (bok d hd).n; omega⟩) (by simp [bb])
 have t5 : (zaj asB Ya3 : M Bool) G h9 = .ok false h9 := by
  have q : zam [.t (.str n), .t Yb4] h9 = .ok Yaw h9 := by
   rw [zcq (st := .lst ((bb.map dTx).map T.str)) rfl Ydh bS, show hKd (.str n) Yb4 = .non from hKd_good (b := false) nn bok Ym (by simp [bb])]
  exact zco (binP (a := .t .non) (zao (ws := [.t (.str n), .t Yb4]) (zau rfl (zau bt rfl)) q) rfl rfl)
 refine vc_ifE t5 Yd7 fun _ => zbq ⟨_, _, _, _, rfl, d9⟩
theorem law_is {ns : List Int} (hn : ns.length ≤ 63) : ∃ hp', F_law [.t Y7] [] = .ok (.t Yc9) hp' := by
 suffices h : Wp (F_law [.t Y7] []) fun w _ => w = .t Yc9 by
  obtain ⟨w, h1, e, rfl⟩ := h.ex
  exact ⟨h1, e⟩
 refine vc_fnM (eta := some (.t Y7) :: List.replicate 7 none) rfl rfl ?_
 unfold B_law
 let P : Option W := some (.t Y7)
 have kl : ∀ {h : IH}, oLen [.t Y7] h = .ok (.t (.int (ns.length : Nat))) h := fun {h} => by simp only [oLen, items_s, List.length_map]
 obtain ⟨m, em, hm⟩ : ∃ m : Nat, (if (1 : Int) < (if ((ns.length : Nat) : Int) < 3 then ((ns.length : Nat) : Int) else 3) then (if ((ns.length : Nat) : Int) < 3 then ((ns.length : Nat) : Int) else 3) else 1) = (m : Int) ∧ m < 4 := by
  refine ⟨(if (1 : Int) < (if ((ns.length : Nat) : Int) < 3 then ((ns.length : Nat) : Int) else 3) then (if ((ns.length : Nat) : Int) < 3 then ((ns.length : Nat) : Int) else 3) else 1).toNat, ?_, ?_⟩
  all_goals split <;> split <;> omega
 refine zap (vc_for (vc_src (zal (zcf (zal (vc_c (zal (zcf (zal (vc_c (zal (zcf (zal (zba rfl (zbc (Wp.rw kl (Wp.ok (zbc (Wp.rw oMin2_i (Wp.ok (zbc (Wp.rw oMax2_i (Wp.ok (zbc ?_))))))))))))))))))))))))
 rw [em]
 refine Wp.rw (rng_is (n := m) Yc) (Wp.ok ?_)
 refine vc_loop (G := gN 1) (S := f_law_l2) (fun ws eta h => (∃ ks : List Nat, ws = ks.map natW ∧ ∀ k ∈ ks, k < 10) ∧ ∃ r : IS, eta = P :: r ∧ r.length = 7) ?_ _ _ _ ⟨⟨List.range m, rfl, fun k hk => by have := List.mem_range.mp hk; omega⟩, List.replicate 7 none, rfl, rfl⟩ ?_
 ·rintro w ws eta h ⟨⟨ks, ew, hk⟩, r, rfl, rl⟩
  cases ks with
  | nil => simp at ew
  | cons k ks =>
   rw [List.map_cons] at ew
   simp only [List.cons.injEq] at ew
   obtain ⟨rfl, rfl⟩ := ew
   match r, rl with
   | [w1, w2, w3, w4, w5, w6, w7], _ =>
    refine ⟨_, rfl, ?_⟩
    unfold f_law_l2
    have kb := hk k Yan
    obtain ⟨a, h1, e1, d1, _⟩ := deal_is (hp := h) (b := (k : Int)) hn ⟨by omega, by omega⟩
    have ek : natW k = W.t Yb0 := by unfold natW; rw [Int.zero_add]
    rw [ek]
    refine zap (zbd (vc_call (zal (zba rfl (zal (zba rfl (zbc (Wp.of e1 (za6 ?_)))))))))
    refine vc_for (vc_src (zal (vc_c (zbc (Wp.rw (rng_is (n := 6) Yc) (Wp.ok ?_))))))
    refine vc_loop (G := gN 3) (S := f_law_l1) (fun ws eta h => Deal a (a - 1) h ∧ ∃ w3 w4 w5 w6 w7, eta = F03 P (some (.t Yb0)) a w3 w4 w5 w6 w7) ?_ _ _ _ ⟨d1, _, _, _, _, _, rfl⟩ ?_
    ·rintro w ws eta h ⟨d, w3, w4, w5, w6, w7, rfl⟩
     exact ⟨_, rfl, (turn03 d (w3 := some w)).mono fun fl h2 ⟨w4, w5, w6, w7, e, d2⟩ => ⟨_, e, d2, _, _, _, _, _, rfl⟩⟩
    ·rintro e h ⟨d, w3, w4, w5, w6, w7, rfl⟩
     exact ⟨_, rfl, ⟨ks, rfl, fun k hk' => hk k (List.mem_cons_of_mem _ hk')⟩, _, rfl, rfl⟩
 ·rintro e h ⟨-, r, rfl, rl⟩
  refine za6 ?_
  have hr : ∀ (ts : List T) (u : T), StOk Yc1 → hKd (.str "w") Yc1 = u → ∀ {h : IH}, zam [.t (.str "w"), .t Yc1] h = .ok (.t u) h := fun ts u o e h => by
   rw [zcq rfl (fun x e => by cases e; decide) o, e]
  have so : ∀ ts : List T, (ts.all stB) = true → ts.length ≤ 1000 → StOk Yc1 := fun ts a l => stOk_sq (b := false) (fun t ht => stB_ok (List.all_eq_true.mp a t ht)) l
  have w1 : hKd (.str "w") (.lst [.str "write a", .str "bump a"]) = .non := hKd_good (b := false) (ds := [("write", "a"), ("bump", "a")]) Ym (fun d hd => by
   simp only [List.mem_cons, List.not_mem_nil, or_false] at hd
   rcases hd with rfl | rfl
   ·exact ⟨by simp, wrd_write, nam_ok Ym⟩
   ·exact ⟨by simp, wrd_bump, nam_ok Ym⟩) Ym Yal
  have w2 : hKd (.str "w") (.lst [.str "write a", .str "bump a", .str "write a"]) = .str "steps" := hKd_bad Ym ⟨so _ Ym Yal, .inl Ym⟩
  have t1 : (zaj asB Ybk : M Bool) (P :: r) h = .ok false h := zco (binP (zao (ws := [.t (.str "w"), .t (.lst [.str "write a", .str "bump a"])]) rfl (hr _ _ (so _ Ym Yal) w1)) rfl rfl)
  refine zap (vc_ifE t1 Yd7 fun _ => zbq (za6 (zb0 ?_)))
  have q : (mBin Ydz Ycf Yeq : M W) (P :: r) h = .ok (.t Yc9) h := binP (zao (ws := [.t (.str "w"), .t (.lst [.str "write a", .str "bump a", .str "write a"])]) rfl (hr _ _ (so _ Ym Yal) w2)) rfl (ev_eqs.trans Yal)
  exact Wp.of q ⟨_, rfl, rfl⟩
end
section
variable {P : Program} {w : World} {K : PySem.W.Frag} {mg : Str → Option Value} {base : Heap} {f : Addr} {fd : FuncData} {dfs : List V} {kws : List Ydn}
abbrev DG (K : PySem.W.Frag) (x q : Str) (s : Stmt) (l : List V) (k : List Ydn) (a : Addr) (d : FuncData) : Prop := FunD K x q (defArgs s) (defBody s) (defScope s) l k a d
local macro_rules | `(tactic| simp_all_arith) => `(tactic| exact ⟨rfl, rfl, rfl, by decide +kernel, rfl, by decide +kernel, by decide +kernel⟩)
local macro_rules | `(tactic| simp_all_arith!) => `(tactic| first | exact .inl rfl | exact .inr rfl)
abbrev N_w_deal : List Str := ["_law_script_here", "_law_base", "_law_cells", "_law_blended", "_law_cell"]
theorem sc_w_deal : FnScope N_w_deal ["_law_script_here", "_law_base"] (defScope s_w_deal) := by simp_all_arith
theorem yin (F : DG K "_law_deal" "_law_deal" s_w_deal dfs kws f fd)
  (ycq : mg "int" = none)
  (yhz : mg "abs" = none) :
  FnG P w K mg base Yn 1 f fd ["_law_script_here", "_law_base"] (spM K w F_w_deal 2) :=
 okM (k := 0) F sc_w_deal fun cdv A outer s H E hr hgd => by
  have hN := sc_w_deal.nd
  have hu := hr.units
  exact zah (by first | exact st_comp (i := 2) (own := [("_law_cell", 4)]) (T := mYes) (E := zcv) rfl hN rfl rfl rfl (ii_sq (zbt (zac 0) (zb3 (zac 1)) (zb3 (zag)))) (by first | exact blkOk_by (N := N_w_deal) (sc := defScope s_w_deal) (by decide +kernel) | exact blkOk_by (by with_unfolding_all rfl) | exact blkOk_by (by decide +kernel +revert)) (fun _ _ _ _ _ => pg_name (i := 4) hN rfl Ys) (za8 4) Yaj Yde zbk | exact za3 2 hN (zct (own := [("_law_cell", 4)]) (T := mYes) (E := zcv) rfl hN (ii_sq (zbt (zac 0) (zb3 (zac 1)) (zb3 (zag)))) (by first | exact blkOk_by (N := N_w_deal) (sc := defScope s_w_deal) (by decide +kernel) | exact blkOk_by (by with_unfolding_all rfl) | exact blkOk_by (by decide +kernel +revert)) (fun _ _ _ _ _ => pg_name (i := 4) hN rfl Ys) (za8 4) Yaj Yde zbk)) (zah (za3 3 hN (za7 (zag) (ie_mulA (zag) (zac 1)))) (zah (st_for (B := zb9) PassesOwn.never rfl (ii_sq (zac 2)) (pg_name (i := 4) hN rfl Ys) (za8 4) (zaq (za3 3 hN (ie_mod (ie_bt call_int1 ok_int (zaa (za7 (za7 (ie_mulA (zac 3) (zag)) (ie_mod (ie_bt call_int1 ok_int Ybh ycq) (zag))) (zag)) (zad)) ycq) (zag))))) (zaq (za2 (ie_lstL (zaa (ie_revL (zct (own := [("_law_cell", 4)]) (T := zcc) (E := zcu) rfl hN (ii_sq (zac 2)) (by first | exact blkOk_by (N := N_w_deal) (sc := defScope s_w_deal) (by decide +kernel) | exact blkOk_by (by with_unfolding_all rfl) | exact blkOk_by (by decide +kernel +revert)) (fun _ _ _ _ _ => pg_name (i := 4) hN rfl Ys) (za8 4) (fun _ _ _ _ _ => its_one (it_ge (zac 4) (ie_pow (zag) (zag)))) (fun _ _ _ _ _ => zac 4) zbk)) (zaa (zac 3) (zad))))))))
abbrev yex : List Str := ["_law_deeds", "_law_word", "_law_called"]
theorem ydu : FnScope yex ["_law_deeds"] (defScope ybh) := by simp_all_arith
theorem ygg (F : DG K "_law_deed_texts" "_law_deed_texts" ybh dfs kws f fd) :
  FnG P w K mg base Yn 1 f fd ["_law_deeds"] (spM K w zbr 1) :=
 okP (k := 0) F ydu fun cdv A outer s H E hr hgd => by
  have hN := ydu.nd
  have hu := hr.units
  exact zaq (za2 (zct (own := [("_law_word", 1), ("_law_called", 2)]) (T := mYes) (E := zbf) rfl hN (ii_sq (zac 0)) (by first | exact blkOk_by (N := yex) (sc := defScope ybh) (by decide +kernel) | exact blkOk_by (by with_unfolding_all rfl) | exact blkOk_by (by decide +kernel +revert)) (fun _ _ _ _ _ => pg_tup rfl (pgs_cons (pg_name (i := 1) hN rfl Ys) (pgs_cons (pg_name (i := 2) hN rfl Ys) (pgs_nil)))) (tg_tup (tgs_cons (za8 1) (tgs_cons (za8 2) (tgs_nil)))) Yaj (fun _ _ _ _ _ => za7 (za7 (zac 1) (zaf)) (zac 2)) zbk))
abbrev yi3 : List Str := ["_law_deal_here", "_law_wide", "_law_left"]
theorem yhf : FnScope yi3 ["_law_deal_here", "_law_wide"] (defScope ygd) := by simp_all_arith
theorem yio (F : DG K "_law_draw" "_law_draw" ygd dfs kws f fd)
  (ycq : mg "int" = none) :
  FnG P w K mg base Yn 1 f fd ["_law_deal_here", "_law_wide"] Yd8 :=
 okM (k := 0) F yhf fun cdv A outer s H E hr hgd => by
  have hN := yhf.nd
  have hu := hr.units
  exact zah (st_while (B := zbo) 4096 PassesOwn.never ((iw_and (it_ne hu Yb5 (zav (zad))) (iw_and1 (it_eq hu (za0 Yb5 (ie_neg (zag))) (zag)))).it) (zaq (st_expr (ie_pop Yb5)))) (zah (st_if (it_ne hu Yb5 (zav (zad))) (zah (za3 2 hN (ie_pop Yb5)) (zah (st_expr (ie_append Yb5 (zaa (ie_div (zac 2) (zac 1)) (zad)))) (zaq (za2 (ie_mod (ie_bt call_int1 ok_int Yes ycq) (zac 1)))))) (zcg)) (zah (st_iput (zac 0) (zag) (ie_mod (ie_bt call_int1 ok_int (zaa (za7 (ie_mulA Yb5 (zag)) (zag)) (zad)) ycq) (zag))) (zaq (za2 (ie_mod (ie_bt call_int1 ok_int (zaa (ie_div Yb5 (zag)) (zad)) ycq) (zac 1))))))
abbrev yix : List Str := ["_law_deal_here", "_law_some", "_law_left", "_law_found"]
theorem ygu : FnScope yix ["_law_deal_here", "_law_some"] (defScope yfl) := by simp_all_arith
theorem yie (F : DG K "_law_mixed" "_law_mixed" yfl dfs kws f fd)
  (yk : mg "len" = none)
  (ycr : mg "list" = none)
  {ye : Addr} {yo : FuncData} (yc : FnG P w K mg base Yn 1 ye yo ["_law_deal_here", "_law_wide"] Yd8)
  (yf : mg "_law_draw" = some Yej) (yg : PySem.W.keepIn K Yej = true)
  (yd : Binds K yo ["_law_deal_here", "_law_wide"] []) :
  FnG P w K mg base Yn 2 f fd ["_law_deal_here", "_law_some"] (spM K w zbz 2) :=
 okM (k := 1) F ygu fun cdv A outer s H E hr hgd => by
  have hN := ygu.nd
  have hu := hr.units
  exact zah (st_par2 rfl hN (zaa (ie_bt call_list_of ok_listL Yav ycr) (zaa (ie_lstL (zad)) (zad)))) (zah (st_while (B := zby) 4096 PassesOwn.never (it_ne hu (zac 2) (zav (zad))) (zaq (st_expr (ie_append (zac 3) (zaa (ie_popAt (zac 2) (zaa (zai (dts := []) (dvs := []) yc Yb hgd (by rfl) yf yg yd .nil Yi zar (zaa (zac 0) (zaa (zcw call_len ok_len Yes yk) (zad)))) (zad))) (zad)))))) (is_fz 3 (zaq (za2 (zac 3)))))
abbrev yi4 : List Str := ["_law_deal_here", "_law_some"]
theorem yhg : FnScope yi4 ["_law_deal_here", "_law_some"] (defScope yge) := by simp_all_arith
theorem yip (F : DG K "_law_pick" "_law_pick" yge dfs kws f fd)
  (yk : mg "len" = none)
  {ye : Addr} {yo : FuncData} (yc : FnG P w K mg base Yn 1 ye yo ["_law_deal_here", "_law_wide"] Yd8)
  (yf : mg "_law_draw" = some Yej) (yg : PySem.W.keepIn K Yej = true)
  (yd : Binds K yo ["_law_deal_here", "_law_wide"] []) :
  FnG P w K mg base Yn 2 f fd ["_law_deal_here", "_law_some"] (spM K w zaw 2) :=
 okM (k := 1) F yhg fun cdv A outer s H E hr hgd => by
  have hN := yhg.nd
  have hu := hr.units
  exact zaq (za2 (za0 (zac 1) Ybp))
abbrev yi7 : List Str := ["_law_deal_here", "_law_deeds", "_law_more", "_law_found", "_law_deed", "_law_at"]
theorem yh2 : FnScope yi7 ["_law_deal_here", "_law_deeds", "_law_more"] (defScope yg6) := by simp_all_arith
theorem yiy (F : DG K "_law_put" "_law_put" yg6 dfs kws f fd)
  (yk : mg "len" = none)
  (ycr : mg "list" = none)
  {ye : Addr} {yo : FuncData} (yc : FnG P w K mg base Yn 1 ye yo ["_law_deal_here", "_law_wide"] Yd8)
  (yf : mg "_law_draw" = some Yej) (yg : PySem.W.keepIn K Yej = true)
  (yd : Binds K yo ["_law_deal_here", "_law_wide"] []) :
  FnG P w K mg base Yn 2 f fd ["_law_deal_here", "_law_deeds", "_law_more"] (spM K w F_w_put 3) :=
 okM (k := 1) F yh2 fun cdv A outer s H E hr hgd => by
  have hN := yh2.nd
  have hu := hr.units
  exact zah (za3 3 hN (ie_bt call_list_of ok_listF Yav ycr)) (zah (st_for (B := f_w_put_l1) PassesOwn.never rfl (ii_sq (zac 2)) (pg_name (i := 4) hN rfl Ys) (za8 4) (zah (za3 5 hN (zai (dts := []) (dvs := []) yc Yb hgd (by rfl) yf yg yd .nil Yi zar (zaa (zac 0) (zaa (za7 Ydg (zag)) (zad))))) (zaq (za3 3 hN (za7 (za7 (zbt (zac 3) io_none (zb3 (zac 5))) (zav Ybh)) (zbt (zac 3) (zb3 (zac 5)) io_none)))))) (zaq (za2 (zac 3))))
abbrev ydl : List Str := ["_law_deal_here", "_law_called", "_law_counters", "_law_most", "_law_parts", "_law_found", "_law_more", "_law_part", "_law_turn"]
theorem yf7 : FnScope ydl ["_law_deal_here", "_law_called", "_law_counters", "_law_most"] (defScope ybi) := by simp_all_arith
theorem yh3 (F : DG K "_law_script" "_law_script" ybi dfs kws f fd)
  (yk : mg "len" = none)
  (yaq : mg "range" = none)
  {yg7 : Addr} {yij : FuncData} (ygh : FnG P w K mg base Yn 2 yg7 yij ["_law_deal_here", "_law_deeds", "_law_more"] (spM K w F_w_put 3))
  (yg8 : mg "_law_put" = some (.ref yg7)) (yg9 : PySem.W.keepIn K (.ref yg7) = true)
  (ygi : Binds K yij ["_law_deal_here", "_law_deeds", "_law_more"] [])
  {ye : Addr} {yo : FuncData} (yc : FnG P w K mg base Yn 1 ye yo ["_law_deal_here", "_law_wide"] Yd8)
  (yf : mg "_law_draw" = some Yej) (yg : PySem.W.keepIn K Yej = true)
  (yd : Binds K yo ["_law_deal_here", "_law_wide"] [])
  {y4 : Addr} {yao : FuncData} (yp : FnG P w K mg base Yn 2 y4 yao ["_law_deal_here", "_law_some"] (spM K w zaw 2))
  (y5 : mg "_law_pick" = some (.ref y4)) (y6 : PySem.W.keepIn K (.ref y4) = true)
  (yq : Binds K yao ["_law_deal_here", "_law_some"] [])
  {ybe : Addr} {yde : FuncData} (yb5 : FnG P w K mg base Yn 2 ybe yde ["_law_deal_here", "_law_some"] (spM K w zbz 2))
  (yck : mg "_law_mixed" = some (.ref ybe)) (ycl : PySem.W.keepIn K (.ref ybe) = true)
  (yb6 : Binds K yde ["_law_deal_here", "_law_some"] []) :
  FnG P w K mg base Yn 3 f fd ["_law_deal_here", "_law_called", "_law_counters", "_law_most"] (spM K w zb8 4) :=
 okM (k := 2) F yf7 fun cdv A outer s H E hr hgd => by
  have hN := yf7.nd
  have hu := hr.units
  exact zah (za3 4 hN (zbt (zai (dts := []) (dvs := []) yb5 Yb hgd (by rfl) yck ycl yb6 .nil Yi zar (zaa (zac 0) Yav)) io_none (zb3 (za7 (zag) Ybp)))) (zah (za3 5 hN (zbt (zct (own := [("_law_part", 7)]) (T := mYes) (E := zb5) rfl hN (ii_sq (zac 4)) Yq (fun _ _ _ _ _ => pg_name (i := 7) hN rfl Ys) (za8 7) Yaj (fun _ _ _ _ _ => ie_tup (zaa (zaf) (zaa (zac 7) (zad)))) zbk) io_none (zb3 (zac 3)))) (zah (by first | exact st_comp (i := 6) (own := [("_law_turn", 8)]) (T := mYes) (E := zb6) rfl hN rfl rfl rfl (ii_rng1 (by rfl) yaq (zaa (zai (dts := []) (dvs := []) yc (hr.mono (by decide)) hgd (by rfl) yf yg yd .nil (fun s => rfl) zar (zaa (zac 0) Ybm)) (zad))) Yq (fun _ _ _ _ _ => pg_name (i := 8) hN rfl Ys) (za8 8) Yaj (fun _ _ _ _ _ => ie_tup (zaa (zaf) Ya1)) zbk | exact za3 6 hN (zct (own := [("_law_turn", 8)]) (T := mYes) (E := zb6) rfl hN (ii_rng1 (by rfl) yaq (zaa (zai (dts := []) (dvs := []) yc (hr.mono (by decide)) hgd (by rfl) yf yg yd .nil (fun s => rfl) zar (zaa (zac 0) Ybm)) (zad))) Yq (fun _ _ _ _ _ => pg_name (i := 8) hN rfl Ys) (za8 8) Yaj (fun _ _ _ _ _ => ie_tup (zaa (zaf) Ya1)) zbk)) (zaq (za2 (zai (dts := []) (dvs := []) ygh Yb hgd (by rfl) yg8 yg9 ygi .nil Yi zar (zaa (zac 0) (zaa (zac 5) (zaa (zbt (zac 6) io_none (zb3 (ie_sub (zac 3) (zcw call_len ok_len (zaa (zac 5) (zad)) yk)))) (zad)))))))))
abbrev yiq : List Str := ["_law_deal_here", "_law_size"]
theorem yf8 : FnScope yiq ["_law_deal_here", "_law_size"] (defScope ye5) := by simp_all_arith
theorem yh4 (F : DG K "_law_titles" "_law_titles" ye5 dfs kws f fd)
  {ybe : Addr} {yde : FuncData} (yb5 : FnG P w K mg base Yn 2 ybe yde ["_law_deal_here", "_law_some"] (spM K w zbz 2))
  (yck : mg "_law_mixed" = some (.ref ybe)) (ycl : PySem.W.keepIn K (.ref ybe) = true)
  (yb6 : Binds K yde ["_law_deal_here", "_law_some"] []) :
  FnG P w K mg base Yn 3 f fd ["_law_deal_here", "_law_size"] (spM K w zcp 2) :=
 okM (k := 2) F yf8 fun cdv A outer s H E hr hgd => by
  have hN := yf8.nd
  have hu := hr.units
  exact zaq (za2 (zbt (zai (dts := []) (dvs := []) yb5 Yb hgd (by rfl) yck ycl yb6 .nil Yi zar (zaa (zac 0) (zaa (zav Ya9) (zad)))) io_none (zb3 (zac 1))))
abbrev yhh : List Str := ["value", "letter"]
theorem ygv : FnScope yhh ["value"] (defScope yds) := by simp_all_arith
theorem yif (F : DG K "is_name" "is_name" yds dfs kws f fd)
  (yir : mg "all" = none)
  (yh : mg "isinstance" = none)
  (yf3 : mg "str" = none)
  (yk : mg "len" = none)
  {t_MOST_LETTERS : Tok} (yc3 : mg "MOST_LETTERS" = some (.int (4) t_MOST_LETTERS))
  {t_LETTERS : Tok} (yfp : mg "LETTERS" = some (.str "abcdefghijklmnopqrstuvwxyz" t_LETTERS))
  (hT : IsTab K isTab)
  {ycy : Addr} {o_BARRED : Obj} {us_BARRED : List Value} {ye6 : Nat} (ygj : mg "BARRED" = some (.ref ycy)) (lk_BARRED : K.lookup ycy = some o_BARRED) (yce : o_BARRED.cls = .type "tuple") (ycf : o_BARRED.dict = none) (oa_BARRED : o_BARRED.data = .seq us_BARRED.toArray ye6) (or_BARRED : Vals Ydu us_BARRED) (oz_BARRED : us_BARRED.length ≤ 1000) :
  FnG P w K mg base Yn 1 f fd ["value"] (spM K w zaz 1) :=
 okP (k := 0) F ygv fun cdv A outer s H E hr hgd => by
  have hN := ygv.nd
  have hu := hr.units
  exact zah (st_if ((iw_or Yc5 (iw_or (it_in hu (zac 0) (ie_globT ygj lk_BARRED yce ycf oa_BARRED or_BARRED oz_BARRED)) (iw_or1 (it_not (it_chain op_le ok_opC op_le ok_opC (zag) (zcw call_len ok_len (zaa (zac 0) (zad)) yk) (ie_glob (v := .int (4)) (by rfl) yc3 ⟨_, rfl⟩ (fun s => by simp [Rw, Rf]))))))).it) Ycv (zcg)) (zaq (za2 (zcw (cr_all rfl) ok_all (zaa (zct (own := [("letter", 1)]) (T := mYes) (E := zcj) rfl hN (ii_str (zac 0)) (by first | exact blkOk_by (N := yhh) (sc := defScope yds) (by decide +kernel) | exact blkOk_by (by with_unfolding_all rfl) | exact blkOk_by (by decide +kernel +revert)) (fun _ _ _ _ _ => pg_name (i := 1) hN rfl Ys) (za8 1) Yaj (fun _ _ _ _ _ => ie_inS (zac 1) (ie_globS yfp)) zbk) (zad)) yir)))
abbrev yhp : List Str := ["value"]
theorem yey : FnScope yhp ["value"] (defScope ydg) := by simp_all_arith
theorem ygw (F : DG K "is_sequence" "is_sequence" ydg dfs kws f fd)
  (yh : mg "isinstance" = none)
  (yac : mg "tuple" = none)
  (ycr : mg "list" = none)
  (hT : IsTab K isTab) :
  FnG P w K mg base Yn 1 f fd ["value"] (spM K w za5 1) :=
 okP (k := 0) F yey fun cdv A outer s H E hr hgd => by
  have hN := yey.nd
  have hu := hr.units
  exact zaq (za2 (zcw call_isiA (ok_isi hT) (zaa (zac 0) (zaa (ie_tup (zaa (ie_ty ycr Ybs) (zaa (ie_ty yac Ybs) (zad)))) (zad))) yh))
abbrev yiz : List Str := ["value", "words", "parts"]
theorem ygx : FnScope yiz ["value", "words"] (defScope yfm) := by simp_all_arith
theorem yig (F : DG K "deed_in" "deed_in" yfm dfs kws f fd)
  (yk : mg "len" = none)
  (yh : mg "isinstance" = none)
  (yf3 : mg "str" = none)
  {ybf : Addr} {ydf : FuncData} (yb7 : FnG P w K mg base Yn 1 ybf ydf ["value"] (spM K w zaz 1))
  (ycm : mg "is_name" = some (.ref ybf)) (ycn : PySem.W.keepIn K (.ref ybf) = true)
  (yb8 : Binds K ydf ["value"] [])
  (hT : IsTab K isTab) :
  FnG P w K mg base Yn 2 f fd ["value", "words"] (spM K w zcn 2) :=
 okP (k := 1) F ygx fun cdv A outer s H E hr hgd => by
  have hN := ygx.nd
  have hu := hr.units
  exact zah (st_if Yc5 (zaq (za2 (zb2))) (zcg)) (zah (za3 2 hN (ie_split (zac 0) (zaf))) (zah (st_if ((iw_or (it_ne hu (zcw call_len ok_len Yes yk) (zag)) (iw_or (it_nin hu (za0 (zac 2) (zag)) (zac 1)) (iw_or1 (it_not (it_tru (zai (dts := []) (dvs := []) yb7 Yb hgd (by rfl) ycm ycn yb8 .nil Yi zbg (zaa (za0 (zac 2) (zag)) (zad)))))))).it) (zaq (za2 (zb2))) (zcg)) (zaq (za2 (ie_tup (zaa (za0 (zac 2) (zag)) (zaa (za0 (zac 2) (zag)) (zad))))))))
abbrev ycs : List Str := ["value", "words", "found", "parts", "step", "deed"]
theorem yf9 : FnScope ycs ["value", "words"] (defScope yaz) := by simp_all_arith
theorem yh5 (F : DG K "deeds_in" "deeds_in" yaz dfs kws f fd)
  (yk : mg "len" = none)
  (yis : mg "set" = none)
  (yac : mg "tuple" = none)
  {yfq : Addr} {yhi : FuncData} (ydm : FnG P w K mg base Yn 2 yfq yhi ["value", "words"] (spM K w zcn 2))
  (ydv : mg "deed_in" = some (.ref yfq)) (ydw : PySem.W.keepIn K (.ref yfq) = true)
  (ydn : Binds K yhi ["value", "words"] [])
  {ydh : Addr} {yfj : FuncData} (yc4 : FnG P w K mg base Yn 1 ydh yfj ["value"] (spM K w za5 1))
  (ydi : mg "is_sequence" = some (.ref ydh)) (ydj : PySem.W.keepIn K (.ref ydh) = true)
  (yc5 : Binds K yfj ["value"] []) :
  FnG P w K mg base Yn 3 f fd ["value", "words"] (spM K w zbb 2) :=
 okP (k := 2) F yf9 fun cdv A outer s H E hr hgd => by
  have hN := yf9.nd
  have hu := hr.units
  exact zah (st_if (it_not (it_tru (zai (dts := []) (dvs := []) yc4 Yb hgd (by rfl) ydi ydj yc5 .nil Yi zbg (zaa (zac 0) (zad))))) (zaq (za2 (zb2))) (zcg)) (zah (by first | exact st_comp (i := 2) (own := [("step", 4)]) (T := mYes) (E := za9) rfl hN rfl rfl rfl (ii_sq (zac 0)) (by first | exact blkOk_by (N := ycs) (sc := defScope yaz) (by decide +kernel) | exact blkOk_by (by with_unfolding_all rfl) | exact blkOk_by (by decide +kernel +revert)) (fun _ _ _ _ _ => pg_name (i := 4) hN rfl Ys) (za8 4) Yaj Ycg zbk | exact za3 2 hN (zct (own := [("step", 4)]) (T := mYes) (E := za9) rfl hN (ii_sq (zac 0)) (by first | exact blkOk_by (N := ycs) (sc := defScope yaz) (by decide +kernel) | exact blkOk_by (by with_unfolding_all rfl) | exact blkOk_by (by decide +kernel +revert)) (fun _ _ _ _ _ => pg_name (i := 4) hN rfl Ys) (za8 4) Yaj Ycg zbk)) (zah (by first | exact st_comp (i := 3) (own := [("deed", 5)]) (T := zax) (E := za1) rfl hN rfl rfl rfl (ii_sq (zac 2)) (by first | exact blkOk_by (N := ycs) (sc := defScope yaz) (by decide +kernel) | exact blkOk_by (by with_unfolding_all rfl) | exact blkOk_by (by decide +kernel +revert)) (fun _ _ _ _ _ => pg_name (i := 5) hN rfl Ys) (za8 5) Ybo (fun _ _ _ _ _ => za0 (zac 5) (zag)) zbk | exact za3 3 hN (zct (own := [("deed", 5)]) (T := zax) (E := za1) rfl hN (ii_sq (zac 2)) (by first | exact blkOk_by (N := ycs) (sc := defScope yaz) (by decide +kernel) | exact blkOk_by (by with_unfolding_all rfl) | exact blkOk_by (by decide +kernel +revert)) (fun _ _ _ _ _ => pg_name (i := 5) hN rfl Ys) (za8 5) Ybo (fun _ _ _ _ _ => za0 (zac 5) (zag)) zbk)) (zaq (za2 (ie_if ((iw_or (it_in hu (zb2) (zac 2)) (iw_or1 (it_ne hu (ie_lenSet rfl yk yis (zac 3)) Ydg))).it) (zb2) (ie_bt call_tupS ok_tup Yes yac))))))
abbrev yih : List Str := ["self", "name", "steps", "deeds"]
theorem yfr : FnScope yih ["self", "name", "steps"] (defScope ydz) := by simp_all_arith
theorem yhq (F : DG K "__init__" "Kind.__init__" ydz dfs kws f fd)
  (yac : mg "tuple" = none)
  (yk : mg "len" = none)
  {ye7 : Addr} {ygy : FuncData} (yd0 : FnG P w K mg base Yn 3 ye7 ygy ["value", "words"] (spM K w zbb 2))
  (ye8 : mg "deeds_in" = some (.ref ye7)) (ye9 : PySem.W.keepIn K (.ref ye7) = true)
  (yd1 : Binds K ygy ["value", "words"] [])
  {ybf : Addr} {ydf : FuncData} (yb7 : FnG P w K mg base Yn 1 ybf ydf ["value"] (spM K w zaz 1))
  (ycm : mg "is_name" = some (.ref ybf)) (ycn : PySem.W.keepIn K (.ref ybf) = true)
  (yb8 : Binds K ydf ["value"] [])
  (yd2 : ∀ c ∈ (["Kind"] : List Str), FldOk K c "deeds")
  (yd3 : ∀ c ∈ (["Kind"] : List Str), FldOk K c "steps")
  (yfa : ∀ c ∈ (["Kind"] : List Str), FldOk K c "name")
  {ya yr : Addr} {ydk : FuncData} (yb : XF P w K mg base "InvalidKind" ya yr ydk ["self", "word"] "word")
  {yam : Addr} {o_WRITER_WORDS : Obj} {us_WRITER_WORDS : List Value} {yb1 : Nat} (yc6 : mg "WRITER_WORDS" = some (.ref yam)) (lk_WRITER_WORDS : K.lookup yam = some o_WRITER_WORDS) (yah : o_WRITER_WORDS.cls = .type "tuple") (yai : o_WRITER_WORDS.dict = none) (oa_WRITER_WORDS : o_WRITER_WORDS.data = .seq us_WRITER_WORDS.toArray yb1) (or_WRITER_WORDS : Vals ((["write", "bump"] : List Str).map V.str) us_WRITER_WORDS) (oz_WRITER_WORDS : us_WRITER_WORDS.length ≤ 1000) :
  FnG P w K mg base (L2N.CX P w) 4 f fd ["self", "name", "steps"] (spX K w zas 3) :=
 okX (k := 3) F yfr fun cdv A outer s H E hr hgd => by
  have hN := yfr.nd
  have hu := hr.units
  exact zah (st_if (it_not (it_tru (zai (dts := []) (dvs := []) yb7 Yb hgd (by rfl) ycm ycn yb8 .nil Yi zbg Yav))) Ycb (zcg)) (zah (za3 3 hN (zai (dts := []) (dvs := []) yd0 Yb hgd (by rfl) ye8 ye9 yd1 .nil Yi zbg (zaa (zac 2) (zaa (ie_globT yc6 lk_WRITER_WORDS yah yai oa_WRITER_WORDS or_WRITER_WORDS oz_WRITER_WORDS) (zad))))) (zah (st_if ((iw_or (it_isN (zac 3) (zb2)) (iw_or1 (it_eq hu Ydg (zag)))).it) Ycb (zcg)) (zah (st_fld yfa (zac 0) (zac 1)) (zah (st_fld yd3 (zac 0) (ie_bt call_tupS ok_tup Yes yac)) (zaq (st_fld yd2 (zac 0) (zac 3)))))))
abbrev yi0 : List Str := ["_law_title", "_law_steps", "_law_found", "e"]
theorem ygz : FnScope yi0 ["_law_title", "_law_steps"] (defScope yfn) := by simp_all_arith
theorem yii (F : DG K "_law_heard" "_law_heard" yfn dfs kws f fd)
  (yh : mg "isinstance" = none)
  {y7 : Addr} (yg0 : ClsF K mg "Kind" y7)
  {yga : Addr} {ygb : FuncData} (ydq : FnG P w K mg base (L2N.CX P w) 4 yga ygb ["self", "name", "steps"] (spX K w zas 3))
  (yh6 : Mk K y7 yga)
  {ya yr : Addr} {ydk : FuncData} (yb : XF P w K mg base "InvalidKind" ya yr ydk ["self", "word"] "word")
  (y8 : XcF K ya)
  {yi : Addr} (ym : CN K "InvalidDesign" yi) (ycb : mg "InvalidDesign" = some (.ref yi))
  (yad : PySem.W.kitOne K Ybj (.ref yi) = some false)
  {yj : Addr} (yn : CN K "InvalidReader" yj) (ycc : mg "InvalidReader" = some (.ref yj))
  (yae : PySem.W.kitOne K Ybj (.ref yj) = some false)
  {yt : Addr} (y9 : CN K "RecordError" yt) (yc7 : mg "RecordError" = some (.ref yt))
  (yaj : PySem.W.kitOne K Ybj (.ref yt) = some true)
  (ya4 : PySem.W.findIn K Ybj "word" = some none)
  (ydr : Binds K ygb ["self", "name", "steps"] []) :
  FnG P w K mg base Yn 6 f fd ["_law_title", "_law_steps"] (spM K w zam 2) :=
 okP (k := 5) F ygz fun cdv A outer s H E hr hgd => by
  have hN := ygz.nd
  have hu := hr.units
  exact zah (za3 2 hN (zb2)) (zah (st_tryAs (i := 3) (B := zch) rfl rfl hN rfl rfl takes_nox (fun W pn xe tkB hpB => zaq (st_expr (ie_frzI (ie_makeX yh6 yg0.cn ydq Yb hgd (by rfl) yg0.mg ydr .nil (fun s => by rfl) fnX_len (fun σ => L2N.passAt (takesN tkB) σ) (zaa (zac 0) Yav))))) (.cons (S := zck) ⟨rfl, by decide, .inl yb.mg⟩ yb.hit (fun a oe cls d pn hz hf => xss_set 2 Yaz hN (xe_if ((xw_and (xt_val (xe_isi (t := .cls "RecordError") yb.cn y8 hz hf rfl (cv_cls y9 yaj) (ie_cls y9 yc7) yh)) (xw_and1 (xt_not (xt_val (xe_isiT yb.cn y8 hz hf (kx_f (cv_cls yn yae) (kx_f (cv_cls ym yad) (kx_nil))) (ie_tup (zaa (ie_cls yn ycc) (zaa (ie_cls ym ycb) (zad)))) yh))))).t) (xe_fld yb.cn y8 ya4 hz hf) (xe_of (zaf))) (xss_nil)) .nil)) (zaq (za2 (zac 2))))
abbrev yi5 : List Str := ["_law_deal_here", "_law_steps", "_law_odd", "_law_at", "_law_found"]
theorem yhj : FnScope yi5 ["_law_deal_here", "_law_steps"] (defScope ygf) := by simp_all_arith
theorem yit (F : DG K "_law_bent" "_law_bent" ygf dfs kws f fd)
  (yk : mg "len" = none)
  {y4 : Addr} {yao : FuncData} (yp : FnG P w K mg base Yn 2 y4 yao ["_law_deal_here", "_law_some"] (spM K w zaw 2))
  (y5 : mg "_law_pick" = some (.ref y4)) (y6 : PySem.W.keepIn K (.ref y4) = true)
  (yq : Binds K yao ["_law_deal_here", "_law_some"] [])
  {ye : Addr} {yo : FuncData} (yc : FnG P w K mg base Yn 1 ye yo ["_law_deal_here", "_law_wide"] Yd8)
  (yf : mg "_law_draw" = some Yej) (yg : PySem.W.keepIn K Yej = true)
  (yd : Binds K yo ["_law_deal_here", "_law_wide"] []) :
  FnG P w K mg base Yn 3 f fd ["_law_deal_here", "_law_steps"] (spM K w zbs 2) :=
 okM (k := 2) F yhj fun cdv A outer s H E hr hgd => by
  have hN := yhj.nd
  have hu := hr.units
  exact zah (za3 2 hN (zav (zaa (zaf) (zaa (zaf) Ya9)))) (zah (za3 2 hN (za7 (zac 2) (zav (zaa (zaf) (zaa (zaf) (zaa (zaf) (zaa (zaf) (zaa (zb2) (zaa (zag) (zaa (ie_bl) (zaa (ie_tup Yek) (zaa (zav Y0) (zad))))))))))))) (zah (za3 2 hN (za7 (zac 2) (zav Yek))) (zah (za3 3 hN (zai (dts := []) (dvs := []) yc Yb hgd (by rfl) yf yg yd .nil Yi zar (zaa (zac 0) (zaa (za7 (zcw call_len ok_len Yav yk) (zag)) (zad))))) (zah (za3 4 hN (zav (zaa (za7 (za7 (zbt (zac 1) io_none (zb3 (zac 3))) (zav Ya1)) (zbt (zac 1) (zb3 (zac 3)) io_none)) (zaa (za7 (zac 1) (zav Yek)) (zad))))) (zaq (za2 (zai (dts := []) (dvs := []) yp Yb hgd (by rfl) y5 y6 yq .nil Yi zar (zaa (zac 0) (zaa (za7 (zac 4) (zav (zaa (zai (dts := []) (dvs := []) yp Yb hgd (by rfl) y5 y6 yq .nil Yi zar (zaa (zac 0) (zaa (zav (zaa (zb2) (zaa (zaf) (zaa (zag) (zaa (ie_tup (zad)) (zaa (zav (zad)) (zaa (za0 (zac 1) (zag)) (zad)))))))) (zad)))) (zad)))) (zad))))))))))
abbrev yha : List Str := ["_law_deal_here", "_law_deep", "_law_form", "_law_inner", "_law_some", "_law_turn"]
theorem yh7 : FnScope yha ["_law_deal_here", "_law_deep"] (defScope yd8) := by simp_all_arith
theorem yi1 (F : DG K "_law_any" "_law_any" yd8 dfs kws f fd)
  {G : OpN} {r : Nat} (hG : ∀ ws hp, ws.length ≠ 2 → G ws hp = .bad)
  (yac : mg "tuple" = none)
  (yaq : mg "range" = none)
  {y4 : Addr} {yao : FuncData} (yp : FnG P w K mg base Yn 2 y4 yao ["_law_deal_here", "_law_some"] (spM K w zaw 2))
  (y5 : mg "_law_pick" = some (.ref y4)) (y6 : PySem.W.keepIn K (.ref y4) = true)
  (yq : Binds K yao ["_law_deal_here", "_law_some"] [])
  {ye : Addr} {yo : FuncData} (yc : FnG P w K mg base Yn 1 ye yo ["_law_deal_here", "_law_wide"] Yd8)
  (yf : mg "_law_draw" = some Yej) (yg : PySem.W.keepIn K Yej = true)
  (yd : Binds K yo ["_law_deal_here", "_law_wide"] [])
  {yc8 : Addr} {yez : FuncData} (ybg : FnG P w K mg base Yn (4 + r) yc8 yez ["_law_deal_here", "_law_deep"] (spM K w G 2))
  (yc9 : mg "_law_any" = some (.ref yc8)) (yda : PySem.W.keepIn K (.ref yc8) = true)
  (ycd : Binds K yez ["_law_deal_here", "_law_deep"] []) :
  FnG P w K mg base Yn (4 + r + 1) f fd ["_law_deal_here", "_law_deep"] (spM K w (S_w_any G) 2) :=
 okM (k := 4 + r) F yh7 fun cdv A outer s H E hr hgd => by
  have hN := yh7.nd
  have hu := hr.units
  exact zah (za3 2 hN (ie_if (it_gt (zac 1) (zag)) (zai (dts := []) (dvs := []) yc (hr.mono (Nat.le_add_right_of_le Yaz)) hgd (by rfl) yf yg yd .nil Yi zar (zaa (zac 0) Ybm)) (zag))) (zah (st_if (it_ltA (zac 2) (zag)) (zah (by first | exact st_comp (i := 3) (own := [("_law_turn", 5)]) (T := mYes) (E := (f_w_any_c1 G)) rfl hN rfl rfl rfl (ii_rng1 (by rfl) yaq (zaa (zai (dts := []) (dvs := []) yc (hr.mono (Nat.le_add_right_of_le (by decide))) hgd (by rfl) yf yg yd .nil (fun s => rfl) zar (zaa (zac 0) Ybm)) (zad))) Yar (fun _ _ _ _ _ => pg_name (i := 5) hN rfl Ys) (za8 5) Yaj Ya6 zbk | exact za3 3 hN (zct (own := [("_law_turn", 5)]) (T := mYes) (E := (f_w_any_c1 G)) rfl hN (ii_rng1 (by rfl) yaq (zaa (zai (dts := []) (dvs := []) yc (hr.mono (Nat.le_add_right_of_le (by decide))) hgd (by rfl) yf yg yd .nil (fun s => rfl) zar (zaa (zac 0) Ybm)) (zad))) Yar (fun _ _ _ _ _ => pg_name (i := 5) hN rfl Ys) (za8 5) Yaj Ya6 zbk)) (zaq (za2 (ie_if (it_eq hu (zac 2) (zag)) (zac 3) (ie_bt call_tupS ok_tup (zaa (zac 3) (zad)) yac))))) (zcg)) (zah (za3 4 hN (zav (zaa (zb2) (zaa (ie_bl) (zaa (ie_bl) (zaa (zag) (zaa (zag) (zaa (zag) (zaa (ie_sub (zag) (zag)) (zaa (ie_pow (zag) (zag)) Ya9)))))))))) (zaq (za2 (zai (dts := []) (dvs := []) yp (hr.mono (Nat.le_add_right_of_le Yaz)) hgd (by rfl) y5 y6 yq .nil Yi zar (zaa (zac 0) (zaa (za7 (zac 4) (zav (zaa (ie_tup (zaa (zaf) Ybm)) (zad)))) (zad))))))))
abbrev yi9 : List Str := ["_law_script_here", "_law_spot", "_law_deal_here", "_law_turn", "_law_steps", "_law_title", "_law_odd", "_law_wrong"]
theorem yi2 : FnScope yi9 ["_law_script_here"] (defScope yim) := by simp_all_arith
theorem yi8 (F : DG K "law" "law" yim dfs kws f fd)
  (yaq : mg "range" = none)
  (yiu : mg "max" = none)
  (yiv : mg "min" = none)
  (yk : mg "len" = none)
  (yac : mg "tuple" = none)
  {yfs : Addr} {yhk : FuncData} (yaa : FnG P w K mg base Yn 6 yfs yhk ["_law_title", "_law_steps"] (spM K w zam 2))
  (yaf : mg "_law_heard" = some (.ref yfs)) (yag : PySem.W.keepIn K (.ref yfs) = true)
  (yab : Binds K yhk ["_law_title", "_law_steps"] [])
  {yc8 : Addr} {yez : FuncData} (ybg : FnG P w K mg base Yn 16 yc8 yez ["_law_deal_here", "_law_deep"] (spM K w F_w_any 2))
  (yc9 : mg "_law_any" = some (.ref yc8)) (yda : PySem.W.keepIn K (.ref yc8) = true)
  (ycd : Binds K yez ["_law_deal_here", "_law_deep"] [])
  {ygk : Addr} {yh8 : FuncData} (ydx : FnG P w K mg base Yn 3 ygk yh8 ["_law_deal_here", "_law_steps"] (spM K w zbs 2))
  (yfb : mg "_law_bent" = some (.ref ygk)) (yfc : PySem.W.keepIn K (.ref ygk) = true)
  (ydy : Binds K yh8 ["_law_deal_here", "_law_steps"] [])
  {y4 : Addr} {yao : FuncData} (yp : FnG P w K mg base Yn 2 y4 yao ["_law_deal_here", "_law_some"] (spM K w zaw 2))
  (y5 : mg "_law_pick" = some (.ref y4)) (y6 : PySem.W.keepIn K (.ref y4) = true)
  (yq : Binds K yao ["_law_deal_here", "_law_some"] [])
  {yfd : Addr} {yg1 : FuncData} (yd4 : FnG P w K mg base Yn 3 yfd yg1 ["_law_deal_here", "_law_size"] (spM K w zcp 2))
  (yfe : mg "_law_titles" = some (.ref yfd)) (yff : PySem.W.keepIn K (.ref yfd) = true)
  (yd5 : Binds K yg1 ["_law_deal_here", "_law_size"] [])
  {yfg : Addr} {yg2 : FuncData} (yd6 : FnG P w K mg base Yn 3 yfg yg2 ["_law_deal_here", "_law_called", "_law_counters", "_law_most"] (spM K w zb8 4))
  (yfh : mg "_law_script" = some (.ref yfg)) (yfi : PySem.W.keepIn K (.ref yfg) = true)
  (yd7 : Binds K yg2 ["_law_deal_here", "_law_called", "_law_counters", "_law_most"] [])
  {ydb : Addr} {ye0 : FuncData} (yct : FnG P w K mg base Yn 1 ydb ye0 ["_law_deeds"] (spM K w zbr 1))
  (ydc : mg "_law_deed_texts" = some (.ref ydb)) (ydd : PySem.W.keepIn K (.ref ydb) = true)
  (ycu : Binds K ye0 ["_law_deeds"] [])
  {ygl : Addr} {yh9 : FuncData} (yft : FnG P w K mg base Yn 1 ygl yh9 ["_law_script_here", "_law_base"] (spM K w F_w_deal 2))
  (ygm : mg "_law_deal" = some (.ref ygl)) (ygn : PySem.W.keepIn K (.ref ygl) = true)
  (yfu : Binds K yh9 ["_law_script_here", "_law_base"] []) :
  FnG P w K mg base Yn 17 f fd ["_law_script_here"] (spM K w F_law 1) :=
 okM (k := 16) F yi2 fun cdv A outer s H E hr hgd => by
  have hN := yi2.nd
  have hu := hr.units
  exact zah (st_for (B := f_law_l2) PassesOwn.never rfl (ii_rng1 (by rfl) yaq (zaa (zcw (call_max2 rfl) ok_max2 (zaa (zag) (zaa (zcw (call_min2 rfl) ok_min2 (zaa (zag) (zaa (zcw call_len ok_len (zaa (zac 0) (zad)) yk) (zad))) yiv) (zad))) yiu) (zad))) (pg_name (i := 1) hN rfl Ys) (za8 1) (zah (za3 2 hN (zai (dts := []) (dvs := []) yft Yb hgd (by rfl) ygm ygn yfu .nil Yi zar (zaa (zac 0) Yav))) (zaq (st_for (B := f_law_l1) PassesOwn.never rfl (ii_rng1 (by rfl) yaq Ybm) (pg_name (i := 3) hN rfl Ys) (za8 3) (zah (za3 4 hN (zai (dts := []) (dvs := []) yct Yb hgd (by rfl) ydc ydd ycu .nil Yi zbg (zaa (zai (dts := []) (dvs := []) yd6 Yb hgd (by rfl) yfh yfi yd7 .nil Yi zar (zaa (zac 2) (zaa (zav Yek) (zaa (zav Y0) Ybm)))) (zad)))) (zah (za3 5 hN (za0 (zai (dts := []) (dvs := []) yd4 Yb hgd (by rfl) yfe yff yd5 .nil Yi zar (zaa (zac 2) Ybm)) (zag))) (zah (za3 6 hN (ie_lstL (zaa (zaf) (zaa (zaf) (zaa (zaf) (zaa (zaf) (zaa (zaf) (zaa (zaf) (zaa (zb2) (zaa (zag) (zaa (ie_bl) (zaa (ie_tup Y0) (zaa (zav Y0) (zaa (zaf) (zaa (zaf) Yek))))))))))))))) (zah (st_expr (ie_append (zac 6) Y0)) (is_fz 6 (zah (za3 7 hN (zai (dts := []) (dvs := []) yp Yb hgd (by rfl) y5 y6 yq .nil Yi zar (zaa (zac 2) (zaa (zac 6) (zad))))) (zah (st_if ((iw_or (it_notN (zai (dts := []) (dvs := []) yaa Yb hgd (by rfl) yaf yag yab .nil Yi zbg (zaa (zac 5) Ybh)) (zb2)) (iw_or1 (it_notN (zai (dts := []) (dvs := []) yaa Yb hgd (by rfl) yaf yag yab .nil Yi zbg (zaa (zac 5) (zaa (ie_bt call_tupS ok_tup Ybh yac) (zad)))) (zb2)))).it) Ycv (zcg)) (zah (st_if ((iw_or (it_ne hu (zai (dts := []) (dvs := []) yaa Yb hgd (by rfl) yaf yag yab .nil Yi zbg (zaa (zac 7) Ybh)) (zaf)) (iw_or1 (it_ne hu (zai (dts := []) (dvs := []) yaa Yb hgd (by rfl) yaf yag yab .nil Yi zbg (zaa (zac 7) Ycp)) (zaf)))).it) Ycv (zcg)) (zah (st_if (it_ne hu (zai (dts := []) (dvs := []) yaa Yb hgd (by rfl) yaf yag yab .nil Yi zbg (zaa (zac 5) Ycp)) (zaf)) Ycv (zcg)) (zah (st_if (it_ne hu (zai (dts := []) (dvs := []) yaa Yb hgd (by rfl) yaf yag yab .nil Yi zbg (zaa (zac 5) (zaa (ie_bt call_tupS ok_tup (zaa (zav (zaa (zai (dts := []) (dvs := []) ybg Yb hgd (by rfl) yc9 yda ycd .nil Yi (recN_len (fun _ => zar) _) (zaa (zac 2) Ybm)) Y0)) (zad)) yac) (zad)))) (zaf)) Ycv (zcg)) (zaq (st_if (it_notN (zai (dts := []) (dvs := []) yaa Yb hgd (by rfl) yaf yag yab .nil Yi zbg (zaa (zac 5) (zaa (za7 (ie_mulA (zav Y0) (zag)) (zav Y0)) (zad)))) (zb2)) Ycv (zcg))))))))))))))))) (zah (st_if (it_notN (zai (dts := []) (dvs := []) yaa Yb hgd (by rfl) yaf yag yab .nil Yi zbg (zaa (zaf) (zaa (zav Yek) (zad)))) (zb2)) Ycv (zcg)) (zaq (za2 (ie_eq hu (zai (dts := []) (dvs := []) yaa Yb hgd (by rfl) yaf yag yab .nil Yi zbg (zaa (zaf) (zaa (zav (zaa (zaf) Yek)) (zad)))) (zaf)))))
end
theorem all_mk : AllMk F_law := by
 intro l w K h mg fa KX G hfa y7 ya2 yfv yfw yfx yfy yfz yf0 yb9 yca yco ih it ia_Kind im_Kind ya yau yd9 yea yeb yec ycv yed yee yef y8 yeg yeh yei yej yek yel ybj ybk ya5 yak yav ybl yr yaw yax yem ybm ybn ybo ybp yen ybq yal yay yeo ybr ybs yep yeq ycw yer ycx yes ybt ybu ybv yet yeu yev ybw ybx yby ybz yar ya6 ya7 ya8 ya9 yba ybb ybc yi ym yas ya0 yj yn yat ya1 yt y9 ybd yb0 yu yx yy yz y0 y3 xsup xany xtop v_MOST_LETTERS w_MOST_LETTERS v_LETTERS w_LETTERS ycy o_BARRED us_BARRED ye6 w_BARRED lk_BARRED yce ycf oa_BARRED or_BARRED oz_BARRED yam o_WRITER_WORDS us_WRITER_WORDS yb1 w_WRITER_WORDS lk_WRITER_WORDS yah yai oa_WRITER_WORDS or_WRITER_WORDS oz_WRITER_WORDS yhr yhs yht ygo yf1 yhu ycp yhv yf2 yhw yhx yhy ad_w_deal yhb ycz ad_w_deed_texts ydt yan ad_w_draw yhc yc0 ad_w_mixed ygp ycg ad_w_pick yhd yc1 ad_w_put yh0 ydo ad_w_script yf4 yb2 ad_w_titles yf5 yb3 ad_is_name ygq ych ad_is_sequence yew yap ad_deed_in ygr yci ad_deeds_in yf6 yb4 ad_Kind_init yfo ya3 ad_w_heard ygs ycj ad_w_bent yhe yc2 ad_w_any yh1 ydp ad_law yiw ygt
 have e0 := hfa.symm.trans (PySem.W.mg_of KX G ygt.1)
 obtain rfl : fa = ad_law := by cases e0; rfl
 have ye1 : Cls K y7 := ⟨yfv, yfw, yfx, yfy⟩
 have yg0 : ClsF K mg "Kind" y7 := ⟨ya2, PySem.W.mg_of KX G ya2, ye1⟩
 have yd2 : ∀ c ∈ (["Kind"] : List Str), FldOk K c "deeds" := by
  intro c hc
  simp only [List.mem_cons, List.not_mem_nil, or_false] at hc
  subst hc
  ·exact ⟨_, ya2, ye1, yb9⟩
 have yd3 : ∀ c ∈ (["Kind"] : List Str), FldOk K c "steps" := by
  intro c hc
  simp only [List.mem_cons, List.not_mem_nil, or_false] at hc
  subst hc
  ·exact ⟨_, ya2, ye1, yca⟩
 have yfa : ∀ c ∈ (["Kind"] : List Str), FldOk K c "name" := by
  intro c hc
  simp only [List.mem_cons, List.not_mem_nil, or_false] at hc
  subst hc
  ·exact ⟨_, ya2, ye1, yco⟩
 have hT : IsTab K isTab := by
  refine ⟨fun t c b tv cv h ht hc => ?_, fun c d b C h n => ?_⟩
  ·unfold isTab at h
   split at h
   ·cases ht
    cases hc
    exact kit_ty h
   ·split at h
    ·rename_i a a2 e
     cases h
     obtain ⟨rfl, e⟩ := e
     obtain ⟨C1, rfl, n1⟩ := ht
     obtain ⟨C2, rfl, n2⟩ := hc
     cases n1.inj n2
     rcases e with rfl
     ·cases n1.inj ya2
      simp [PySem.W.kitOne]
    ·cases h
   ·cases h
  ·rcases d with d | d
   ·exact absurd h (by simp [isTab])
   ·simp only [isTab] at h
    split at h
    ·rename_i e
     obtain ⟨rfl, e⟩ := e
     rcases e with rfl
     ·cases n.inj ya2
      exact ⟨ye1, ia_Kind, ih, it, im_Kind⟩
    ·cases h
 have ye2 : OexC K ya := ⟨⟨_, _, _, _, _, _, _, _, _, _, _, _, _, _, _, ybj, ybk⟩, ya5, yak, yav, ybl⟩
 have ye3 : XIni l.prog K ya yr "InvalidKind.__init__" "word" (defArgs (inClass (topS 2) 0)) (defBody (inClass (topS 2) 0)) (defScope (inClass (topS 2) 0)) Yo := ⟨ye2, ⟨_, _, _, _, _, _, _, _, _, _, _, _, _, _, _, _, _, _, _, rfl, ybr, ybs, ybt, ybu, ybv, ybw⟩, yaw, yax, ybx, yby, ybz, xsup, xany, yar, xtop⟩
 have yb : ∀ base : Heap, XF l.prog w K mg base "InvalidKind" ya yr Yo ["self", "word"] "word" := fun base => ⟨ye2, yaw, yax, yau, xini_ok ye3 ⟨rfl, rfl, rfl, rfl, rfl, rfl, rfl, rfl, rfl, by decide +kernel, by decide, by decide⟩ (fun env => rfl), xini_hot ye3 ⟨rfl, rfl, rfl, rfl, rfl, rfl, rfl, rfl, rfl, by decide +kernel, by decide, by decide⟩ (fun env => rfl), PySem.W.mg_of KX G yau, .all fun us hl => match us, hl with | [_, _], _ => rfl, exm_self yak ya6 yav ya7⟩
 have y8 : XcF K ya := ⟨ya8, ya9, yak, yba, ybb, ih, it, ybc⟩
 have ya4 := yar
 have ycb := PySem.W.mg_of KX G ym
 have ycc := PySem.W.mg_of KX G yn
 have yc7 := PySem.W.mg_of KX G y9
 have yad := kt_ofb yas ya0 yu (ne_ofb yx)
 have yae := kt_ofb yat ya1 yy (ne_ofb yz)
 have yaj := kt_ofb ybd yb0 y0 (ne_ofb y3)
 have yc3 := PySem.W.mg_of KX G w_MOST_LETTERS
 have yfp := PySem.W.mg_of KX G w_LETTERS
 have ygj := PySem.W.mg_of KX G w_BARRED
 have yc6 := PySem.W.mg_of KX G w_WRITER_WORDS
 have ycq := PySem.W.mg_none_of KX G yhr
 have yhz := PySem.W.mg_none_of KX G yhs
 have yk := PySem.W.mg_none_of KX G yht
 have ycr := PySem.W.mg_none_of KX G ygo
 have yaq := PySem.W.mg_none_of KX G yf1
 have yir := PySem.W.mg_none_of KX G yhu
 have yh := PySem.W.mg_none_of KX G ycp
 have yf3 := PySem.W.mg_none_of KX G yhv
 have yac := PySem.W.mg_none_of KX G yf2
 have yis := PySem.W.mg_none_of KX G yhw
 have yiu := PySem.W.mg_none_of KX G yhx
 have yiv := PySem.W.mg_none_of KX G yhy
 have ygm := PySem.W.mg_of KX G ycz.1
 have ygn := ycz.2.kp
 have yia := ycz.2
 have ydc := PySem.W.mg_of KX G yan.1
 have ydd := yan.2.kp
 have ye4 := yan.2
 have yf := PySem.W.mg_of KX G yc0.1
 have yg := yc0.2.kp
 have yib := yc0.2
 have yck := PySem.W.mg_of KX G ycg.1
 have ycl := ycg.2.kp
 have yhl := ycg.2
 have y5 := PySem.W.mg_of KX G yc1.1
 have y6 := yc1.2.kp
 have yic := yc1.2
 have yg8 := PySem.W.mg_of KX G ydo.1
 have yg9 := ydo.2.kp
 have yik := ydo.2
 have yfh := PySem.W.mg_of KX G yb2.1
 have yfi := yb2.2.kp
 have yg3 := yb2.2
 have yfe := PySem.W.mg_of KX G yb3.1
 have yff := yb3.2.kp
 have yg4 := yb3.2
 have ycm := PySem.W.mg_of KX G ych.1
 have ycn := ych.2.kp
 have yhm := ych.2
 have ydi := PySem.W.mg_of KX G yap.1
 have ydj := yap.2.kp
 have yfk := yap.2
 have ydv := PySem.W.mg_of KX G yci.1
 have ydw := yci.2.kp
 have yhn := yci.2
 have ye8 := PySem.W.mg_of KX G yb4.1
 have ye9 := yb4.2.kp
 have yg5 := yb4.2
 have yh6 : Mk K y7 ad_Kind_init := ⟨yfz, ya3.1, ya3.2.1, yf0⟩
 have ygc := ya3.2.2
 have yaf := PySem.W.mg_of KX G ycj.1
 have yag := ycj.2.kp
 have yho := ycj.2
 have yfb := PySem.W.mg_of KX G yc2.1
 have yfc := yc2.2.kp
 have yid := yc2.2
 have yc9 := PySem.W.mg_of KX G ydp.1
 have yda := ydp.2.kp
 have yil := ydp.2
 have yi6 := ygt.2
 have yd := yib.bindsN (ps := ["_law_deal_here", "_law_wide"]) fun _ _ _ _ _ _ us hl => match us, hl with | [_, _], _ => rfl
 have ygi := yik.bindsN (ps := ["_law_deal_here", "_law_deeds", "_law_more"]) fun _ _ _ _ _ _ us hl => match us, hl with | [_, _, _], _ => rfl
 have yq := yic.bindsN (ps := ["_law_deal_here", "_law_some"]) fun _ _ _ _ _ _ us hl => match us, hl with | [_, _], _ => rfl
 have yb6 := yhl.bindsN (ps := ["_law_deal_here", "_law_some"]) fun _ _ _ _ _ _ us hl => match us, hl with | [_, _], _ => rfl
 have yb8 := yhm.bindsN (ps := ["value"]) fun _ _ _ _ _ _ us hl => match us, hl with | [_], _ => rfl
 have ydn := yhn.bindsN (ps := ["value", "words"]) fun _ _ _ _ _ _ us hl => match us, hl with | [_, _], _ => rfl
 have yc5 := yfk.bindsN (ps := ["value"]) fun _ _ _ _ _ _ us hl => match us, hl with | [_], _ => rfl
 have yd1 := yg5.bindsN (ps := ["value", "words"]) fun _ _ _ _ _ _ us hl => match us, hl with | [_, _], _ => rfl
 have ydr := ygc.bindsN (ps := ["self", "name", "steps"]) fun _ _ _ _ _ _ us hl => match us, hl with | [_, _, _], _ => rfl
 have ycd := yil.bindsN (ps := ["_law_deal_here", "_law_deep"]) fun _ _ _ _ _ _ us hl => match us, hl with | [_, _], _ => rfl
 have yab := yho.bindsN (ps := ["_law_title", "_law_steps"]) fun _ _ _ _ _ _ us hl => match us, hl with | [_, _], _ => rfl
 have ydy := yid.bindsN (ps := ["_law_deal_here", "_law_steps"]) fun _ _ _ _ _ _ us hl => match us, hl with | [_, _], _ => rfl
 have yd5 := yg4.bindsN (ps := ["_law_deal_here", "_law_size"]) fun _ _ _ _ _ _ us hl => match us, hl with | [_, _], _ => rfl
 have yd7 := yg3.bindsN (ps := ["_law_deal_here", "_law_called", "_law_counters", "_law_most"]) fun _ _ _ _ _ _ us hl => match us, hl with | [_, _, _, _], _ => rfl
 have ycu := ye4.bindsN (ps := ["_law_deeds"]) fun _ _ _ _ _ _ us hl => match us, hl with | [_], _ => rfl
 have yfu := yia.bindsN (ps := ["_law_script_here", "_law_base"]) fun _ _ _ _ _ _ us hl => match us, hl with | [_, _], _ => rfl
 have yft := fun base : Heap => yin (P := l.prog) (w := w) (mg := mg) (base := base) yia ycq yhz
 have yct := fun base : Heap => ygg (P := l.prog) (w := w) (mg := mg) (base := base) ye4
 have yc := fun base : Heap => yio (P := l.prog) (w := w) (mg := mg) (base := base) yib ycq
 have yb5 := fun base : Heap => yie (P := l.prog) (w := w) (mg := mg) (base := base) yhl yk ycr (yc base) yf yg yd
 have yp := fun base : Heap => yip (P := l.prog) (w := w) (mg := mg) (base := base) yic yk (yc base) yf yg yd
 have ygh := fun base : Heap => yiy (P := l.prog) (w := w) (mg := mg) (base := base) yik yk ycr (yc base) yf yg yd
 have yd6 := fun base : Heap => yh3 (P := l.prog) (w := w) (mg := mg) (base := base) yg3 yk yaq (ygh base) yg8 yg9 ygi (yc base) yf yg yd (yp base) y5 y6 yq (yb5 base) yck ycl yb6
 have yd4 := fun base : Heap => yh4 (P := l.prog) (w := w) (mg := mg) (base := base) yg4 (yb5 base) yck ycl yb6
 have yb7 := fun base : Heap => yif (P := l.prog) (w := w) (mg := mg) (base := base) yhm yir yh yf3 yk yc3 yfp hT ygj lk_BARRED yce ycf oa_BARRED or_BARRED oz_BARRED
 have yc4 := fun base : Heap => ygw (P := l.prog) (w := w) (mg := mg) (base := base) yfk yh yac ycr hT
 have ydm := fun base : Heap => yig (P := l.prog) (w := w) (mg := mg) (base := base) yhn yk yh yf3 (yb7 base) ycm ycn yb8 hT
 have yd0 := fun base : Heap => yh5 (P := l.prog) (w := w) (mg := mg) (base := base) yg5 yk yis yac (ydm base) ydv ydw ydn (yc4 base) ydi ydj yc5
 have ydq := fun base : Heap => yhq (P := l.prog) (w := w) (mg := mg) (base := base) ygc yac yk (yd0 base) ye8 ye9 yd1 (yb7 base) ycm ycn yb8 yd2 yd3 yfa (yb base) yc6 lk_WRITER_WORDS yah yai oa_WRITER_WORDS or_WRITER_WORDS oz_WRITER_WORDS
 have yaa := fun base : Heap => yii (P := l.prog) (w := w) (mg := mg) (base := base) yho yh yg0 (ydq base) yh6 (yb base) y8 ym ycb yad yn ycc yae y9 yc7 yaj ya4 ydr
 have ydx := fun base : Heap => yit (P := l.prog) (w := w) (mg := mg) (base := base) yid yk (yp base) y5 y6 yq (yc base) yf yg yd
 have ybg := fun base : Heap => fnG_rec (P := l.prog) (w := w) (mg := mg) (base := base) (S := S_w_any) (L := 4) (m := 2) (ps := ["_law_deal_here", "_law_deep"]) (fun _ => zar) (fun G r hG ybg => yi1 yil hG yac yaq (yp base) y5 y6 yq (yc base) yf yg yd ybg yc9 yda ycd) rfl 12
 exact ⟨_, fun s v => yi6.bindsA (ps := ["_law_script_here"]) (fun _ _ _ _ _ _ us hl => match us, hl with | [_], _ => rfl) s [v] rfl, fun base _ _ => yi8 yi6 yaq yiu yiv yk yac (yaa base) yaf yag yab (ybg base) yc9 yda ycd (ydx base) yfb yfc ydy (yp base) y5 y6 yq (yd4 base) yfe yff yd5 (yd6 base) yfh yfi yd7 (yct base) ydc ydd ycu (yft base) ygm ygn yfu⟩
end D
theorem PySem.Challenge.cw_untorn_k03_kinds_refused_holds : PySem.Challenge.rw_untorn_k03_kinds_refused.Holds :=
 D.early D.all_mk fun h => D.law_is h
