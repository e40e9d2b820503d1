/- NumberWrong: the run in two parts. No condition. -/
import Derived.Test.YthbfgbfgkkhoiaaDoorMemo
import Derived.KernelRfl
set_option maxRecDepth 100000
namespace Go.Proofs.YthbfgbfgkkhoiaaDoor
open Go Go.Ax
noncomputable def nwSpec : List (List (K × List AV)) := [[((.xo (.xo (.xi (.xo .xh)))), [.int .u8 (.ofNat 0), .int .u8 (.ofNat 1), .int .u8 (.ofNat 28), .int .u8 (.ofNat 2), .int .u8 (.ofNat 29), .int .u8 (.ofNat 14), .int .u8 (.ofNat 24), .int .u8 (.ofNat 3), .int .u8 (.ofNat 30), .int .u8 (.ofNat 22), .int .u8 (.ofNat 20), .int .u8 (.ofNat 15), .int .u8 (.ofNat 25), .int .u8 (.ofNat 17), .int .u8 (.ofNat 4), .int .u8 (.ofNat 8), .int .u8 (.ofNat 31), .int .u8 (.ofNat 27), .int .u8 (.ofNat 13), .int .u8 (.ofNat 23), .int .u8 (.ofNat 21), .int .u8 (.ofNat 19), .int .u8 (.ofNat 16), .int .u8 (.ofNat 7), .int .u8 (.ofNat 26), .int .u8 (.ofNat 12), .int .u8 (.ofNat 18), .int .u8 (.ofNat 6), .int .u8 (.ofNat 11), .int .u8 (.ofNat 5), .int .u8 (.ofNat 10), .int .u8 (.ofNat 9)])],
 [((.xi (.xo (.xi (.xo .xh)))), [.int .u8 (.ofNat 0), .int .u8 (.ofNat 1), .int .u8 (.ofNat 56), .int .u8 (.ofNat 2), .int .u8 (.ofNat 57), .int .u8 (.ofNat 49), .int .u8 (.ofNat 28), .int .u8 (.ofNat 3), .int .u8 (.ofNat 61), .int .u8 (.ofNat 58), .int .u8 (.ofNat 42), .int .u8 (.ofNat 50), .int .u8 (.ofNat 38), .int .u8 (.ofNat 29), .int .u8 (.ofNat 17), .int .u8 (.ofNat 4), .int .u8 (.ofNat 62), .int .u8 (.ofNat 47), .int .u8 (.ofNat 59), .int .u8 (.ofNat 36), .int .u8 (.ofNat 45), .int .u8 (.ofNat 43), .int .u8 (.ofNat 51), .int .u8 (.ofNat 22), .int .u8 (.ofNat 53), .int .u8 (.ofNat 39), .int .u8 (.ofNat 33), .int .u8 (.ofNat 30), .int .u8 (.ofNat 24), .int .u8 (.ofNat 18), .int .u8 (.ofNat 12), .int .u8 (.ofNat 5), .int .u8 (.ofNat 63), .int .u8 (.ofNat 55), .int .u8 (.ofNat 48), .int .u8 (.ofNat 27), .int .u8 (.ofNat 60), .int .u8 (.ofNat 41), .int .u8 (.ofNat 37), .int .u8 (.ofNat 16), .int .u8 (.ofNat 46), .int .u8 (.ofNat 35), .int .u8 (.ofNat 44), .int .u8 (.ofNat 21), .int .u8 (.ofNat 52), .int .u8 (.ofNat 32), .int .u8 (.ofNat 23), .int .u8 (.ofNat 11), .int .u8 (.ofNat 54), .int .u8 (.ofNat 26), .int .u8 (.ofNat 40), .int .u8 (.ofNat 15), .int .u8 (.ofNat 34), .int .u8 (.ofNat 20), .int .u8 (.ofNat 31), .int .u8 (.ofNat 10), .int .u8 (.ofNat 25), .int .u8 (.ofNat 14), .int .u8 (.ofNat 19), .int .u8 (.ofNat 9), .int .u8 (.ofNat 13), .int .u8 (.ofNat 8), .int .u8 (.ofNat 7), .int .u8 (.ofNat 6)])],
 [((.xi (.xi (.xo (.xo .xh)))), [.int .u64 (.ofNat 1), .int .u64 (.ofNat 10), .int .u64 (.ofNat 100), .int .u64 (.ofNat 1000), .int .u64 (.ofNat 10000), .int .u64 (.ofNat 100000), .int .u64 (.ofNat 1000000), .int .u64 (.ofNat 10000000), .int .u64 (.ofNat 100000000), .int .u64 (.ofNat 1000000000), .int .u64 (.ofNat 10000000000), .int .u64 (.ofNat 100000000000), .int .u64 (.ofNat 1000000000000), .int .u64 (.ofNat 10000000000000), .int .u64 (.ofNat 100000000000000), .int .u64 (.ofNat 1000000000000000), .int .u64 (.ofNat 10000000000000000), .int .u64 (.ofNat 100000000000000000), .int .u64 (.ofNat 1000000000000000000), .int .u64 (.ofNat 10000000000000000000)])],
 [],
 [((.xo (.xi (.xo (.xo .xh)))), [.iface 152 (.ptr (.xo (.xi (.xo (.xo (.xi (.xo .xh)))))) 0)]), ((.xo (.xi (.xo (.xo (.xi (.xo .xh)))))), [.str 18 8833536683947734889501819473892098087608694])],
 [((.xi (.xo (.xo (.xo .xh)))), [.iface 152 (.ptr (.xi (.xo (.xo (.xo (.xi (.xo .xh)))))) 0)]), ((.xi (.xo (.xo (.xo (.xi (.xo .xh)))))), [.str 14 2441610318018593579359549976374889])],
 [((.xo .xh), [.iface 152 (.ptr (.xo (.xi (.xo (.xo (.xo (.xo .xh)))))) 0)]), ((.xo (.xi (.xo (.xo (.xo (.xo .xh)))))), [.str 20 630251504693759865197464742840542735801588674414])],
 [((.xo (.xo .xh)), [.iface 152 (.ptr (.xo (.xo (.xi (.xo (.xo (.xo .xh)))))) 0)]), ((.xo (.xo (.xi (.xo (.xo (.xo .xh)))))), [.str 23 11029580747401839664607533655162671531090321048802828385])],
 [((.xi (.xo .xh)), [.iface 152 (.ptr (.xi (.xo (.xi (.xo (.xo (.xo .xh)))))) 0)]), ((.xi (.xo (.xi (.xo (.xo (.xo .xh)))))), [.str 12 31378167700108745941797707873])],
 [((.xo (.xi .xh)), [.iface 152 (.ptr (.xo (.xi (.xi (.xo (.xo (.xo .xh)))))) 0)]), ((.xo (.xi (.xi (.xo (.xo (.xo .xh)))))), [.str 22 39081110054842087056465348209563518901896248585188467])],
 [((.xi (.xi .xh)), [.iface 152 (.ptr (.xi (.xi (.xi (.xo (.xo (.xo .xh)))))) 0)]), ((.xi (.xi (.xi (.xo (.xo (.xo .xh)))))), [.str 25 636523400291050302259756776451038897057077032394821863350369])],
 [(.xh, [.iface 152 (.ptr (.xi (.xo (.xo (.xo (.xo (.xo .xh)))))) 0)]), ((.xi (.xo (.xo (.xo (.xo (.xo .xh)))))), [.str 16 134761531320279869369215670744228458349])],
 [((.xo (.xo (.xo .xh))), [.iface 152 (.ptr (.xo (.xo (.xo (.xi (.xo (.xo .xh)))))) 0)]), ((.xo (.xo (.xo (.xi (.xo (.xo .xh)))))), [.str 19 2260923306255919057704942796559362103631373676])],
 [((.xi (.xo (.xo .xh))), [.iface 152 (.ptr (.xi (.xo (.xo (.xi (.xo (.xo .xh)))))) 0)]), ((.xi (.xo (.xo (.xi (.xo (.xo .xh)))))), [.str 11 133507856640046973754568558])],
 [((.xo (.xi (.xo .xh))), [.iface 152 (.ptr (.xo (.xi (.xo (.xi (.xo (.xo .xh)))))) 0)]), ((.xo (.xi (.xo (.xi (.xo (.xo .xh)))))), [.str 36 235885951210792384291488398921177884323525129781249263028078644373427333740447400861793])],
 [((.xi (.xi (.xo .xh))), [.iface 152 (.ptr (.xi (.xi (.xo (.xi (.xo (.xo .xh)))))) 0)]), ((.xi (.xi (.xo (.xi (.xo (.xo .xh)))))), [.str 16 145480032821193525618847153256867852142])],
 [((.xo (.xo (.xi .xh))), [.iface 152 (.ptr (.xo (.xo (.xi (.xi (.xo (.xo .xh)))))) 0)]), ((.xo (.xo (.xi (.xi (.xo (.xo .xh)))))), [.str 20 573360968418931551997286786515045871801104365922])],
 [((.xi (.xo (.xi .xh))), [.iface 152 (.ptr (.xi (.xo (.xi (.xi (.xo (.xo .xh)))))) 0)]), ((.xi (.xo (.xi (.xi (.xo (.xo .xh)))))), [.str 21 148171870208251185128854245037280731240830076395617])],
 [((.xo (.xi (.xi .xh))), [.iface 152 (.ptr (.xo (.xi (.xi (.xi (.xo (.xo .xh)))))) 0)]), ((.xo (.xi (.xi (.xi (.xo (.xo .xh)))))), [.str 22 37931998889868115345927926908070811904916573450825581])],
 []]
noncomputable def nwH : AH := ⟨specH nwSpec.flatten, (.xo (.xo (.xo (.xo (.xo (.xo (.xo .xh)))))))⟩
noncomputable def nwP : FC := (fB (oMov (.xi .xh) (cO (.bool false))) (fB (oS (oC (some (.xi (.xo (.xi .xh)))) (.xi (.xo (.xi .xh))) []) (oMov (.xo (.xo .xh)) (tO (.xi (.xo (.xi .xh)))))) (fS (fB (oS (oMov (.xo (.xi (.xi .xh))) (tO (.xo (.xo .xh)))) (o1 (.xi (.xi (.xi .xh))) f1Not (tO (.xo (.xi (.xi .xh)))))) (fI (tO (.xi (.xi (.xi .xh)))) (fB (oMov (.xi .xh) (cO (.bool false))) fT) fN)) (fB (oS (oA (some (.xo (.xo (.xo (.xo .xh))))) (.buildSlice 1 17 [(.str 0 0), (.str 0 0), (.str 0 0), (.str 0 0), (.str 0 0), (.str 0 0), (.str 0 0), (.str 0 0), (.str 0 0), (.str 0 0), (.str 0 0), (.str 0 0), (.str 0 0), (.str 0 0), (.str 0 0), (.str 0 0), (.str 0 0)] [(0, 1), (1, 1), (2, 1), (3, 1), (4, 1), (5, 1), (6, 1), (7, 1), (8, 1), (9, 1), (10, 1), (11, 1), (12, 1), (13, 1), (14, 1), (15, 1), (16, 1)]) [(cO (.str 0 0)), (cO (.str 1 45)), (cO (.str 1 46)), (cO (.str 2 11825)), (cO (.str 2 13614)), (cO (.str 7 15540725856023089)), (cO (.str 9 1018477009700329172529)), (cO (.str 2 8241)), (cO (.str 2 12576)), (cO (.str 2 12587)), (cO (.str 3 3222829)), (cO (.str 2 11569)), (cO (.str 5 228408503857)), (cO (.str 3 3242032)), (cO (.str 3 3499313)), (cO (.str 3 3485229)), (cO (.str 3 3484721))]) (oMov (.xi (.xo .xh)) (tO (.xo (.xo (.xo (.xo .xh))))))) (fB (oS (oMov (.xi (.xo (.xo (.xo .xh)))) (tO .xh)) (oS (oMov (.xo (.xi (.xo (.xo .xh)))) (tO (.xi (.xo .xh)))) (oS (oN (some (.xi (.xi (.xo (.xo .xh))))) (evalP .lenSl) [(tO (.xo (.xi (.xo (.xo .xh)))))]) (oS (o2 (.xo (.xo (.xi (.xo .xh)))) (f2I gRem) (tO (.xi (.xo (.xo (.xo .xh))))) (tO (.xi (.xi (.xo (.xo .xh)))))) (oS (oMov (.xi (.xo (.xi (.xo .xh)))) (tO (.xi (.xo .xh)))) (oS (oN (some (.xo (.xi (.xi (.xo .xh))))) (evalP .lenSl) [(tO (.xi (.xo (.xi (.xo .xh)))))]) (oS (o2 (.xi (.xi (.xi (.xo .xh)))) (f2I gAdd) (tO (.xo (.xo (.xi (.xo .xh))))) (tO (.xo (.xi (.xi (.xo .xh)))))) (oS (oMov (.xo (.xo (.xo (.xi .xh)))) (tO (.xi (.xo .xh)))) (oS (oN (some (.xi (.xo (.xo (.xi .xh))))) (evalP .lenSl) [(tO (.xo (.xo (.xo (.xi .xh)))))]) (oS (o2 (.xo (.xi (.xo (.xi .xh)))) (f2I gRem) (tO (.xi (.xi (.xi (.xo .xh))))) (tO (.xi (.xo (.xo (.xi .xh)))))) (oMov (.xo (.xi .xh)) (tO (.xo (.xi (.xo (.xi .xh)))))))))))))))) fN)))))
noncomputable def nwR : FC := (fB (oS (oMov (.xo (.xo (.xi (.xi .xh)))) (tO (.xi (.xo .xh)))) (oS (oMov (.xi (.xo (.xi (.xi .xh)))) (tO (.xo (.xi .xh)))) (oS (oN (some (.xo (.xi (.xi (.xi .xh))))) (evalP (.idxAddrSl 1)) [(tO (.xo (.xo (.xi (.xi .xh))))), (tO (.xi (.xo (.xi (.xi .xh)))))]) (oS (oL (.xi (.xi (.xi (.xi .xh)))) f1Load (tO (.xo (.xi (.xi (.xi .xh)))))) (oS (oC (some (.xo (.xo (.xo (.xo (.xo .xh)))))) (.xo (.xi (.xi .xh))) [(tO (.xi (.xi (.xi (.xi .xh)))))]) (oS (oMov (.xi (.xi (.xo (.xi .xh)))) (tO (.xo (.xo (.xo (.xo (.xo .xh))))))) (oS (oN (some (.xi (.xo (.xo (.xo (.xo .xh)))))) (evalP (.extract 0)) [(tO (.xi (.xi (.xo (.xi .xh)))))]) (oS (oN (some (.xo (.xi (.xo (.xo (.xo .xh)))))) (evalP (.extract 1)) [(tO (.xi (.xi (.xo (.xi .xh)))))]) (oS (oMov (.xi (.xi .xh)) (tO (.xi (.xo (.xo (.xo (.xo .xh))))))) (oMov (.xo (.xo (.xo .xh))) (tO (.xo (.xi (.xo (.xo (.xo .xh)))))))))))))))) (fB (oS (oMov (.xo (.xo (.xi (.xo (.xo .xh))))) (tO (.xi (.xo .xh)))) (oS (oMov (.xi (.xo (.xi (.xo (.xo .xh))))) (tO (.xo (.xi .xh)))) (oS (oN (some (.xo (.xi (.xi (.xo (.xo .xh)))))) (evalP (.idxAddrSl 1)) [(tO (.xo (.xo (.xi (.xo (.xo .xh)))))), (tO (.xi (.xo (.xi (.xo (.xo .xh))))))]) (oS (oL (.xi (.xi (.xi (.xo (.xo .xh))))) f1Load (tO (.xo (.xi (.xi (.xo (.xo .xh))))))) (oS (oC (some (.xo (.xo (.xo (.xi (.xo .xh)))))) (.xi (.xi (.xi .xh))) [(tO (.xi (.xi (.xi (.xo (.xo .xh))))))]) (oS (oMov (.xi (.xi (.xo (.xo (.xo .xh))))) (tO (.xo (.xo (.xo (.xi (.xo .xh))))))) (oS (oN (some (.xi (.xo (.xo (.xi (.xo .xh)))))) (evalP (.extract 0)) [(tO (.xi (.xi (.xo (.xo (.xo .xh))))))]) (oS (oN (some (.xo (.xi (.xo (.xi (.xo .xh)))))) (evalP (.extract 1)) [(tO (.xi (.xi (.xo (.xo (.xo .xh))))))]) (oS (oMov (.xi (.xo (.xo .xh))) (tO (.xi (.xo (.xo (.xi (.xo .xh))))))) (oMov (.xo (.xi (.xo .xh))) (tO (.xo (.xi (.xo (.xi (.xo .xh)))))))))))))))) (fB (oS (oC (some (.xo (.xo (.xi (.xi (.xo .xh)))))) (.xi (.xi (.xi .xh))) [(cO (.str 2 12589))]) (oS (oMov (.xi (.xi (.xo (.xi (.xo .xh))))) (tO (.xo (.xo (.xi (.xi (.xo .xh))))))) (oS (oN (some (.xi (.xo (.xi (.xi (.xo .xh)))))) (evalP (.extract 0)) [(tO (.xi (.xi (.xo (.xi (.xo .xh))))))]) (oS (oN (some (.xo (.xi (.xi (.xi (.xo .xh)))))) (evalP (.extract 1)) [(tO (.xi (.xi (.xo (.xi (.xo .xh))))))]) (oS (oMov (.xi (.xi (.xo .xh))) (tO (.xi (.xo (.xi (.xi (.xo .xh))))))) (oMov (.xo (.xo (.xi .xh))) (tO (.xo (.xi (.xi (.xi (.xo .xh)))))))))))) (fB (oS (oMov (.xi (.xi (.xi (.xi (.xo .xh))))) (tO (.xo (.xo .xh)))) (oS (oMov (.xo (.xo (.xo (.xo (.xi .xh))))) (tO (.xi (.xi (.xi (.xi (.xo .xh))))))) (oS (oG (.xo (.xo (.xo (.xo (.xi .xh))))) true (some (.xi (.xo (.xo (.xo (.xi .xh)))))) (oMov (.xi (.xo (.xo (.xo (.xi .xh))))) (tO (.xi (.xi .xh))))) (oS (oG (.xo (.xo (.xo (.xo (.xi .xh))))) true (some (.xo (.xi (.xo (.xo (.xi .xh)))))) (o2 (.xo (.xi (.xo (.xo (.xi .xh))))) (f2I gEql) (tO (.xi (.xo (.xo (.xo (.xi .xh)))))) (cO (.int .i64 (.ofNat 0))))) (oS (o3 (.xi (.xi (.xo (.xo (.xi .xh))))) f3Pick (tO (.xo (.xo (.xo (.xo (.xi .xh)))))) (tO (.xo (.xi (.xo (.xo (.xi .xh)))))) (cO (.bool false))) (oS (oMov (.xo (.xo (.xi (.xo (.xi .xh))))) (tO (.xi (.xi (.xo (.xo (.xi .xh))))))) (oS (oG (.xo (.xo (.xi (.xo (.xi .xh))))) true (some (.xi (.xo (.xi (.xo (.xi .xh)))))) (oMov (.xi (.xo (.xi (.xo (.xi .xh))))) (tO (.xo (.xo (.xo .xh)))))) (oS (oG (.xo (.xo (.xi (.xo (.xi .xh))))) true (some (.xo (.xi (.xi (.xo (.xi .xh)))))) (oC (some (.xo (.xi (.xi (.xo (.xi .xh)))))) (.xo (.xo (.xo (.xo .xh)))) [(tO (.xi (.xo (.xi (.xo (.xi .xh)))))), (cO (.int .i64 (.ofNat 101)))])) (oS (o3 (.xi (.xi (.xi (.xo (.xi .xh))))) f3Pick (tO (.xo (.xo (.xi (.xo (.xi .xh)))))) (tO (.xo (.xi (.xi (.xo (.xi .xh)))))) (cO (.bool false))) (oS (oMov (.xo (.xo (.xo (.xi (.xi .xh))))) (tO (.xi (.xi (.xi (.xo (.xi .xh))))))) (oS (oG (.xo (.xo (.xo (.xi (.xi .xh))))) true (some (.xi (.xo (.xo (.xi (.xi .xh)))))) (oMov (.xi (.xo (.xo (.xi (.xi .xh))))) (tO (.xo (.xi (.xo .xh)))))) (oS (oG (.xo (.xo (.xo (.xi (.xi .xh))))) true (some (.xo (.xi (.xo (.xi (.xi .xh)))))) (o1 (.xo (.xi (.xo (.xi (.xi .xh))))) f1Not (tO (.xi (.xo (.xo (.xi (.xi .xh)))))))) (oS (o3 (.xi (.xi (.xo (.xi (.xi .xh))))) f3Pick (tO (.xo (.xo (.xo (.xi (.xi .xh)))))) (tO (.xo (.xi (.xo (.xi (.xi .xh)))))) (cO (.bool false))) (oS (oMov (.xo (.xo (.xi (.xi (.xi .xh))))) (tO (.xi (.xi (.xo (.xi (.xi .xh))))))) (oS (oG (.xo (.xo (.xi (.xi (.xi .xh))))) true (some (.xi (.xo (.xi (.xi (.xi .xh)))))) (oMov (.xi (.xo (.xi (.xi (.xi .xh))))) (tO (.xo (.xo (.xi .xh)))))) (oS (oG (.xo (.xo (.xi (.xi (.xi .xh))))) true (some (.xo (.xi (.xi (.xi (.xi .xh)))))) (o1 (.xo (.xi (.xi (.xi (.xi .xh))))) f1Not (tO (.xi (.xo (.xi (.xi (.xi .xh)))))))) (oS (o3 (.xi (.xi (.xi (.xi (.xi .xh))))) f3Pick (tO (.xo (.xo (.xi (.xi (.xi .xh)))))) (tO (.xo (.xi (.xi (.xi (.xi .xh)))))) (cO (.bool false))) (oMov (.xi .xh) (tO (.xi (.xi (.xi (.xi (.xi .xh)))))))))))))))))))))))) fT))))
theorem nw_split : Split fc5 nwP nwR := by
  unfold fc5 nwP
  repeat' (with_reducible (first | exact Par.oMov _ _ | exact Par.o1 _ _ _ | exact Par.o2 _ _ _ _ | exact Par.o3 _ _ _ _ _ | exact Par.oN _ _ _ | exact Par.oL _ _ _ | exact Par.oR _ _ _ | exact Par.oA _ _ _ | exact Par.oW _ _ _ | exact Par.oC _ _ _ | exact Par.oV _ _ | exact Par.oBad | exact Par.oE | apply Par.oG | apply Par.oS | apply Split.fB | apply Split.fS))
  exact Split.base nwR
noncomputable def nw0 (w : Int) : FR := nwP cf1 (Tr.setFrom 0 [.int .i64 w] .lf) nwH
noncomputable def nwG (w : Int) (k : Nat) : Bool := okR ((nwR cf1 ((nw0 w).env.set (.xo (.xi .xh)) (.int .i64 (.ofNat k))) (nw0 w).hp).results rc5)
theorem nw_n (w : Int) : (nw0 w).isN = true := by kernel_rfl
theorem nw_k (w : Int) : (nw0 w).env.get (.xo (.xi .xh)) = some (.int .i64 (modF 17 w)) := by kernel_rfl
theorem nw_call (w : Int) : callF tab1 61 (.xo (.xi .xh)) [.int .i64 w] nwH = (fc5 cf1 (Tr.setFrom 0 [.int .i64 w] .lf) nwH).results rc5 := by kernel_rfl
theorem nw_0 (w : Int) : nwG w 0 = true := by kernel_rfl
theorem nw_1 (w : Int) : nwG w 1 = true := by kernel_rfl
theorem nw_2 (w : Int) : nwG w 2 = true := by kernel_rfl
theorem nw_3 (w : Int) : nwG w 3 = true := by kernel_rfl
theorem nw_4 (w : Int) : nwG w 4 = true := by kernel_rfl
theorem nw_5 (w : Int) : nwG w 5 = true := by kernel_rfl
theorem nw_6 (w : Int) : nwG w 6 = true := by kernel_rfl
theorem nw_7 (w : Int) : nwG w 7 = true := by kernel_rfl
theorem nw_8 (w : Int) : nwG w 8 = true := by kernel_rfl
theorem nw_9 (w : Int) : nwG w 9 = true := by kernel_rfl
theorem nw_10 (w : Int) : nwG w 10 = true := by kernel_rfl
theorem nw_11 (w : Int) : nwG w 11 = true := by kernel_rfl
theorem nw_12 (w : Int) : nwG w 12 = true := by kernel_rfl
theorem nw_13 (w : Int) : nwG w 13 = true := by kernel_rfl
theorem nw_14 (w : Int) : nwG w 14 = true := by kernel_rfl
theorem nw_15 (w : Int) : nwG w 15 = true := by kernel_rfl
theorem nw_16 (w : Int) : nwG w 16 = true := by kernel_rfl
theorem nw_all (w : Int) : ∀ k, k < 17 → nwG w k = true := by
  intro k hk
  match k, hk with
  | 0, _ => exact nw_0 w
  | 1, _ => exact nw_1 w
  | 2, _ => exact nw_2 w
  | 3, _ => exact nw_3 w
  | 4, _ => exact nw_4 w
  | 5, _ => exact nw_5 w
  | 6, _ => exact nw_6 w
  | 7, _ => exact nw_7 w
  | 8, _ => exact nw_8 w
  | 9, _ => exact nw_9 w
  | 10, _ => exact nw_10 w
  | 11, _ => exact nw_11 w
  | 12, _ => exact nw_12 w
  | 13, _ => exact nw_13 w
  | 14, _ => exact nw_14 w
  | 15, _ => exact nw_15 w
  | 16, _ => exact nw_16 w
  | k + 17, h => exact absurd h (by omega)
theorem nw_run (w : Int) : ∃ H', callF tab1 61 (.xo (.xi .xh)) [.int .i64 w] nwH = some (.bool true, H') := by
  obtain ⟨k, hk, ek⟩ := modF_of 17 (by decide) (by decide) w
  apply okR_some
  rw [nw_call, nw_split.cut (nw_n w) (nw_k w) (congrArg (AV.int .i64) ek)]
  exact nw_all w k hk
end Go.Proofs.YthbfgbfgkkhoiaaDoor
