import PyProof.Rows.All
import Wide.All
import OpenK.AllK
import Wide.FinOn
import HandS.ForMost
import HandS.Walk
import HandS.SortKw
import HandS.Deep
import HandS.IsInst
import HandS.Wide
import KE.SortData
import KE.KDictKeyed
import HandS.TupSets
import PySem.Challenge.RW_swapstars_k55_whole_counts_by_pictures
set_option Elab.async false
set_option linter.all false
set_option maxRecDepth 100000
set_option maxHeartbeats 4000000
/-! Written tables, printed by wip/gen_tables.py -/
namespace Ct
def digF : Nat → Nat → List Int → List Int
  | 0, _, acc => acc
  | f + 1, x, acc => if x = 0 then acc else digF f (x / 16) (((x % 16 : Nat) : Int) :: acc)
def kinOf (xs : List Nat) : List (List Int) := xs.map fun x => digF 11 x []
def rowOf : Nat → Nat → List Int
  | 0, _ => []
  | n + 1, x => (((x % 4096 : Nat) : Int) - 2048) :: rowOf n (x / 4096)
def tabOf (n : Nat) (xs : List Nat) : List (List Int) := xs.map (rowOf n)
def stpR : Nat → Nat → List (Int × Int)
  | 0, _ => []
  | f + 1, x => if x % 4096 = 0 then [] else (((x % 4096 / 64 : Nat) : Int), ((x % 4096 % 64 : Nat) : Int)) :: stpR f (x / 4096)
def stpOf (xs : List Nat) : List (List (Int × Int)) := xs.map (stpR 64)
def kin0 : List (List Int) := kinOf [0x0]
def kin1 : List (List Int) := kinOf [0x1]
def kin2 : List (List Int) := kinOf [0x11, 0x2]
def kin3 : List (List Int) := kinOf [0x111, 0x21, 0x3]
def kin4 : List (List Int) := kinOf [0x1111, 0x211, 0x22, 0x31, 0x4]
def kin5 : List (List Int) := kinOf [0x11111, 0x2111, 0x221, 0x311, 0x32, 0x41, 0x5]
def kin6 : List (List Int) := kinOf [0x111111, 0x21111, 0x2211, 0x222, 0x3111, 0x321, 0x33, 0x411, 0x42, 0x51, 0x6]
def kin7 : List (List Int) := kinOf [0x1111111, 0x211111, 0x22111, 0x2221, 0x31111, 0x3211, 0x322, 0x331, 0x4111, 0x421, 0x43, 0x511, 0x52, 0x61, 0x7]
def kin8 : List (List Int) := kinOf [0x11111111, 0x2111111, 0x221111, 0x22211, 0x2222, 0x311111, 0x32111, 0x3221, 0x3311, 0x332, 0x41111, 0x4211, 0x422, 0x431, 0x44, 0x5111, 0x521, 0x53, 0x611, 0x62, 0x71, 0x8]
def kin9 : List (List Int) := kinOf [0x111111111, 0x21111111, 0x2211111, 0x222111, 0x22221, 0x3111111, 0x321111, 0x32211, 0x3222, 0x33111, 0x3321, 0x333, 0x411111, 0x42111, 0x4221, 0x4311, 0x432, 0x441, 0x51111, 0x5211, 0x522, 0x531, 0x54, 0x6111, 0x621, 0x63, 0x711, 0x72, 0x81, 0x9]
def kin10 : List (List Int) := kinOf [0x1111111111, 0x211111111, 0x22111111, 0x2221111, 0x222211, 0x22222, 0x31111111, 0x3211111, 0x322111, 0x32221, 0x331111, 0x33211, 0x3322, 0x3331, 0x4111111, 0x421111, 0x42211, 0x4222, 0x43111, 0x4321, 0x433, 0x4411, 0x442, 0x511111, 0x52111, 0x5221, 0x5311, 0x532, 0x541, 0x55, 0x61111, 0x6211, 0x622, 0x631, 0x64, 0x7111, 0x721, 0x73, 0x811, 0x82, 0x91, 0xa]
def stp1 : List (List (Int × Int)) := stpOf [0x0]
def stp2 : List (List (Int × Int)) := stpOf [0x41, 0x1]
def stp3 : List (List (Int × Int)) := stpOf [0x41041041, 0x1082, 0x43]
def stp4 : List (List (Int × Int)) := stpOf [0x41041041041041041, 0x10810c20c2, 0x41041104, 0x43103, 0x820c4]
def stp5 : List (List (Int × Int)) := stpOf [0x41041041041041041041041041041, 0x10810810810c20c20c2, 0x41041102102144, 0x43101143143, 0xc1083186, 0x820c4184, 0x105145]
def stp6 : List (List (Int × Int)) := stpOf [0x41041041041041041041041041041041041041041041, 0x1081081081081081081102102102102, 0x410410c11421421421421c4, 0x81081081204204204, 0x431411411411c31c31c3, 0x101083182203246, 0x143143289, 0x82104201244244, 0x1c10c2144288, 0x1451c5285, 0x183206246]
def stp7 : List (List (Int × Int)) := stpOf [0x41041041041041041041041041041041041041041041041041041041041041, 0x1081081081081081081081081081081102102102102102, 0x410410c10c10c1142142142142142142204, 0x81081081182182244182244244, 0x43141141141141141141203203203203, 0x1010831811c21c22432432c6, 0x1411410c3284306306, 0x143143283283349, 0x821042412412412c42c42c4, 0x2010c2144282304348, 0x2431821c438c, 0x145205301345345, 0x2c118524538a, 0x1c32462c6386, 0x287307347]
def stp8 : List (List (Int × Int)) := stpOf [0x41041041041041041041041041041041041041041041041041041041041041041041041041041041041, 0x1081081081081081081081081081081081081081081081142142142142142142, 0x410410c10c10c10c10c10c1182182182182182182182182284, 0x810810811011c21c21c21c22c41c21c22c42c4, 0xc10c10c10c1304304304304304304, 0x43181181181181181181181181181181283283283283283, 0x1410831c11c11c12022022022c32c32c33c6, 0x1811810c3242242344303406406, 0x183183241343343343343489, 0x2011c31c34464464c9, 0x821442c12c12c12c12c12c13c43c43c43c4, 0x2810c2184301342342404404488, 0x2c12c11021c43844c84c8, 0x2c31c220438344450c, 0x302344302344550, 0x185285401401401485485485, 0x3c11c52c54424c550a, 0x40324534554f, 0x2032c63c64c1506506, 0x48124330640654c, 0x347407487547, 0x3844484c8508]
def stp9 : List (List (Int × Int)) := stpOf [0x41041041041041041041041041041041041041041041041041041041041041041041041041041041041041041041041041041041041, 0x1081081081081081081081081081081081081081081081081081081081081081142142142142142142142, 0x410410c10c10c10c10c10c10c10c10c10c1182182182182182182182182182182304, 0x810810811011011011c21c21c21c21c21c23441c21c21c2344344, 0xc10c10c10c1202202384202384384202384384384, 0x43181181181181181181181181181181181181181181181303303303303303303, 0x1410831c11c11c11c11c11c1242242242242343343343343486, 0x1811810c32012822822822823c43833834c64c6, 0x1c11c11c1103404404404506506506, 0x1831832812812813c33c33c33c33c33c35c9, 0x2411c31c32c2403546403546609, 0x283283283649649649, 0x82144341341341341341341341341341341484484484484484, 0x3010c21843813813813c23c23c24c44c44c45c8, 0x3413411021c4402402444504608608, 0x3431c224440144344354454468c, 0x3c13832022845866486cc, 0x3823c43823c4584584710, 0x1853054c14c14c14c14c14c15c55c55c55c5, 0x4811c534550154254260560568a, 0x4c14c12053855846ca6ca, 0x4c32853c558364570f, 0x502544405445754, 0x243346486601601601686686686, 0x5c12833864c66426c670c, 0x6032c3406546752, 0x3c74c75c76c1707707, 0x68140750760774e, 0x444548608688748, 0x5896496c9709]
def stp10 : List (List (Int × Int)) := stpOf [0x41041041041041041041041041041041041041041041041041041041041041041041041041041041041041041041041041041041041041041041041041041041041041, 0x1081081081081081081081081081081081081081081081081081081081081081081081081081081081081182182182182182182182182, 0x410410c10c10c10c10c10c10c10c10c10c10c10c10c10c10c11c21c21c21c21c21c21c21c21c21c21c21c2384, 0x810810811011011011011011012022022022022022022022023c42022022022023c43c4, 0xc10c10c10c1141242242242242404242242404404242242404404404, 0x101101101101101444444444444444444444444444444, 0x431c11c11c11c11c11c11c11c11c11c11c11c11c11c11c11c11c11c11c11c11c1383383383383383383383, 0x1810832012012012012012012012012012012822822822822823c33c33c33c33c35c6, 0x1c11c10c32412412412c22c22c22c22c22c2484403403403606606, 0x2012012011033023024c43024c44c4443646646646, 0x1c31c32c12c12c12c12c12c1483483483483483483483483789, 0x2812032033013423424c34c36864c34c36867c9, 0x2c12c12432435046c66c66c66c6809, 0x2c32c32c3503503849503849849, 0x821843c13c13c13c13c13c13c13c13c13c13c13c13c13c13c15c45c45c45c45c45c4, 0x3810c21c4401401401401401401482482482482604604604604788, 0x3c13c11022044414c24c24c24c25446446447c87c8, 0x401401401142244584584584808808808, 0x3c32022844c14c14c15435435436846846848cc, 0x4814032422c45025837066c484890c, 0x4c34c330234488994c94c, 0x402484402484581704704704704990, 0x5414424c44424c48888889d0, 0x1c5385601601601601601601601601601601785785785785785, 0x5c12053c56416416416826826827c57c57c58ca, 0x6016012454056c26c270480590a90a, 0x6032c54856c170370384584598f, 0x6816433054c574694a9cf, 0x6426844c5545744885a14, 0x6c57056c5705a59, 0x2833c65c67c17c17c17c17c17c18c68c68c68c6, 0x7812c340660680184284290690698c, 0x7c17c13034466468849cc9cc, 0x7c33434c6686883946a12, 0x802844503586706a58, 0x487607787901901901987987987, 0x8c14c76477c79429c7a0e, 0x9035076c7847a55, 0x5446887c88c89c1a08a08, 0x9815846c8808908a50, 0x709849909989a49, 0x74588a94a9caa0a]
def tab0 : List (List Int) := tabOf 1 [0x801]
def tab1 : List (List Int) := tabOf 1 [0x801]
def tab2 : List (List Int) := tabOf 2 [0x7ff801, 0x801801]
def tab3 : List (List Int) := tabOf 3 [0x8017ff801, 0x7ff800802, 0x801801801]
def tab4 : List (List Int) := tabOf 5 [0x7ff8018017ff801, 0x8018007ff7ff803, 0x8007ff802800802, 0x7ff8007ff801803, 0x801801801801801]
def tab5 : List (List Int) := tabOf 7 [0x8017ff7ff8018017ff801, 0x7ff8008018018007fe804, 0x8008017ff7ff8017ff805, 0x8018008008007fe800806, 0x8007ff8017ff801801805, 0x7ff8007ff801800802804, 0x801801801801801801801]
def tab6 : List (List Int) := tabOf 11 [0x7ff8018017ff8017ff8017ff8017ff801, 0x8018007ff7ff7ff8008028018017fd805, 0x8007ff8018018008008007fd8017fd809, 0x8008007ff8018027ff7ff8038017ff805, 0x7ff8008008008018018018027fe7fe80a, 0x8008018008007fe8007fe800800800810, 0x8008007ff7ff8028017ff7fd801801805, 0x8018008008008017ff8017fe7fe80280a, 0x8007ff8017ff800800800803801803809, 0x7ff8007ff8017ff8008027ff801803805, 0x801801801801801801801801801801801]
def tab7 : List (List Int) := tabOf 15 [0x8017ff7ff8017ff8017ff8018017ff8017ff8017ff801, 0x7ff8008018018018007fe8007ff7ff8038008027fc806, 0x8008017ff7ff8008008007ff8028008027fe8027fa80e, 0x8008008017ff7ff8008028027ff7ff7ff8008027fc80e, 0x8018008008007ff7ff7ff8007ff8018038037ff7fb80f, 0x8007ff8008008018018017ff7ff8017ff7ff7ff7fb823, 0x8008007ff8018017ff8018008017ff7fd8038017ff815, 0x8008008018017ff7ff7ff8008018017fd7fd801801815, 0x7ff8008008008008008008028028008028007fc800814, 0x8008018008007ff8017ff7ff7ff7ff7ff8017ff805823, 0x8008007ff7ff8018007fe8027ff8017ff80080280480e, 0x8018008008008017ff8018007ff7ff8037fd7ff80580f, 0x8007ff8017ff8008008007ff80280080280280280680e, 0x7ff8007ff8017ff8008028007ff801803800802804806, 0x801801801801801801801801801801801801801801801]
def tab8 : List (List Int) := tabOf 22 [0x7ff8018017ff8017ff8018017ff7ff8017ff7ff8018017ff8018017ff8017ff801, 0x8018007ff7ff7ff8008027ff8008018017fd8018018007fe8047ff7ff8037fb807, 0x8007ff8018018008008008008017fe8007fe7ff7ff8017ff8058047fe8047f6814, 0x8008007ff8018018007fe8007ff8028008027ff8018017ff8017fc7fe8047f681c, 0x8008008008007ff8017ff8027ff7fe8008028028027ff7ff7ff8068008027fc80e, 0x7ff8008008008018018018018008017ff7fd8008007fe8008067fd8038017f7815, 0x8008018008007ff7ff7ff8008008008008008027fe8008028048008008007f0840, 0x8008008017ff8008008007fe8018008008047ff8017ff7ff7fb7fe8028027f6846, 0x8008007ff7ff8018018018008008008008007ff7ff8008027fc8087fc8007fc838, 0x8008008008007ff8008028028008007fe8008008008028007fa7fa80080280082a, 0x8018008008008008008007ff7ff7ff7ff7ff7fe8028018018058038037fb7fb823, 0x8007ff8008008008008008028008008028008008008008008007fa8007fa80085a, 0x8008007ff8018017ff8018008008008008008017ff8007fe7fc808804800804838, 0x8008008018018008008007fe7ff8008007fc8018017ff8017fb7fe7fe80280a846, 0x8008008008007ff7ff7ff8028018028007fe7fe8027ff8017ff80680080280480e, 0x7ff8008008008008008007ff8018017ff8018028028017ff8058037fd7fb805823, 0x8008018008007ff8017ff8008008008008007fe7fe8007fe804800800800810840, 0x8008007ff7ff8018007fe8008017fe8007fe8018018018018017fc80280480a81c, 0x8018008008008017ff8018018007ff7ff8038008007fe8008067fd7fd801809815, 0x8007ff8017ff8008008008007ff8028008028017ff80180180580480280480a814, 0x7ff8007ff8017ff8008027ff8007ff8018037ff8018008028047ff801803805807, 0x801801801801801801801801801801801801801801801801801801801801801801]
def tab9 : List (List Int) := tabOf 30 [0x8017ff7ff8017ff8017ff7ff8018017ff8018018017ff7ff8017ff8017ff8017ff8017ff8018017ff8017ff801, 0x7ff8008018018018007fe8018007ff7ff8038007ff7ff8008027fc7ff8008028018017fd8058007fe8047fa808, 0x8008017ff7ff8008008008007ff8028008027ff8018017ff8017fb8008008007fd8017fd8098037fd8077f181b, 0x8008008017ff7ff8008028008017fe8007fe8008008008008008008037fe8008028027fe8068007fc8087ec830, 0x8008008008008017ff8017ff8008018017fd8028007fe8008008047fd8018037fe8007fe8008027fe8067f282a, 0x8018008008007ff7ff7ff7ff8007ff8018038008008008028007fa8018018018027fe7fe80a7fc8028047f281c, 0x8007ff8008008018018018008008008008008017ff8017ff7ff7fb7fd8017fd8017ff80180f8018018057dd869, 0x8008007ff8018008008008018008017ff7fd7fe8008008028008068008008008008008008007fa8008067dc8a2, 0x8008008008007ff8017ff8017ff7ff8017ff8008008007fe8008068038018038027fe7fe7fa8048028047f2854, 0x8008008018017ff7ff7ff8008008008008008008008008008008008038017fd7fc8008048008087fc8007ec878, 0x8008008008008018007fe7ff8007ff8018038008018018007fe8047fd7fe8008018018017f18007fe8047f28a8, 0x8008008008008008008008007ff8028008028027fe8008007fe8008068008008008028007fa7fa80080280082a, 0x7ff8008008008008008008018018018018018008017ff8007fe7fc8027fe8027fd7ff80180b8008067fc7f2838, 0x8008018008008008008007ff7ff7ff7ff7ff8018017ff7ff8017ff8008008008038018038097fd8037f57eb8bd, 0x8008008017ff8008008007ff8018017ff8018007ff8018008028048008008007fd7ff7fd7f78008067fc7fa8d8, 0x8008007ff7ff8008008008018018018018018007ff7ff8008027fc8008008008037ff8037f78007fa7fc8068d8, 0x8008008008007ff8008028018007ff7ff8038008017ff8007fe7fc7fd8028007ff8017ff7f180080280480e8a8, 0x8008008008008018018017ff7ff7ff7ff7ff8008008008028007fa8037ff8037fe7fe8027fa8047fe80480e854, 0x8018008008008008008008008008008008007fe7fe8008007fe8007fe80080480080280080a8068007f6800846, 0x8007ff8008008008008008017ff7ff8017ff8018018018018018018008008007fd8017fd8097fd7fd7f58158bd, 0x8008007ff8018017ff8018008008008008008008008008008008008037ff7fd8048007fc800808804800814878, 0x8008008018018008008007ff8008018017fd7fe8008007fe8007fa8008008008008008008007fa8008068248a2, 0x8008008008007ff7ff7ff8018008017ff7fd8028008028008007fc7fd7ff80380280080280080280280680e82a, 0x7ff8008008008008008007ff8018017ff8018008018018007fe8048028028028037ff7ff80b8007fa7fc80e838, 0x8008018008007ff8017ff8008008008008008017ff7ff8017ff8057fd7ff7fd7ff7ff7ff80f8017ff805823869, 0x8008007ff7ff8018007fe8008017fe8007fe8008008008008008008038028007fe802802806800804808814830, 0x8018008008008017ff8018018007ff7ff8038008008007fe8008068017ff8017fe7fe80280a7fc7fe80480e81c, 0x8007ff8017ff8008008008007ff8028008027ff8017ff80180180580080080080380180380980380380780f81b, 0x7ff8007ff8017ff8008027ff8007ff8018038007ff8018008028047ff8008027ff801803805800802804806808, 0x801801801801801801801801801801801801801801801801801801801801801801801801801801801801801801]
def tab10 : List (List Int) := tabOf 42 [0x7ff8018017ff8017ff8018017ff7ff8017ff8017ff7ff8018017ff8017ff8017ff8017ff8017ff8017ff8018017ff8017ff8017ff8017ff8017ff8017ff801, 0x8018007ff7ff7ff8008027ff8008018017fd7ff8008018018007fe8048018018018007fe7ff7ff8037fb8007ff7ff8038008027fc8068018017fd8057f9809, 0x8007ff8018018008008008008017fe8007fe8008017ff7ff8017ff8057ff7ff8008008008037ff8037f77ff8028008027fe8027fa80e7fb8037fb80b7eb823, 0x8008007ff8018018007fe8007ff8028008028008008008008008008008017ff7fe8018017fd7ff8017fb8038007fe8007ff8037fb80f8058037f980f7dd84b, 0x8008008008007ff8017ff8018007ff7ff8038007ff8018017ff8017fb7fe8028018007fe8048008008048007ff7ff8038008027fc8067f68027fa80e7de85a, 0x8008008008008008008007ff8018017ff8018027ff7fe8008018017fd8028028018007fe7fc8008008047fd8038018037fe8007fe80080a8027fe8067f282a, 0x7ff8008008008018018018018008017ff7fd8018008008007fe8008068008007ff7ff7ff7fe8028027f68007ff8018038037ff7fb80f8047fc8008087ec824, 0x8008018008007ff7ff7ff8008008008008008007ff8017ff8018018058008008028008028008008007f07fe7fe8027fe8007fe7fc8228008008008107c08a0, 0x8008008017ff8008008007ff8007ff8018038008017ff8017ff7ff7fb8017ff8017ff8017ff8017ff8018008017ff7fd8038017ff8158057fb7fd8137a593b, 0x8008008008008017ff8018008008008008007fe8018017ff8018017f98008007fe8007fe8008008008108007fe8028068007fe7fc7fa8008008008107c0920, 0x8008007ff7ff8018018018008008008008008008008008008008008008018017fe7ff8018037ff7ff7fb8008028027fa7fd7ff80580f7f18097fd8057c98e1, 0x8008008008007ff8008028018008017ff7fd8008008008008008008007fe7fe8018018017fe8027fe80a8008017ff7fd7fd8018057f180a8027fa80a7ba9c2, 0x8008008008008008008007ff8008018017fd8028007ff7ff7fe8028028008008018018018027fe7fe80a8007ff7ff8038037ff7ff7eb7ec8048008087e48fc, 0x8008008008008008008008008017fe8007fe8007ff8017ff8018018058028027fe7ff8018008007fc8048038007fe8008018038017eb80a7fa7fe8067f28d2, 0x8018008008008008008007ff7ff7ff7ff7ff7ff8007ff8018008028048008007ff8017ff8028027fe7f68038037ff8037ff7fd7ff8157fc7fc8088007e4854, 0x8007ff8008008008008008018018018018018008008008008008008007fe8027ff8017ff7fe7fe7fe7f67ff7ff7ff7ff8017ff80582380a7fe80a7f67ba95e, 0x8008007ff8018008008008008008008008008027ff8008008017fd7fd8017ff8008008008038018038098008008008008008008008007f17f78097f77c1a37, 0x8008008008007ff8017ff8017ff7ff8017ff8008008008008008008008008008017ff8017fe7fe80280a8038038018037ff7fd7fb7f18148048088007ec92c, 0x8008008018018008008007ff7ff7ff7ff7ff8008008008008008008008018018018007fe7ff7ff8037fb8037fd8017fd80280080a8008058057f97f17dda0d, 0x8008008008008018007fe8008008008008007fe8008008028008008088008008008008008008008008007fa8008008008008008007d0800800800800800b00, 0x8008008008008008008008007ff8028008028008017ff7ff8017ff8057fe8028027ff7ff8008007fc7fc8038008028007ff8037ff7eb7f67fa80280680e8d2, 0x8008008008007ff7ff7ff8018018018018018008008008008008008008008007ff7ff7ff7fe8028027f68038037ff8038017fd8057f17ec8047f880081492c, 0x8008008008008008008007ff8007ff8018038028008017ff7fe7fe8028008007ff8017ff8028027fe7f68007ff8018037fd7ff8017eb81480480080881c8fc, 0x7ff8008008008008008008008008008008008018018018018018018018027fe8027ff7ff8008007fc7fc8007fe7fe8067fd8018018157fa8068067f27f287e, 0x8008018008008008008008008008008008007fe8008007fe7fe8007fe8008008008008008008008008007fe80480080480080480081c8008008007e08009c0, 0x8008008017ff8008008007ff8018017ff8018008008008008008008007ff8017ff8008027ff8018038058037fd7ff7fd7fe8007f68007fb8058077f1823a0d, 0x8008007ff7ff8008008008008008008008008028018008008018037fd7ff7ff8008008008037ff8037f780080080080080080080080080f7f77f77f783fa37, 0x8008008008007ff8008028018007ff7ff8038008008008008008008008027fe7ff8017ff7fe7fe7fe7f68008018017fd8038017fb7f17f680280680a8469c2, 0x8008008008008018018018008008008008007fe7ff7ff7ff8017ff7f98008008028008028008008007f08007fe7fe8068007fe8047fa800800800810840920, 0x8008008008008008008007ff7ff7ff7ff7ff8028018028008017ff7fd7fe8027ff8008027fc8008007fc7fd8037ff8038028008028007f680280280680e82a, 0x8018008008008008008008008008008008008017ff7ff8018017ff8017fe7fe7fe7ff8018008007fc8048007fe8028068038017ff8158068067fa7f280e87e, 0x8007ff8008008008008008017ff7ff8017ff8008008008008008008008028028018018017fe8027fe80a7ff7ff8017ff7ff7ff7fb8237f67fe7f67f684695e, 0x8008007ff8018017ff8018008008008008008008008008008008008007ff8018027ff7ff8038017ff8058008027fe7fa8037ff7fb80f80f8098038058378e1, 0x8008008018018008008007ff8008018017fd8007ff8018017ff8017fb7ff7ff7ff7ff7ff7ff7ff7ff7ff8008018017fd7fd8018018157fb7fb80381385b93b, 0x8008008008007ff7ff7ff8018008017ff7fd8008017ff8017ff7ff7fb8028027ff8008028048008007fc8007ff80180380080280480680a80280680e82285a, 0x7ff8008008008008008007ff8018017ff8017ff8008018018007fe8048008008018018018027fe7fe80a8038038018038017fd8018158047fc7f880081c854, 0x8008018008007ff8017ff8008008008008008008017ff7ff8017ff8058008007fe8007fe8008008008107fe7fe7fe7fe8007fe8048228008008008108408a0, 0x8008007ff7ff8018007fe8008017fe8007fe8008008008008008008007ff7ff8028017ff7fd80180180580380080280080180380580f7fb80380780f82384b, 0x8018008008008017ff8018018007ff7ff8038018008008007fe8008068008008017ff8017fe7fe80280a8007ff7ff8037fd7ff80580f7fc7fc800808814824, 0x8007ff8017ff8008008008007ff8028008028007ff8017ff8018018058017ff8008008008038018038097ff80280080280280280680e80580380580b815823, 0x7ff8007ff8017ff8008027ff8007ff8018037ff8007ff8018008028047ff8017ff8008027ff8018038058007ff8018038008028048067ff801803805807809, 0x801801801801801801801801801801801801801801801801801801801801801801801801801801801801801801801801801801801801801801801801801801]
def kinN : Nat → List (List Int)
  | 0 => kin0
  | 1 => kin1
  | 2 => kin2
  | 3 => kin3
  | 4 => kin4
  | 5 => kin5
  | 6 => kin6
  | 7 => kin7
  | 8 => kin8
  | 9 => kin9
  | 10 => kin10
  | _ => []
def stpN : Nat → List (List (Int × Int))
  | 1 => stp1
  | 2 => stp2
  | 3 => stp3
  | 4 => stp4
  | 5 => stp5
  | 6 => stp6
  | 7 => stp7
  | 8 => stp8
  | 9 => stp9
  | 10 => stp10
  | _ => []
def tabN : Nat → List (List Int)
  | 0 => tab0
  | 1 => tab1
  | 2 => tab2
  | 3 => tab3
  | 4 => tab4
  | 5 => tab5
  | 6 => tab6
  | 7 => tab7
  | 8 => tab8
  | 9 => tab9
  | 10 => tab10
  | _ => []
end Ct
namespace Ct

/-! ### kinds -/
def kindsF : Nat → Nat → Nat → List (List Int)
  | 0, _, _ => [[]]
  | d + 1, n, most => if n = 0 then [[]] else (List.range (min n most)).flatMap fun i => (kindsF d (n - (i + 1)) (i + 1)).map ((((i + 1 : Nat)) : Int) :: ·)
def K (n : Nat) : List (List Int) := kindsF 10 n n

/-! ### sorting downwards -/
def ins (x : Int) : List Int → List Int
  | [] => [x]
  | y :: r => if y ≤ x then x :: y :: r else y :: ins x r
def fall : List Int → List Int
  | [] => []
  | x :: r => ins x (fall r)

/-! ### joins, cuts, steps -/
def without (k : List Int) (out : List Int) : List Int := (k.zipIdx.filter fun (p : Int × Nat) => !out.contains (p.2 : Int)).map (·.1)
def joinsL (k : List Int) : List (List Int × Int) :=
  (List.range k.length).flatMap fun i => (List.range (k.length - (i + 1))).map fun j' =>
    (fall (without k [(i : Int), ((i + 1 + j' : Nat) : Int)] ++ [k.getD i 0 + k.getD (i + 1 + j') 0]), k.getD i 0 * k.getD (i + 1 + j') 0)
def cutsL (k : List Int) : List (List Int × Int) :=
  k.zipIdx.flatMap fun (p : Int × Nat) => (List.range (p.1 / 2).toNat).map fun (i : Nat) =>
    (fall (without k [(p.2 : Int)] ++ [(1 : Int) + i, p.1 - (1 + i)]), if 2 * ((1 : Int) + i) = p.1 then (1 : Int) + i else p.1)
def ixOf (ks : List (List Int)) (k : List Int) : Nat := match ks with
  | [] => 0
  | x :: r => if x = k then 0 else ixOf r k + 1
def stepsL (n : Nat) : List (List (Int × Int)) := (K n).map fun k => (joinsL k ++ cutsL k).map fun p => ((ixOf (K n) p.1 : Int), p.2)

/-! ### counts by joining and cutting -/
def moreL (steps : List (List (Int × Int))) (counts : List Int) : List Int := steps.map fun s => (s.map fun (p : Int × Int) => p.2 * counts.getD p.1.toNat 0).sum
def firstL (n : Nat) : List Int := (K n).map fun k => if k.length = n then 1 else 0
def vecL (n : Nat) : Nat → List Int
  | 0 => firstL n
  | m + 1 => moreL (stepsL n) (vecL n m)

/-! ### pictures -/
def contentsL (p : List Int) : Int := (p.zipIdx.map fun (q : Int × Nat) => ((List.range q.1.toNat).map fun (c : Nat) => (c : Int) - q.2).sum).sum
def pegsL (p : List Int) : List Int := p.zipIdx.map fun (q : Int × Nat) => q.1 + p.length - 1 - q.2
def pictureL (pegs : List Int) : List Int := ((fall pegs).zipIdx.map fun (q : Int × Nat) => q.1 - pegs.length + 1 + q.2).filter fun x => decide (0 < x)
def rimsL (p : List Int) (k : Int) : List (List Int × Int) :=
  (pegsL p).zipIdx.filterMap fun (q : Int × Nat) =>
    if 0 ≤ q.1 - k ∧ ¬ (q.1 - k) ∈ pegsL p then
      some (pictureL ((pegsL p).take q.2 ++ [q.1 - k] ++ (pegsL p).drop (q.2 + 1)), (((pegsL p).filter fun x => decide (q.1 - k < x) && decide (x < q.1)).length : Int))
    else none
def sgn (s : Int) : Int := 1 - 2 * (s % 2)
def chi : List Int → List Int → Int
  | _, [] => 1
  | p, k :: r => ((rimsL p k).map fun (q : List Int × Int) => sgn q.2 * chi q.1 r).sum

/-! ### the written tables tell it -/
def tabAt (n : Nat) (p k : List Int) : Int := ((tabN n).getD (ixOf (kinN n) p) []).getD (ixOf (kinN n) k) 0
/-- one row of the check: all rims of k boxes are kinds, and the table goes by them -/
def chk1 (n : Nat) (p : List Int) (k : List Int) : Bool := match k with
  | [] => decide (tabAt n p [] = 1)
  | a :: r =>
    decide (0 < a) && decide (a ≤ (n : Int)) && decide (r ∈ kinN (n - a.toNat)) &&
    (rimsL p a).all (fun (q : List Int × Int) => decide (q.1 ∈ kinN (n - a.toNat))) &&
    decide (tabAt n p k = ((rimsL p a).map fun (q : List Int × Int) => sgn q.2 * tabAt (n - a.toNat) q.1 r).sum)
def chkP (n : Nat) (p : List Int) : Bool := (kinN n).all fun k => chk1 n p k
/-- the pictures from the i-th on, m of them -/
def chkS (n i m : Nat) : Bool := (((kinN n).drop i).take m).all (chkP n)
def chkN (n : Nat) : Bool := (kinN n).all (chkP n)
theorem all_split {α : Type} (f : α → Bool) (l : List α) (m : Nat) (h1 : (l.take m).all f = true) (h2 : (l.drop m).all f = true) : l.all f = true := by
  rw [← List.take_append_drop m l, List.all_append, h1, h2]
  rfl
end Ct
namespace Ct
theorem K_eq : ∀ n, n < 11 → K n = kinN n := by decide +kernel
theorem stepsL_eq : ∀ n, n < 11 → 0 < n → stepsL n = stpN n := by decide +kernel
/-! the check in parts, so that the kernel need not hold all of it at once -/
theorem chk_lo : ∀ n, n < 8 → chkN n = true := by decide +kernel
theorem chk_8_0 : chkS 8 0 11 = true := by decide +kernel
theorem chk_8_1 : chkS 8 11 11 = true := by decide +kernel
theorem chk_9_0 : chkS 9 0 8 = true := by decide +kernel
theorem chk_9_1 : chkS 9 8 8 = true := by decide +kernel
theorem chk_9_2 : chkS 9 16 7 = true := by decide +kernel
theorem chk_9_3 : chkS 9 23 7 = true := by decide +kernel
theorem chk_10_0 : chkS 10 0 6 = true := by decide +kernel
theorem chk_10_1 : chkS 10 6 6 = true := by decide +kernel
theorem chk_10_2 : chkS 10 12 6 = true := by decide +kernel
theorem chk_10_3 : chkS 10 18 6 = true := by decide +kernel
theorem chk_10_4 : chkS 10 24 6 = true := by decide +kernel
theorem chk_10_5 : chkS 10 30 6 = true := by decide +kernel
theorem chk_10_6 : chkS 10 36 6 = true := by decide +kernel
theorem chk_8 : chkN 8 = true := by
  have e : (kinN 8).drop 22 = [] := by decide +kernel
  have h2 : ((kinN 8).drop 22).all (chkP 8) = true := by
    rw [e]
    rfl
  have h1 : ((kinN 8).drop 11).all (chkP 8) = true := all_split _ _ 11 chk_8_1 (by rw [List.drop_drop]; exact h2)
  have h0 : ((kinN 8).drop 0).all (chkP 8) = true := all_split _ _ 11 chk_8_0 (by rw [List.drop_drop]; exact h1)
  exact h0
theorem chk_9 : chkN 9 = true := by
  have e : (kinN 9).drop 30 = [] := by decide +kernel
  have h4 : ((kinN 9).drop 30).all (chkP 9) = true := by
    rw [e]
    rfl
  have h3 : ((kinN 9).drop 23).all (chkP 9) = true := all_split _ _ 7 chk_9_3 (by rw [List.drop_drop]; exact h4)
  have h2 : ((kinN 9).drop 16).all (chkP 9) = true := all_split _ _ 7 chk_9_2 (by rw [List.drop_drop]; exact h3)
  have h1 : ((kinN 9).drop 8).all (chkP 9) = true := all_split _ _ 8 chk_9_1 (by rw [List.drop_drop]; exact h2)
  have h0 : ((kinN 9).drop 0).all (chkP 9) = true := all_split _ _ 8 chk_9_0 (by rw [List.drop_drop]; exact h1)
  exact h0
theorem chk_10 : chkN 10 = true := by
  have e : (kinN 10).drop 42 = [] := by decide +kernel
  have h7 : ((kinN 10).drop 42).all (chkP 10) = true := by
    rw [e]
    rfl
  have h6 : ((kinN 10).drop 36).all (chkP 10) = true := all_split _ _ 6 chk_10_6 (by rw [List.drop_drop]; exact h7)
  have h5 : ((kinN 10).drop 30).all (chkP 10) = true := all_split _ _ 6 chk_10_5 (by rw [List.drop_drop]; exact h6)
  have h4 : ((kinN 10).drop 24).all (chkP 10) = true := all_split _ _ 6 chk_10_4 (by rw [List.drop_drop]; exact h5)
  have h3 : ((kinN 10).drop 18).all (chkP 10) = true := all_split _ _ 6 chk_10_3 (by rw [List.drop_drop]; exact h4)
  have h2 : ((kinN 10).drop 12).all (chkP 10) = true := all_split _ _ 6 chk_10_2 (by rw [List.drop_drop]; exact h3)
  have h1 : ((kinN 10).drop 6).all (chkP 10) = true := all_split _ _ 6 chk_10_1 (by rw [List.drop_drop]; exact h2)
  have h0 : ((kinN 10).drop 0).all (chkP 10) = true := all_split _ _ 6 chk_10_0 (by rw [List.drop_drop]; exact h1)
  exact h0
theorem chk_all : ∀ n, n < 11 → chkN n = true := fun n h => by
  by_cases h8 : n < 8
  · exact chk_lo n h8
  · rcases (show n = 8 ∨ n = 9 ∨ n = 10 by omega) with rfl | rfl | rfl
    · exact chk_8
    · exact chk_9
    · exact chk_10
end Ct
namespace Ct
open PySem PySem.Spec PyProof.Rows L2

/-! ### what a value stands for, over the abstract heap; S says where its objects may stand -/
abbrev Rep (α : Type) := (Addr → Prop) → Hp → V → α → Prop
def Keeps {α : Type} (R : Rep α) : Prop := ∀ S S' H H' v x, (∀ b, S b → S' b) → (∀ b o, S b → H b = some o → H' b = some o) → R S H v x → R S' H' v x
def RI : Rep Int := fun _ _ v i => v = .int i
def RL {α : Type} (R : Rep α) : Rep (List α) := fun S H v xs => ∃ a vs, v = .ref a ∧ S a ∧ H a = some (.lst vs) ∧ Paired (R S H) vs xs
def RT2 {α β : Type} (R : Rep α) (R' : Rep β) : Rep (α × β) := fun S H v p => ∃ a x y, v = .ref a ∧ S a ∧ H a = some (.tup [x, y]) ∧ R S H x p.1 ∧ R' S H y p.2
/-- a tuple of ints -/
def RTI : Rep (List Int) := fun S H v ns => ∃ a, v = .ref a ∧ S a ∧ H a = some (.tup (ns.map V.int))
theorem paired_mono {α β : Type} {F G : α → β → Prop} (f : ∀ a b, F a b → G a b) : ∀ {l : List α} {m : List β}, Paired F l m → Paired G l m
  | _, _, .nil => .nil
  | _, _, .cons h t => .cons (f _ _ h) (paired_mono f t)
theorem paired_len {α β : Type} {F : α → β → Prop} : ∀ {l : List α} {m : List β}, Paired F l m → l.length = m.length
  | _, _, .nil => rfl
  | _, _, .cons _ t => congrArg (· + 1) (paired_len t)
theorem paired_snoc {α β : Type} {F : α → β → Prop} {x : α} {y : β} (h : F x y) : ∀ {l : List α} {m : List β}, Paired F l m → Paired F (l ++ [x]) (m ++ [y])
  | _, _, .nil => .cons h .nil
  | _, _, .cons q t => .cons q (paired_snoc h t)
theorem paired_app {α β : Type} {F : α → β → Prop} : ∀ {l l' : List α} {m m' : List β}, Paired F l m → Paired F l' m' → Paired F (l ++ l') (m ++ m')
  | _, _, _, _, .nil, s => s
  | _, _, _, _, .cons q t, s => .cons q (paired_app t s)
theorem paired_get {α β : Type} {F : α → β → Prop} : ∀ {l : List α} {m : List β} {i : Nat} {x : α}, Paired F l m → l[i]? = some x → ∃ y, m[i]? = some y ∧ F x y
  | _, _, i, x, .nil, e => by simp at e
  | _, _, 0, x, .cons h _, e => by
    simp at e
    subst e
    exact ⟨_, rfl, h⟩
  | _, _, n + 1, x, .cons _ t, e => by
    obtain ⟨y, e1, e2⟩ := paired_get (i := n) (x := x) t (by simpa using e)
    exact ⟨y, by simpa using e1, e2⟩
theorem paired_get' {α β : Type} {F : α → β → Prop} : ∀ {l : List α} {m : List β} {i : Nat} {y : β}, Paired F l m → m[i]? = some y → ∃ x, l[i]? = some x ∧ F x y
  | _, _, i, y, .nil, e => by simp at e
  | _, _, 0, y, .cons h _, e => by
    simp at e
    subst e
    exact ⟨_, rfl, h⟩
  | _, _, i + 1, y, .cons _ t, e => by
    obtain ⟨x, e1, e2⟩ := paired_get' (i := i) (y := y) t (by simpa using e)
    exact ⟨x, by simpa using e1, e2⟩
theorem keeps_I : Keeps RI := fun _ _ _ _ _ _ _ _ h => h
theorem keeps_L {α : Type} {R : Rep α} (k : Keeps R) : Keeps (RL R) := fun S S' H H' v x hs hh ⟨a, vs, e, sa, ha, p⟩ =>
  ⟨a, vs, e, hs a sa, hh a _ sa ha, paired_mono (fun u y => k S S' H H' u y hs hh) p⟩
theorem keeps_T2 {α β : Type} {R : Rep α} {R' : Rep β} (k : Keeps R) (k' : Keeps R') : Keeps (RT2 R R') := fun S S' H H' v x hs hh ⟨a, u, y, e, sa, ha, p, q⟩ =>
  ⟨a, u, y, e, hs a sa, hh a _ sa ha, k _ _ _ _ _ _ hs hh p, k' _ _ _ _ _ _ hs hh q⟩
theorem keeps_TI : Keeps RTI := fun S S' H H' v x hs hh ⟨a, e, sa, ha⟩ => ⟨a, e, hs a sa, hh a _ sa ha⟩
abbrev anyA : Addr → Prop := fun _ => True
abbrev newA (H : Hp) : Addr → Prop := fun b => H b = none
theorem Keeps.same {α : Type} {R : Rep α} (k : Keeps R) {S : Addr → Prop} {H H' : Hp} {v : V} {x : α} (h : R S H v x) (s : Same H H') : R S H' v x := k S S H H' v x (fun _ z => z) (fun b o _ => s b o) h
theorem Keeps.any {α : Type} {R : Rep α} (k : Keeps R) {S : Addr → Prop} {H : Hp} {v : V} {x : α} (h : R S H v x) : R anyA H v x := k S anyA H H v x (fun _ _ => trivial) (fun b o _ e => e) h
theorem Keeps.mono {α : Type} {R : Rep α} (k : Keeps R) {S S' : Addr → Prop} {H : Hp} {v : V} {x : α} (h : R S H v x) (m : ∀ b, S b → S' b) : R S' H v x := k S S' H H v x m (fun b o _ e => e) h
theorem Keeps.older {α : Type} {R : Rep α} (k : Keeps R) {H0 H : Hp} {H' : Hp} {v : V} {x : α} (h : R (newA H) H' v x) (s : Same H0 H) : R (newA H0) H' v x := k.mono h fun _ z => s.free z
theorem Keeps.tracked {α : Type} {R : Rep α} (k : Keeps R) {S : Addr → Prop} {H : Hp} {v : V} {x : α} (h : R S H v x) (m : ∀ b o, S b → H b = some o → H b = some o) : R S H v x := h
theorem vals_ri {S : Addr → Prop} {H : Hp} : ∀ {vs : List V} {ns : List Int}, Paired (RI S H) vs ns → vs = ns.map V.int
  | _, _, .nil => rfl
  | _, _, .cons h t => by
    rw [List.map_cons, ← vals_ri t]
    cases h
    rfl
theorem ri_vals {S : Addr → Prop} {H : Hp} : ∀ ns : List Int, Paired (RI S H) (ns.map V.int) ns
  | [] => .nil
  | n :: r => .cons rfl (ri_vals r)
theorem rl_int {S : Addr → Prop} {H : Hp} {v : V} {ns : List Int} (h : RL RI S H v ns) : ∃ a, v = .ref a ∧ S a ∧ H a = some (.lst (ns.map V.int)) := by
  obtain ⟨a, vs, e, sa, ha, p⟩ := h
  rw [vals_ri p] at ha
  exact ⟨a, e, sa, ha⟩
theorem int_rl {S : Addr → Prop} {H : Hp} {a : Addr} {ns : List Int} (sa : S a) (ha : H a = some (.lst (ns.map V.int))) : RL RI S H (.ref a) ns := ⟨a, _, rfl, sa, ha, ri_vals ns⟩
/-- the promise of a def that hands back new data -/
def Ret {α : Type} (R : Rep α) (H : Hp) (Q : VK) (x : α) : Prop := ∀ H' v, Same H H' → R (newA H) H' v x → Q v H'
theorem same_new {H : Hp} {p : Addr} {o : HO} (h : H p = none) : Same H (upd H p o) := fun b x e => by
  rw [upd_ne (ne_of_none e h)]
  exact e
theorem same_but {H0 H : Hp} {p : Addr} {o : HO} (s : Same H0 H) (h : H0 p = none) : Same H0 (upd H p o) := fun b x e => by
  rw [upd_ne (ne_of_none e h)]
  exact s b x e

/-! ### a comprehension that makes new data -/
theorem lc_rep {β : Type} {R : Rep β} (hk : Keeps R) {J : It} {n : Nat} {G : Hp → Prop} {Y : Nat → Hp → V → Hp → Prop} (w : Walk J n G Y) {g : TG} {tt : TT} {te : TE} {vs : List Nat} {σ : L2.St} {H1 : Hp} {D : Addr} {Qd : Hp → Prop} (nD : H1 D = none)
    (out : Nat → List β) (h0 : out 0 = []) (hz : ∀ i, i < n → (out i).length < sizeLine) (hG : ∀ H, Same H1 H → G H)
    (hs : ∀ i x H H', i < n → Same H1 H → Y i H x H' → ∀ (Kn : Hp → Prop) (Ky : V → Hp → Prop), (∀ H3, Same H H3 → out (i + 1) = out i → Kn H3) →
      (∀ y z H4, Same H H4 → R (newA H) H4 y z → out (i + 1) = out i ++ [z] → Ky y H4) →
      g x (wipe σ vs) H' fun σ2 H2 => wipe σ2 vs = wipe σ vs ∧ tt σ2 H2 fun b H3 => if b = true then te σ2 H3 Ky else Kn H3)
    (hd : ∀ H', Same H1 H' → RL R (newA H1) H' (.ref D) (out n) → Qd H') :
    ∃ Wd : Nat → Nat → Hp → Prop, (∃ k, Wd 0 k (upd H1 D (.lst []))) ∧ ∀ i k Hi, Wd i k Hi →
      (J.stop i Hi ∧ Qd Hi) ∨ (J.go i Hi ∧ ∃ Next : Hp → Prop, (∀ Hn, Next Hn → ∃ k', k' < k ∧ Wd (i + 1) k' Hn) ∧ ∀ x Hx, J.yld i Hi x Hx → g x (wipe σ vs) Hx fun σt Ht => wipe σt vs = wipe σ vs ∧ tt σt Ht fun c Hc =>
        if c = true then te σt Hc fun u Hu => ∃ ys, Hu D = some (.lst ys) ∧ ys.length < sizeLine ∧ Next (upd Hu D (.lst (ys ++ [u]))) else Next Hc) := by
  refine lc_it w (fun i H => Same H1 H ∧ ∃ acc, H D = some (.lst acc) ∧ Paired (R (fun b => H1 b = none ∧ b ≠ D) H) acc (out i)) ⟨same_new nD, [], upd_same, by rw [h0]; exact .nil⟩ (fun i H _ h => hG H h.1) ?_ ?_
  · rintro i x H H' hi ⟨s1, acc, eD, pa⟩ y
    refine hs i x H H' hi s1 y _ _ (fun H3 s3 e => ⟨s1.trans s3, acc, s3 _ _ eD, ?_⟩) fun u z H4 s4 r e => ⟨acc, s4 _ _ eD, by rw [paired_len pa]; exact hz i hi, same_but (s1.trans s4) nD, _, upd_same, ?_⟩
    · rw [e]
      exact paired_mono (fun a b q => hk _ _ _ _ _ _ (fun _ z => z) (fun c o _ => s3 c o) q) pa
    · rw [e]
      have nb : ∀ b, H b = none → H1 b = none ∧ b ≠ D := fun b hb => ⟨s1.free hb, fun z => by
        rw [z, eD] at hb
        cases hb⟩
      refine paired_snoc (hk _ _ _ _ _ _ nb (fun b o hb q => ?_) r) (paired_mono (fun a b q => hk _ _ _ _ _ _ (fun _ z => z) (fun c o hc q' => ?_) q) pa)
      · rw [upd_ne (nb b hb).2]
        exact q
      · rw [upd_ne hc.2]
        exact s4 _ _ q'
  · rintro H ⟨s1, acc, eD, pa⟩
    exact hd H s1 ⟨D, acc, rfl, nD, eD, paired_mono (fun a b q => hk _ _ _ _ _ _ (fun _ z => z.1) (fun _ _ _ e => e) q) pa⟩
/-! ### walks by what the items stand for -/
section
variable {K : PySem.W.Frag} {a : Addr}
theorem walk_listR {β : Type} {F : V → β → Prop} {vs : List V} {zs : List β} (p : Paired F vs zs) : Walk (Itl K a) zs.length (fun H => SqL K H a vs) (fun i H x H' => H' = H ∧ ∃ z, zs[i]? = some z ∧ F x z) := by
  have w := walk_list (K := K) (a := a) (xs := vs)
  rw [paired_len p] at w
  exact w.mono (fun _ h => h) fun i H x H' hi _ y => ⟨y.1, paired_get p y.2⟩
theorem walk_enumR {β : Type} {F : V → β → Prop} {vs : List V} {zs : List β} (p : Paired F vs zs) : Walk (Ite K a) zs.length (fun H => SqL K H a vs) (fun i H v H' => ∃ T x z, v = .ref T ∧ H T = none ∧ H' = upd H T (.tup [.int (i : Nat), x]) ∧ zs[i]? = some z ∧ F x z) := by
  have w := walk_enum (K := K) (a := a) (xs := vs)
  rw [paired_len p] at w
  refine w.mono (fun _ h => h) fun i H v H' hi _ ⟨T, x, y, e, nT, eH, e1, e2⟩ => ?_
  cases e1
  obtain ⟨z, ez, fz⟩ := paired_get p e2
  exact ⟨T, y, z, e, nT, eH, ez, fz⟩
theorem pair_ints : ∀ ns : List Int, Paired (fun (x : V) (z : Int) => x = .int z) (ns.map V.int) ns
  | [] => .nil
  | n :: r => .cons rfl (pair_ints r)
theorem walk_listI {ns : List Int} : Walk (Itl K a) ns.length (fun H => SqL K H a (ns.map V.int)) (fun i H x H' => H' = H ∧ ∃ z, ns[i]? = some z ∧ x = .int z) := walk_listR (pair_ints ns)
theorem walk_enumI {ns : List Int} : Walk (Ite K a) ns.length (fun H => SqL K H a (ns.map V.int)) (fun i H v H' => ∃ T z, v = .ref T ∧ H T = none ∧ H' = upd H T (.tup [.int (i : Nat), .int z]) ∧ ns[i]? = some z) :=
  (walk_enumR (pair_ints ns)).mono (fun _ h => h) fun i H v H' _ _ ⟨T, x, z, e, nT, eH, ez, ex⟩ => ⟨T, z, e, nT, by rw [eH, ex], ez⟩
end
theorem lc_if {te : TE} {σ : L2.St} {H : Hp} {Ky : V → Hp → Prop} {Kn : Hp → Prop} {b : Bool} (h1 : b = true → te σ H Ky) (h0 : b = false → Kn H) : if b = true then te σ H Ky else Kn H := by
  cases b with
  | true =>
    rw [if_pos rfl]
    exact h1 rfl
  | false =>
    rw [if_neg Bool.false_ne_true]
    exact h0 rfl
theorem lc_yes {te : TE} {σ : L2.St} {H : Hp} {Ky : V → Hp → Prop} {Kn : Hp → Prop} (h : te σ H Ky) : tYes σ H fun b H3 => if b = true then te σ H3 Ky else Kn H3 := by
  show if true = true then te σ H Ky else Kn H
  rw [if_pos rfl]
  exact h
def topS (i : Nat) : Stmt := PySem.Challenge.pw_swapstars_k55_whole_counts_by_pictures.main.body.getD i (.Pass ⟨0, 0, 0, 0⟩)
end Ct
namespace Ct
open PySem PySem.Spec PyProof.Rows L2
abbrev sKB : Stmt := topS 6
abbrev sKi : Stmt := topS 7
theorem scKB : FnScope ["n", "most", "found", "first", "rest"] ["n", "most"] (defScope sKB) := ⟨rfl, rfl, rfl, by decide +kernel, rfl, by decide +kernel, by decide +kernel⟩
def spKB (d : Nat) : Sp := fun vs H Q _ => ∃ n most : Nat, vs = [.int n, .int most] ∧ n ≤ d ∧ d ≤ 10 ∧ most ≤ 10 ∧ Ret (RL (RL RI)) H Q (kindsF d n most)
theorem keeps_LI : Keeps (RL RI) := keeps_L keeps_I
theorem keeps_LLI : Keeps (RL (RL RI)) := keeps_L keeps_LI
theorem kF_small : ∀ d, d < 11 → ∀ n, n < 11 → ∀ m, m < 11 → (kindsF d n m).length ≤ 100 ∧ ∀ z ∈ kindsF d n m, z.length ≤ 10 := by decide +kernel
section
variable {P : Program} {w : World} {K : PySem.W.Frag} {mg : Str → Option Value} {base : Heap}
theorem ok_kb {f : Addr} {fd : FuncData} (F : Fun K "kinds_below" "kinds_below" sKB f fd) (bF : Binds K fd ["n", "most"] []) (gF : mg "kinds_below" = some (.ref f)) (mr : mg "range" = none) (mm : mg "min" = none) :
    ∀ d, FnOk P w K mg base CX0 (d + 1) f fd ["n", "most"] (spKB d) := by
  intro d
  induction d with
  | zero =>
    refine F.ok scKB (fun vs H Q E h => ?_) (fun cdv A outer s H vs Q E hr h => ?_)
    · obtain ⟨n, m, rfl, _⟩ := h
      rfl
    · obtain ⟨n, most, rfl, hn, hd, hm, q⟩ := h
      obtain rfl : n = 0 := by omega
      refine ⟨_, pss_cons (ps_if (pt_cmpR op_eq (pv 0) pe_int (nomark _)) (pss_one (ps_ret (pe_lst (pa_cons (pe_lst pa_nil) pa_nil)))) pss_nil) pss_never, ?_⟩
      refine ⟨_, rfl, rfl, _, rfl, iteT ?_⟩
      refine ⟨by decide, fun p np => ⟨(by show 1 ≤ sizeLine; decide), fun p' np' => ?_⟩⟩
      have hpp : p ≠ p' := fun e => by
        rw [← e, upd_same] at np'
        cases np'
      refine q _ _ ((same_new np).trans (same_new np')) ⟨p', [.ref p], rfl, (same_new np).free np', upd_same, .cons ⟨p, [], rfl, np, ?_, .nil⟩ .nil⟩
      rw [upd_ne hpp, upd_same]
  | succ d ih =>
    refine F.ok scKB (fun vs H Q E h => ?_) (fun cdv A outer s H vs Q E hr h => ?_)
    · obtain ⟨n, m, rfl, _⟩ := h
      rfl
    · obtain ⟨n, most, rfl, hn, hd, hm, q⟩ := h
      refine ⟨_, pss_cons (ps_if (pt_cmpR op_eq (pv 0) pe_int (nomark _)) (pss_one (ps_ret (pe_lst (pa_cons (pe_lst pa_nil) pa_nil)))) pss_nil)
        (pss_cons (ps_set (i := 2) scKB.nd rfl (.inl rfl) (pe_lst pa_nil))
        (pss_cons (ps_for PassesOwn.never rfl (pi_range2 (by rfl) mr (pa_cons pe_int (pa_cons (pe_op op_add (pe_callB (call_min2 rfl) (by rfl) mm (by decide +kernel) (pa_cons (pv 0) (pa_cons (pv 1) pa_nil))) pe_int) pa_nil)))
            (pg_name (i := 3) scKB.nd rfl (.inr rfl))
          (pss_one (ps_expr (pe_bm PySem.F.plainAttrs_list PySem.F.slot_list_extend PySem.F.type_list_extend mt_extend (pv 2)
            (pa_cons (pe_lc (own := [("rest", 4)]) rfl scKB.nd (pi_list (pe_call ih hr (by rfl) gF F.kp bF .nil pass0 (pa_cons (pe_op op_sub (pv 0) (pv 3)) (pa_cons (pv 3) pa_nil))))
                (blkOk_by (own := [("rest", 4)]) (N := ["n", "most", "found", "first", "rest"]) (sc := defScope sKB) (by decide +kernel)) (fun _ _ _ _ _ => pg_name (i := 4) scKB.nd rfl (Or.inl rfl)) (fun _ _ _ _ _ => pts_nil)
                (fun _ _ _ _ _ => pe_op op_cat (pe_lst (pa_cons (pv 3) pa_nil)) (pv 4))) pa_nil)))))
        (pss_one (ps_ret (pv 2))))), ?_⟩
      refine ⟨_, rfl, rfl, _, rfl, ite2 (fun e => ?_) (fun e => ?_)⟩
      · have e0 : n = 0 := by
          have := V.int.inj (of_decide_eq_true e)
          omega
        subst e0
        refine ⟨by decide, fun p np => ⟨(by show 1 ≤ sizeLine; decide), fun p' np' => ?_⟩⟩
        have hpp : p ≠ p' := fun e => by
          rw [← e, upd_same] at np'
          cases np'
        refine q _ _ ((same_new np).trans (same_new np')) ⟨p', [.ref p], rfl, (same_new np).free np', upd_same, ?_⟩
        refine .cons ⟨p, [], rfl, np, ?_, .nil⟩ .nil
        rw [upd_ne hpp, upd_same]
      · have n0 : n ≠ 0 := fun z => e (by
          subst z
          exact decide_eq_true rfl)
        refine ⟨by decide, fun o no => ?_⟩
        have ej : (if (most : Int) < (n : Int) then (most : Int) else (n : Int)) = ((min n most : Nat) : Int) := by
          split <;> omega
        refine ⟨.int n, rfl, .int most, rfl, n, most, rfl, _, _, rfl, rfl, 1, _, rfl, ?_, ?_⟩
        · rw [ej]
          omega
        rw [ej, show (((min n most : Nat) : Int) + 1 - 1).toNat = min n most by omega]
        let outK : Nat → List (List Int) := fun i => (List.range i).flatMap fun j => (kindsF d (n - (j + 1)) (j + 1)).map ((((j + 1 : Nat)) : Int) :: ·)
        have esc : ∀ i, outK (i + 1) = outK i ++ (kindsF d (n - (i + 1)) (i + 1)).map ((((i + 1 : Nat)) : Int) :: ·) := fun i => by
          show List.flatMap _ (List.range (i + 1)) = _
          rw [List.range_succ, List.flatMap_append, List.flatMap_singleton]
        have s0 : Same H (upd H o (.lst [])) := same_new no
        refine for_range (lo := 1) (n := min n most) (fun i σ H2 => ∃ y3 y4, σ = [some (.int n), some (.int most), some (.ref o), y3, y4] ∧ Same H H2 ∧
            ∃ acc, H2 o = some (.lst acc) ∧ Paired (RL RI (fun b => H b = none ∧ b ≠ o) H2) acc (outK i))
          ⟨none, none, rfl, s0, [], upd_same, .nil⟩ ?_ ?_
        · rintro i σ H2 hi ⟨y3, y4, rfl, s2, acc, eo, pa⟩
          have hi1 : i < n := by omega
          refine ⟨.ref o, rfl, .inl ⟨rfl, _, SqL.of eo⟩, ?_⟩
          refine ⟨.int n, rfl, .int (1 + (i : Int)), rfl, _, _, rfl, rfl, .int (1 + (i : Int)), rfl, n - (i + 1), i + 1, ?_, by omega, by omega, by omega, fun H3 v s3 r => ?_⟩
          · show [V.int ((n : Int) - (1 + (i : Int))), V.int (1 + (i : Int))] = _
            rw [show (n : Int) - (1 + (i : Int)) = ((n - (i + 1) : Nat) : Int) by omega, show (1 + (i : Int)) = ((i + 1 : Nat) : Int) by omega]
          obtain ⟨a, vs, rfl, sa, ha, pv⟩ := r
          refine ⟨a, rfl, ⟨vs, SqL.of ha⟩, fun D nD => ?_⟩
          have sm := kF_small d (by omega) (n - (i + 1)) (by omega) (i + 1) (by omega)
          have lv := paired_len pv
          refine lc_rep keeps_LI (walk_list (K := K) (a := a) (xs := vs)) nD (fun j => ((kindsF d (n - (i + 1)) (i + 1)).take j).map ((((i + 1 : Nat)) : Int) :: ·)) rfl (fun j hj => ?_) (fun H' s' => s'.seq (SqL.of ha)) ?_ ?_
          · rw [List.length_map, List.length_take]
            exact small1000 (by omega)
          · rintro j x H4 _ hj s4 ⟨rfl, ex⟩ Kn Ky kn ky
            obtain ⟨z, ez, rz⟩ := paired_get pv ex
            obtain ⟨b, rfl, _, hb⟩ := rl_int (keeps_LI.same rz s4)
            have hz : z.length ≤ 10 := sm.2 z (List.mem_of_getElem? ez)
            refine ⟨rfl, lc_yes ⟨.int (1 + (i : Int)), rfl, (by show 1 ≤ sizeLine; decide), fun p np => ?_⟩⟩
            refine ⟨.ref b, rfl, p, b, [.int (1 + (i : Int))], z.map V.int, rfl, rfl, upd_same, ?_, ?_, fun p' np' => ?_⟩
            · rw [upd_ne (ne_of_none hb np)]
              exact hb
            · rw [List.length_map]
              exact Nat.le_of_lt (small1000 (by show 1 + z.length ≤ 1000; omega))
            refine ky _ ((((i + 1 : Nat)) : Int) :: z) _ ((same_new np).trans (same_new np')) (int_rl ((same_new np).free np') ?_) ?_
            · rw [upd_same, List.map_cons, show (1 + (i : Int)) = ((i + 1 : Nat) : Int) by omega]
              rfl
            · rw [List.take_add_one, ez, List.map_append]
              rfl
          · intro H5 s5 r5
            rw [lv, List.take_length] at r5
            obtain ⟨D', new, e, sD, hD, pn⟩ := r5
            cases e
            have s25 : Same H2 H5 := s3.trans s5
            have eo5 := s25 _ _ eo
            refine ⟨o, D, acc, new, rfl, rfl, eo5, hD, ?_, ?_⟩
            · rw [paired_len pa, paired_len pn, List.length_map]
              have l1 := (kF_small (d + 1) (by omega) n (by omega) i (by omega)).1
              have e1 : kindsF (d + 1) n i = outK (min n i) := if_neg n0
              rw [e1, show min n i = i by omega] at l1
              exact Nat.le_of_lt (small1000 (by omega))
            · refine ⟨_, _, rfl, same_but (s2.trans s25) no, _, upd_same, ?_⟩
              rw [esc]
              refine paired_app (paired_mono (fun u y h => keeps_LI _ _ _ _ _ _ (fun _ z => z) (fun b x hb e => ?_) h) pa) (paired_mono (fun u y h => keeps_LI _ _ _ _ _ _ (fun b hb => ?_) (fun b x hb e => ?_) h) pn)
              · rw [upd_ne hb.2]
                exact s25 _ _ e
              · have hb2 : H2 b = none := s3.free hb
                exact ⟨s2.free hb2, fun z => by
                  rw [z, eo] at hb2
                  cases hb2⟩
              · have hb2 : H2 b = none := s3.free hb
                rw [upd_ne (fun z => by
                  rw [z, eo] at hb2
                  cases hb2)]
                exact e
        · rintro σ H2 ⟨y3, y4, rfl, s2, acc, eo, pa⟩
          refine ⟨.ref o, rfl, q H2 _ s2 ⟨o, acc, rfl, no, eo, ?_⟩⟩
          have ek : kindsF (d + 1) n most = outK (min n most) := if_neg n0
          rw [ek]
          exact paired_mono (fun a b z => keeps_LI.mono z fun _ y => y.1) pa
end
end Ct
namespace Ct
open PySem PySem.Spec PyProof.Rows L2
/-- what the module's names hold where they are built-ins -/
structure Bn (mg : Str → Option Value) : Prop where
  range : mg "range" = none
  min : mg "min" = none
  len : mg "len" = none
  sorted : mg "sorted" = none
  enumerate : mg "enumerate" = none
  int : mg "int" = none
  tuple : mg "tuple" = none
  sum : mg "sum" = none
  list : mg "list" = none
  abs : mg "abs" = none
  isinstance : mg "isinstance" = none
  bool : mg "bool" = none
  set : mg "set" = none
  max : mg "max" = none
/-! ### mathematics of the small ones -/
def fct : Nat → Int
  | 0 => 1
  | i + 1 => fct i * (2 + (i : Int))
theorem ins_perm (x : Int) : ∀ l : List Int, (ins x l).Perm (x :: l)
  | [] => .refl _
  | y :: r => by
    unfold ins
    split
    · exact .refl _
    · exact ((ins_perm x r).cons y).trans (.swap x y r)
theorem fall_perm : ∀ l : List Int, (fall l).Perm l
  | [] => .refl _
  | x :: r => (ins_perm x (fall r)).trans ((fall_perm r).cons x)
theorem ins_sorted (x : Int) : ∀ l : List Int, l.Pairwise (· ≥ ·) → (ins x l).Pairwise (· ≥ ·)
  | [], _ => by simp [ins]
  | y :: r, h => by
    have h' := List.pairwise_cons.mp h
    unfold ins
    by_cases e : y ≤ x
    · rw [if_pos e]
      refine List.pairwise_cons.mpr ⟨fun z hz => ?_, h⟩
      rcases List.mem_cons.mp hz with rfl | hz
      · exact e
      · exact Int.le_trans (h'.1 z hz) e
    · rw [if_neg e]
      refine List.pairwise_cons.mpr ⟨fun z hz => ?_, ins_sorted x r h'.2⟩
      rcases List.mem_cons.mp ((ins_perm x r).mem_iff.mp hz) with rfl | hz
      · show z ≤ y
        omega
      · exact h'.1 z hz
theorem fall_sorted : ∀ l : List Int, (fall l).Pairwise (· ≥ ·)
  | [] => .nil
  | x :: r => ins_sorted x _ (fall_sorted r)
theorem fall_eq {l m : List Int} (p : m.Perm l) (o : m.Pairwise (· ≥ ·)) : m = fall l :=
  List.Perm.eq_of_pairwise (fun x y _ _ h1 h2 => Int.le_antisymm h2 h1) o (fall_sorted l) (p.trans (fall_perm l).symm)
theorem fall_len (l : List Int) : (fall l).length = l.length := (fall_perm l).length_eq
abbrev sPr : Stmt := topS 8
abbrev sPw : Stmt := topS 9
abbrev sFa : Stmt := topS 10
abbrev sWi : Stmt := topS 11
theorem scKi : FnScope ["n"] ["n"] (defScope sKi) := ⟨rfl, rfl, rfl, by decide +kernel, rfl, by decide +kernel, by decide +kernel⟩
theorem scPr : FnScope ["n", "found", "number"] ["n"] (defScope sPr) := ⟨rfl, rfl, rfl, by decide +kernel, rfl, by decide +kernel, by decide +kernel⟩
theorem scPw : FnScope ["number", "m", "found", "k"] ["number", "m"] (defScope sPw) := ⟨rfl, rfl, rfl, by decide +kernel, rfl, by decide +kernel, by decide +kernel⟩
theorem scFa : FnScope ["numbers"] ["numbers"] (defScope sFa) := ⟨rfl, rfl, rfl, by decide +kernel, rfl, by decide +kernel, by decide +kernel⟩
theorem scWi : FnScope ["kind", "places", "at", "number"] ["kind", "places"] (defScope sWi) := ⟨rfl, rfl, rfl, by decide +kernel, rfl, by decide +kernel, by decide +kernel⟩
def spKi : Sp := fun vs H Q _ => ∃ n : Nat, vs = [.int n] ∧ n ≤ 10 ∧ Ret (RL (RL RI)) H Q (K n)
def spPr : Sp := fun vs H Q _ => ∃ n : Nat, vs = [.int n] ∧ n ≤ 10 ∧ Q (.int (fct (n - 1))) H
def spPw : Sp := fun vs H Q _ => ∃ (x : Int) (m : Nat), vs = [.int x, .int m] ∧ m ≤ 20 ∧ (-(2 ^ 64) < x ∧ x < 2 ^ 64) ∧ Q (.int (x ^ m)) H
def spFa : Sp := fun vs H Q _ => ∃ (v : V) (ns : List Int), vs = [v] ∧ RL RI anyA H v ns ∧ Ret (RL RI) H Q (fall ns)
def spWi : Sp := fun vs H Q _ => ∃ (v u : V) (ns ps : List Int), vs = [v, u] ∧ RL RI anyA H v ns ∧ RTI anyA H u ps ∧ ns.length ≤ 20 ∧ Ret (RL RI) H Q (without ns ps)
section
variable {P : Program} {w : World} {K : PySem.W.Frag} {mg : Str → Option Value} {base : Heap} {f : Addr} {fd : FuncData}
theorem ok_ki {g : Addr} {gd : FuncData} (F : Fun K "kinds" "kinds" sKi f fd) (B : Bn mg) (FK : Fun K "kinds_below" "kinds_below" sKB g gd) (bK : Binds K gd ["n", "most"] []) (gK : mg "kinds_below" = some (.ref g)) : FnOk P w K mg base CX0 12 f fd ["n"] spKi := by
  have GK : FnOk P w K mg base CX0 11 g gd ["n", "most"] (spKB 10) := ok_kb FK bK gK B.range B.min 10
  refine F.ok scKi (fun vs H Q E h => ?_) (fun cdv A outer s H vs Q E hr h => ?_)
  · obtain ⟨n, rfl, _⟩ := h
    rfl
  · obtain ⟨n, rfl, hn, q⟩ := h
    refine ⟨_, pss_one (ps_ret (pe_call GK hr (by rfl) gK FK.kp bK .nil pass0 (pa_cons (pv 0) (pa_cons (pv 0) pa_nil)))), ?_⟩
    exact ⟨_, rfl, _, rfl, n, n, rfl, hn, by omega, hn, q⟩
theorem ok_pr (F : Fun K "product_to" "product_to" sPr f fd) (B : Bn mg) : FnOk P w K mg base CX0 1 f fd ["n"] spPr := by
  refine F.ok scPr (fun vs H Q E h => ?_) (fun cdv A outer s H vs Q E hr h => ?_)
  · obtain ⟨n, rfl, _⟩ := h
    rfl
  · obtain ⟨n, rfl, hn, q⟩ := h
    refine ⟨_, pss_cons (ps_set (i := 1) scPr.nd rfl (.inl rfl) pe_int)
      (pss_cons (ps_for PassesOwn.never rfl (pi_range2 (by rfl) B.range (pa_cons pe_int (pa_cons (pe_op op_add (pv 0) pe_int) pa_nil))) (pg_name (i := 2) scPr.nd rfl (.inl rfl))
        (pss_one (ps_set (i := 1) scPr.nd rfl (.inl rfl) (pe_op op_mul (pv 1) (pv 2)))))
      (pss_one (ps_ret (pv 1)))), ?_⟩
    refine ⟨_, rfl, _, _, rfl, rfl, 2, _, rfl, by omega, ?_⟩
    rw [show ((n : Int) + 1 - 2).toNat = n - 1 by omega]
    refine for_range (lo := 2) (n := n - 1) (fun i σ H2 => ∃ y, σ = [some (.int n), some (.int (fct i)), y] ∧ H2 = H) ⟨none, rfl, rfl⟩ ?_ ?_
    · rintro i σ H2 hi ⟨y, rfl, rfl⟩
      refine ⟨_, rfl, _, rfl, _, _, rfl, rfl, .inr ⟨by omega, by omega⟩, _, rfl, rfl⟩
    · rintro σ H2 ⟨y, rfl, rfl⟩
      exact ⟨_, rfl, q⟩
theorem ok_pw (F : Fun K "power" "power" sPw f fd) (B : Bn mg) : FnOk P w K mg base CX0 1 f fd ["number", "m"] spPw := by
  refine F.ok scPw (fun vs H Q E h => ?_) (fun cdv A outer s H vs Q E hr h => ?_)
  · obtain ⟨x, m, rfl, _⟩ := h
    rfl
  · obtain ⟨x, m, rfl, hm, hx, q⟩ := h
    refine ⟨_, pss_cons (ps_set (i := 2) scPw.nd rfl (.inl rfl) pe_int)
      (pss_cons (ps_for PassesOwn.never rfl (pi_range1 (by rfl) B.range (pa_cons (pv 1) pa_nil)) (pg_name (i := 3) scPw.nd rfl (.inl rfl))
        (pss_one (ps_set (i := 2) scPw.nd rfl (.inl rfl) (pe_op op_mul (pv 2) (pv 0)))))
      (pss_one (ps_ret (pv 2)))), ?_⟩
    refine ⟨_, rfl, _, rfl, by omega, by omega, ?_⟩
    rw [show ((m : Int)).toNat = m by omega]
    refine for_range (lo := 0) (n := m) (fun i σ H2 => ∃ y, σ = [some (.int x), some (.int m), some (.int (x ^ i)), y] ∧ H2 = H) ⟨none, by rw [Int.pow_zero]; rfl, rfl⟩ ?_ ?_
    · rintro i σ H2 hi ⟨y, rfl, rfl⟩
      refine ⟨_, rfl, _, rfl, _, _, rfl, rfl, .inr hx, some (.int (0 + (i : Int))), ?_, rfl⟩
      rw [Int.pow_succ]
      rfl
    · rintro σ H2 ⟨y, rfl, rfl⟩
      exact ⟨_, rfl, q⟩
theorem ok_fa (F : Fun K "falling" "falling" sFa f fd) (B : Bn mg) : FnOk P w K mg base CX0 1 f fd ["numbers"] spFa := by
  refine F.ok scFa (fun vs H Q E h => ?_) (fun cdv A outer s H vs Q E hr h => ?_)
  · obtain ⟨v, ns, rfl, _⟩ := h
    rfl
  · obtain ⟨v, ns, rfl, r, q⟩ := h
    obtain ⟨a, rfl, _, ha⟩ := rl_int r
    refine ⟨_, pss_one (ps_ret (pe_callBK (cr_sortedRev (b := true)) (by rfl) B.sorted (by decide +kernel) (pa_cons (pv 0) pa_nil) (pk_cons pe_bl pk_nil))), ?_⟩
    refine ⟨_, rfl, a, ns, rfl, rfl, SqL.of ha, fun ns' p pm od np => ?_⟩
    obtain rfl : ns' = fall ns := fall_eq pm od
    exact q _ _ (same_new np) (int_rl np upd_same)
theorem inV_ints (x : Int) : ∀ ps : List Int, inV (.int x) (ps.map V.int) = ps.contains x
  | [] => rfl
  | y :: r => by
    show (eqV (.int y) (.int x) || inV (.int x) (r.map V.int)) = _
    rw [inV_ints x r, List.contains_cons]
    congr 1
    show decide (y = x) = (x == y)
    by_cases h : x = y
    · subst h
      simp
    · have h' : ¬ y = x := fun e => h e.symm
      simp [h, h']
theorem ok_wi (F : Fun K "without" "without" sWi f fd) (B : Bn mg) : FnOk P w K mg base CX0 1 f fd ["kind", "places"] spWi := by
  refine F.ok scWi (fun vs H Q E h => ?_) (fun cdv A outer s H vs Q E hr h => ?_)
  · obtain ⟨v, u, ns, ps, rfl, _⟩ := h
    rfl
  · obtain ⟨v, u, ns, ps, rfl, r, r', hl, q⟩ := h
    obtain ⟨a, rfl, _, ha⟩ := rl_int r
    obtain ⟨t, rfl, _, ht⟩ := r'
    refine ⟨_, pss_one (ps_ret (pe_lc (own := [("at", 2), ("number", 3)]) (g := gTup K 2 (gCons (gName 2) (gCons (gName 3) gNil))) (tt := tTest (tOp (rIn K true) (tVar 2) (tVar 1))) (te := tVar 3) rfl scWi.nd (pi_enum (by rfl) B.enumerate (pa_cons (pv 0) pa_nil))
      (blkOk_by (own := [("at", 2), ("number", 3)]) (N := ["kind", "places", "at", "number"]) (sc := defScope sWi) (by decide +kernel))
      (fun _ _ _ _ _ => pg_tup rfl (pgs_cons (pg_name (i := 2) scWi.nd rfl (.inl rfl)) (pgs_cons (pg_name (i := 3) scWi.nd rfl (.inl rfl)) pgs_nil)))
      (fun _ _ _ _ _ => pts_one (pt_cmpR op_notIn_seq (pv 2) (pv 1) (by with_unfolding_all rfl))) (fun _ _ _ _ _ => pv 3))), ?_⟩
    refine ⟨_, rfl, a, _, rfl, SqL.of ha, fun D nD => ?_⟩
    refine lc_rep keeps_I (walk_enumI (K := K) (a := a) (ns := ns)) nD (fun j => ((ns.zipIdx.take j).filter fun (p : Int × Nat) => !ps.contains (p.2 : Int)).map (·.1)) rfl (fun j hj => ?_) (fun H' s' => s'.seq (SqL.of ha)) ?_ ?_
    · rw [List.length_map]
      have := List.length_filter_le (fun (p : Int × Nat) => !ps.contains (p.2 : Int)) (ns.zipIdx.take j)
      rw [List.length_take, List.length_zipIdx] at this
      exact small1000 (by omega)
    · rintro j x H4 H5 hj s4 ⟨T, y, rfl, nT, rfl, ey⟩ Kn Ky kn ky
      have ez : ns.zipIdx[j]? = some (y, j) := by
        rw [List.getElem?_zipIdx, ey]
        simp
      have tt := s4 _ _ ht
      have es : ((ns.zipIdx.take (j + 1)).filter fun (p : Int × Nat) => !ps.contains (p.2 : Int)).map (·.1) = ((ns.zipIdx.take j).filter fun (p : Int × Nat) => !ps.contains (p.2 : Int)).map (·.1) ++ (if (!ps.contains (j : Int)) = true then [y] else []) := by
        rw [List.take_add_one, ez, List.filter_append, List.map_append]
        congr 1
        simp only [Option.toList_some, List.filter_cons, List.filter_nil]
        split <;> rfl
      refine ⟨T, _, rfl, SqT.of upd_same, rfl, _, _, rfl, _, _, rfl, rfl, rfl, ?_⟩
      refine ⟨_, rfl, _, rfl, t, ps.map V.int, rfl, .inr (SqT.of ?_), rfl, ?_, _, rfl, ?_⟩
      · rw [upd_ne (ne_of_none tt nT)]
        exact tt
      · simp [flatV]
      · show if (!inV (V.int (j : Int)) (ps.map V.int)) = true then _ else _
        rw [inV_ints]
        refine lc_if (fun c => ?_) fun c => ?_
        · rw [if_pos c] at es
          exact ⟨_, rfl, ky _ y _ (same_new nT) rfl es⟩
        · rw [if_neg (by rw [c]; exact Bool.false_ne_true), List.append_nil] at es
          exact kn _ (same_new nT) es
    · intro H' s' r
      rw [List.take_of_length_le (by rw [List.length_zipIdx]; exact Nat.le_refl _)] at r
      exact q _ _ s' r
end
end Ct
namespace Ct
open PySem PySem.Spec PyProof.Rows L2
/-! ### a list that a loop fills: it stands at o, new since H0 -/
def Acc {α : Type} (R : Rep α) (H0 : Hp) (o : Addr) (H : Hp) (xs : List α) : Prop := Same H0 H ∧ ∃ acc, H o = some (.lst acc) ∧ Paired (R (fun b => H0 b = none ∧ b ≠ o) H) acc xs
section
variable {α : Type} {R : Rep α} {H0 H H' : Hp} {o : Addr} {xs ys : List α} {x : α} {v : V} {Q : VK}
theorem Acc.start (no : H0 o = none) : Acc R H0 o (upd H0 o (.lst [])) [] := ⟨same_new no, [], upd_same, .nil⟩
theorem Acc.same (a : Acc R H0 o H xs) : Same H0 H := a.1
theorem Acc.step (a : Acc R H0 o H xs) (k : Keeps R) (s : Same H H') : Acc R H0 o H' xs := by
  obtain ⟨s0, acc, eo, p⟩ := a
  exact ⟨s0.trans s, acc, s _ _ eo, paired_mono (fun u y h => k _ _ _ _ _ _ (fun _ z => z) (fun b q _ e => s b q e) h) p⟩
theorem Acc.append (a : Acc R H0 o H xs) (k : Keeps R) (no : H0 o = none) (s : Same H H') (r : R (newA H) H' v x) (hl : xs.length < sizeLine) (q : ∀ H2, Acc R H0 o H2 (xs ++ [x]) → (∀ b u, b ≠ o → H' b = some u → H2 b = some u) → Q .non H2) : rAppend (.ref o) [v] H' Q := by
  obtain ⟨s0, acc, eo, p⟩ := a
  have nb : ∀ b, H b = none → H0 b = none ∧ b ≠ o := fun b hb => ⟨s0.free hb, fun z => by
    rw [z, eo] at hb
    cases hb⟩
  refine ⟨o, acc, v, rfl, rfl, s _ _ eo, by rw [paired_len p]; exact hl, q _ ⟨same_but (s0.trans s) no, _, upd_same, ?_⟩ fun b u hb e => by rw [upd_ne hb]; exact e⟩
  refine paired_snoc (k _ _ _ _ _ _ nb (fun b q hb e => ?_) r) (paired_mono (fun u y h => k _ _ _ _ _ _ (fun _ z => z) (fun b q hb e => ?_) h) p)
  · rw [upd_ne (nb b hb).2]
    exact e
  · rw [upd_ne hb.2]
    exact s b q e
theorem Acc.extend {b : Addr} (a : Acc R H0 o H xs) (k : Keeps R) (no : H0 o = none) (s : Same H H') (r : RL R (newA H) H' (.ref b) ys) (hl : xs.length + ys.length ≤ sizeLine) (q : ∀ H2, Acc R H0 o H2 (xs ++ ys) → Q .non H2) : rExtend (.ref o) [.ref b] H' Q := by
  obtain ⟨s0, acc, eo, p⟩ := a
  obtain ⟨b', vs, e, sb, hb, pb⟩ := r
  cases e
  have nb : ∀ b, H b = none → H0 b = none ∧ b ≠ o := fun b hb => ⟨s0.free hb, fun z => by
    rw [z, eo] at hb
    cases hb⟩
  refine ⟨o, b, acc, vs, rfl, rfl, s _ _ eo, hb, by rw [paired_len p, paired_len pb]; exact hl, q _ ⟨same_but (s0.trans s) no, _, upd_same, ?_⟩⟩
  refine paired_app (paired_mono (fun u y h => k _ _ _ _ _ _ (fun _ z => z) (fun b q hb e => ?_) h) p) (paired_mono (fun u y h => k _ _ _ _ _ _ nb (fun b q hb e => ?_) h) pb)
  · rw [upd_ne hb.2]
    exact s b q e
  · rw [upd_ne (nb b hb).2]
    exact e
theorem Acc.done (a : Acc R H0 o H xs) (k : Keeps R) (no : H0 o = none) : RL R (newA H0) H (.ref o) xs := by
  obtain ⟨s0, acc, eo, p⟩ := a
  exact ⟨o, acc, rfl, no, eo, paired_mono (fun u y h => k.mono h fun _ z => z.1) p⟩
theorem Acc.at (a : Acc R H0 o H xs) : ∃ acc, H o = some (.lst acc) := let ⟨_, acc, e, _⟩ := a; ⟨acc, e⟩
end
abbrev sJo : Stmt := topS 12
abbrev sCu : Stmt := topS 13
abbrev sFi : Stmt := topS 14
theorem scJo : FnScope ["kind", "found", "i", "j"] ["kind"] (defScope sJo) := ⟨rfl, rfl, rfl, by decide +kernel, rfl, by decide +kernel, by decide +kernel⟩
theorem scCu : FnScope ["kind", "found", "at", "number", "part", "ways"] ["kind"] (defScope sCu) := ⟨rfl, rfl, rfl, by decide +kernel, rfl, by decide +kernel, by decide +kernel⟩
theorem scFi : FnScope ["n", "kind"] ["n"] (defScope sFi) := ⟨rfl, rfl, rfl, by decide +kernel, rfl, by decide +kernel, by decide +kernel⟩
abbrev RKW : Rep (List Int × Int) := RT2 (RL RI) RI
theorem keeps_KW : Keeps RKW := keeps_T2 keeps_LI keeps_I
def Fit (ns : List Int) : Prop := ns.length ≤ 10 ∧ ∀ x ∈ ns, 0 < x ∧ x ≤ 10
def spJo : Sp := fun vs H Q _ => ∃ (v : V) (ns : List Int), vs = [v] ∧ RL RI anyA H v ns ∧ Fit ns ∧ Ret (RL RKW) H Q (joinsL ns)
def spCu : Sp := fun vs H Q _ => ∃ (v : V) (ns : List Int), vs = [v] ∧ RL RI anyA H v ns ∧ Fit ns ∧ Ret (RL RKW) H Q (cutsL ns)
theorem at_int {ns : List Int} {i : Nat} (h : i < ns.length) : atI (ns.map V.int) (i : Int) = some (.int (ns.getD i 0)) := by
  refine atI_nat ?_
  have e := List.getElem?_eq_getElem h
  rw [List.getElem?_map, List.getD_eq_getElem?_getD, e]
  rfl
theorem getD_mem {ns : List Int} {i : Nat} (h : i < ns.length) : ns.getD i 0 ∈ ns := by
  rw [List.getD_eq_getElem?_getD, List.getElem?_eq_getElem h]
  exact List.getElem_mem h
theorem without_len (ns ps : List Int) : (without ns ps).length ≤ ns.length := by
  unfold without
  rw [List.length_map]
  have := List.length_filter_le (fun (p : Int × Nat) => !ps.contains (p.2 : Int)) ns.zipIdx
  rw [List.length_zipIdx] at this
  exact this
theorem flatMap_range_len {α : Type} (g : Nat → List α) (b : Nat) : ∀ n, (∀ i, i < n → (g i).length ≤ b) → ((List.range n).flatMap g).length ≤ n * b
  | 0, _ => by simp
  | n + 1, h => by
    rw [List.range_succ, List.flatMap_append, List.flatMap_singleton, List.length_append, Nat.succ_mul]
    have h1 := flatMap_range_len g b n fun i hi => h i (by omega)
    have h2 := h n (by omega)
    omega
section
variable {P : Program} {w : World} {K : PySem.W.Frag} {mg : Str → Option Value} {base : Heap} {f g g' : Addr} {fd gd gd' : FuncData}
theorem ok_jo (F : Fun K "joins" "joins" sJo f fd) (B : Bn mg) (FF : Fun K "falling" "falling" sFa g gd) (bF : Binds K gd ["numbers"] []) (gF : mg "falling" = some (.ref g))
    (FW : Fun K "without" "without" sWi g' gd') (bW : Binds K gd' ["kind", "places"] []) (gW : mg "without" = some (.ref g')) : FnOk P w K mg base CX0 2 f fd ["kind"] spJo := by
  have GF : FnOk P w K mg base CX0 1 g gd ["numbers"] spFa := ok_fa FF B
  have GW : FnOk P w K mg base CX0 1 g' gd' ["kind", "places"] spWi := ok_wi FW B
  refine F.ok scJo (fun vs H Q E h => ?_) (fun cdv A outer s H vs Q E hr h => ?_)
  · obtain ⟨v, ns, rfl, _⟩ := h
    rfl
  · obtain ⟨v, ns, rfl, r, fit, q⟩ := h
    obtain ⟨a, rfl, _, ha⟩ := rl_int r
    refine ⟨_, pss_cons (ps_set (i := 1) scJo.nd rfl (.inl rfl) (pe_lst pa_nil))
      (pss_cons (ps_for PassesOwn.never rfl (pi_range1 (by rfl) B.range (pa_cons (pe_callB call_len_seq (by rfl) B.len PySem.boot_len (pa_cons (pv 0) pa_nil)) pa_nil)) (pg_name (i := 2) scJo.nd rfl (.inl rfl))
        (pss_one (ps_for PassesOwn.never rfl (pi_range2 (by rfl) B.range (pa_cons (pe_op op_add (pv 2) pe_int) (pa_cons (pe_callB call_len_seq (by rfl) B.len PySem.boot_len (pa_cons (pv 0) pa_nil)) pa_nil))) (pg_name (i := 3) scJo.nd rfl (.inl rfl))
          (pss_one (ps_expr (pe_bm PySem.F.plainAttrs_list PySem.F.slot_list_append PySem.F.type_list_append mt_append (pv 1)
            (pa_cons (pe_tup (pa_cons (pe_call GF hr (by rfl) gF FF.kp bF .nil pass0 (pa_cons
                (pe_op op_cat (pe_call GW hr (by rfl) gW FW.kp bW .nil pass0 (pa_cons (pv 0) (pa_cons (pe_tup (pa_cons (pv 2) (pa_cons (pv 3) pa_nil))) pa_nil)))
                  (pe_lst (pa_cons (pe_op op_add (pe_ix ix_list (pv 0) (pv 2) (fun _ _ => rfl)) (pe_ix ix_list (pv 0) (pv 3) (fun _ _ => rfl))) pa_nil))) pa_nil))
              (pa_cons (pe_op op_mul (pe_ix ix_list (pv 0) (pv 2) (fun _ _ => rfl)) (pe_ix ix_list (pv 0) (pv 3) (fun _ _ => rfl))) pa_nil))) pa_nil)))))))
      (pss_one (ps_ret (pv 1)))), ?_⟩
    refine ⟨Nat.zero_le _, fun o no => ?_⟩
    have s0 : Same H (upd H o (.lst [])) := same_new no
    have hl := fit.1
    refine ⟨.ref a, rfl, a, _, rfl, .inl (SqL.of (s0 _ _ ha)), _, rfl, by rw [List.length_map]; omega, by rw [List.length_map]; omega, ?_⟩
    rw [List.length_map, show ((ns.length : Int)).toNat = ns.length by omega]
    let elt : Nat → Nat → List Int × Int := fun i j' => (fall (without ns [(i : Int), ((i + 1 + j' : Nat) : Int)] ++ [ns.getD i 0 + ns.getD (i + 1 + j') 0]), ns.getD i 0 * ns.getD (i + 1 + j') 0)
    let out : Nat → List (List Int × Int) := fun i => (List.range i).flatMap fun i => (List.range (ns.length - (i + 1))).map (elt i)
    have ol : ∀ i, i ≤ 10 → (out i).length ≤ 100 := fun i hi => by
      have := flatMap_range_len (fun i => (List.range (ns.length - (i + 1))).map (elt i)) 10 i fun k _ => by
        rw [List.length_map, List.length_range]
        omega
      show ((List.range i).flatMap _).length ≤ 100
      omega
    have osc : ∀ i, out (i + 1) = out i ++ (List.range (ns.length - (i + 1))).map (elt i) := fun i => by
      show List.flatMap _ (List.range (i + 1)) = _
      rw [List.range_succ, List.flatMap_append, List.flatMap_singleton]
    refine for_range (lo := 0) (n := ns.length) (fun i σ H2 => ∃ y2 y3, σ = [some (.ref a), some (.ref o), y2, y3] ∧ Acc RKW H o H2 (out i)) ⟨none, none, rfl, Acc.start no⟩ ?_ ?_
    · rintro i σ H2 hi ⟨y2, y3, rfl, A2⟩
      have ha2 := A2.same _ _ ha
      refine ⟨_, rfl, _, _, rfl, rfl, .ref a, rfl, a, _, rfl, .inl (SqL.of ha2), _, _, rfl, ?_, ?_⟩
      · rw [List.length_map]
        omega
      rw [List.length_map, show (((ns.length : Int)) - (0 + (i : Int) + 1)).toNat = ns.length - (i + 1) by omega]
      refine for_range (lo := 0 + (i : Int) + 1) (n := ns.length - (i + 1)) (fun j σ H2 => ∃ y3, σ = [some (.ref a), some (.ref o), some (.int (0 + (i : Int))), y3] ∧ Acc RKW H o H2 (out i ++ (List.range j).map (elt i))) ⟨y3, rfl, by simpa using A2⟩ ?_ ?_
      · rintro j σ H3 hj ⟨y3, rfl, A3⟩
        obtain ⟨acc, eo⟩ := A3.at
        have ha3 := A3.same _ _ ha
        have ci : (0 + (i : Int)) = (i : Int) := by omega
        have cj : (0 + (i : Int) + 1 + (j : Int)) = ((i + 1 + j : Nat) : Int) := by omega
        refine ⟨.ref o, rfl, .inl ⟨rfl, _, SqL.of eo⟩, ?_⟩
        -- without(kind, (i, j))
        refine ⟨.ref a, rfl, _, rfl, _, rfl, (by show 2 ≤ sizeLine; decide), fun t nt => ?_⟩
        refine ⟨.ref a, .ref t, ns, [(i : Int), ((i + 1 + j : Nat) : Int)], rfl, int_rl trivial (by rw [upd_ne (ne_of_none ha3 nt)]; exact ha3), ⟨t, rfl, trivial, ?_⟩, by omega, fun H4 v4 s4 r4 => ?_⟩
        · rw [upd_same, cj, ci]
          rfl
        have hil : i < ns.length := hi
        have hjl : i + 1 + j < ns.length := by omega
        have s34 : Same H3 H4 := (same_new nt).trans s4
        have ha4 := s34 _ _ ha3
        obtain ⟨l4, rfl, _, h4⟩ := rl_int r4
        have gi : atI (ns.map V.int) (0 + (i : Int)) = some (.int (ns.getD i 0)) := by
          rw [ci]
          exact at_int hil
        have gj : atI (ns.map V.int) (0 + (i : Int) + 1 + (j : Int)) = some (.int (ns.getD (i + 1 + j) 0)) := by
          rw [cj]
          exact at_int hjl
        refine ⟨.ref a, rfl, _, rfl, a, _, _, _, rfl, rfl, SqL.of ha4, gi, .ref a, rfl, _, rfl, a, _, _, _, rfl, rfl, SqL.of ha4, gj, _, _, rfl, rfl, (by show 1 ≤ sizeLine; decide), fun p np => ?_⟩
        refine ⟨l4, p, _, [.int (ns.getD i 0 + ns.getD (i + 1 + j) 0)], rfl, rfl, by rw [upd_ne (ne_of_none h4 np)]; exact h4, upd_same, ?_, fun p' np' => ?_⟩
        · have := without_len ns [(i : Int), ((i + 1 + j : Nat) : Int)]
          rw [List.length_map]
          exact Nat.le_of_lt (small1000 (by
            show _ + 1 ≤ 1000
            omega))
        have s4' := (same_new (o := .lst [.int (ns.getD i 0 + ns.getD (i + 1 + j) 0)]) np).trans (same_new (o := .lst ((without ns [(i : Int), ((i + 1 + j : Nat) : Int)]).map V.int ++ [.int (ns.getD i 0 + ns.getD (i + 1 + j) 0)])) np')
        refine ⟨.ref p', without ns [(i : Int), ((i + 1 + j : Nat) : Int)] ++ [ns.getD i 0 + ns.getD (i + 1 + j) 0], rfl, int_rl trivial (by rw [upd_same, List.map_append]; rfl), fun H5 v5 s5 r5 => ?_⟩
        have s35 := s34.trans (s4'.trans s5)
        have ha5 := s35 _ _ ha3
        have b1 := fit.2 _ (getD_mem hil)
        refine ⟨.ref a, rfl, _, rfl, a, _, _, _, rfl, rfl, SqL.of ha5, gi, .ref a, rfl, _, rfl, a, _, _, _, rfl, rfl, SqL.of ha5, gj, _, _, rfl, rfl, .inl ⟨by omega, by omega⟩, (by show 2 ≤ sizeLine; decide), fun t' nt' => ?_⟩
        have r6 : RL RI (newA H3) (upd H5 t' (.tup [v5, .int (ns.getD i 0 * ns.getD (i + 1 + j) 0)])) v5 (elt i j).1 := keeps_LI.same (keeps_LI.older (keeps_LI.older r5 (s4')) s34) (same_new nt')
        dsimp only [tNil]
        refine A3.append (x := elt i j) keeps_KW no (s35.trans (same_new nt')) ⟨t', v5, _, rfl, s35.free nt', upd_same, r6, rfl⟩ ?_ fun H6 A6 _ => ⟨_, rfl, ?_⟩
        · have l1 := ol i (by omega)
          rw [List.length_append, List.length_map, List.length_range]
          exact small1000 (by omega)
        · rw [List.append_assoc] at A6
          rw [List.range_succ, List.map_append]
          exact A6
      · rintro σ H3 ⟨y3, rfl, A3⟩
        refine ⟨_, _, rfl, ?_⟩
        rw [osc]
        exact A3
    · rintro σ H2 ⟨y2, y3, rfl, A2⟩
      exact ⟨.ref o, rfl, q _ _ A2.same (A2.done keeps_KW no)⟩
theorem ok_cu (F : Fun K "cuts" "cuts" sCu f fd) (B : Bn mg) (FF : Fun K "falling" "falling" sFa g gd) (bF : Binds K gd ["numbers"] []) (gF : mg "falling" = some (.ref g))
    (FW : Fun K "without" "without" sWi g' gd') (bW : Binds K gd' ["kind", "places"] []) (gW : mg "without" = some (.ref g')) : FnOk P w K mg base CX0 2 f fd ["kind"] spCu := by
  have GF : FnOk P w K mg base CX0 1 g gd ["numbers"] spFa := ok_fa FF B
  have GW : FnOk P w K mg base CX0 1 g' gd' ["kind", "places"] spWi := ok_wi FW B
  refine F.ok scCu (fun vs H Q E h => ?_) (fun cdv A outer s H vs Q E hr h => ?_)
  · obtain ⟨v, ns, rfl, _⟩ := h
    rfl
  · obtain ⟨v, ns, rfl, r, fit, q⟩ := h
    obtain ⟨a, rfl, _, ha⟩ := rl_int r
    refine ⟨_, pss_cons (ps_set (i := 1) scCu.nd rfl (.inl rfl) (pe_lst pa_nil))
      (pss_cons (ps_for PassesOwn.never rfl (pi_enum (by rfl) B.enumerate (pa_cons (pv 0) pa_nil)) (pg_tup rfl (pgs_cons (pg_name (i := 2) scCu.nd rfl (.inl rfl)) (pgs_cons (pg_name (i := 3) scCu.nd rfl (.inl rfl)) pgs_nil)))
        (pss_one (ps_for PassesOwn.never rfl (pi_range2 (by rfl) B.range (pa_cons pe_int (pa_cons (pe_op op_add (pe_op op_fdiv (pv 3) pe_int) pe_int) pa_nil))) (pg_name (i := 4) scCu.nd rfl (.inl rfl))
          (pss_cons (ps_set (i := 5) scCu.nd rfl (.inl rfl) (pv 3))
          (pss_cons (ps_if (pt_cmpR op_eq (pe_op op_mul pe_int (pv 4)) (pv 3) (nomark _)) (pss_one (ps_set (i := 5) scCu.nd rfl (.inl rfl) (pv 4))) pss_nil)
          (pss_one (ps_expr (pe_bm PySem.F.plainAttrs_list PySem.F.slot_list_append PySem.F.type_list_append mt_append (pv 1)
            (pa_cons (pe_tup (pa_cons (pe_call GF hr (by rfl) gF FF.kp bF .nil pass0 (pa_cons
                (pe_op op_cat (pe_call GW hr (by rfl) gW FW.kp bW .nil pass0 (pa_cons (pv 0) (pa_cons (pe_tup (pa_cons (pv 2) pa_nil)) pa_nil)))
                  (pe_lst (pa_cons (pv 4) (pa_cons (pe_op op_sub (pv 3) (pv 4)) pa_nil)))) pa_nil))
              (pa_cons (pv 5) pa_nil))) pa_nil)))))))))
      (pss_one (ps_ret (pv 1)))), ?_⟩
    refine ⟨Nat.zero_le _, fun o no => ?_⟩
    have s0 : Same H (upd H o (.lst [])) := same_new no
    have hl := fit.1
    refine ⟨.ref a, rfl, a, _, rfl, SqL.of (s0 _ _ ha), ?_⟩
    let elt : Int × Nat → Nat → List Int × Int := fun p i => (fall (without ns [(p.2 : Int)] ++ [(1 : Int) + i, p.1 - (1 + i)]), if 2 * ((1 : Int) + i) = p.1 then (1 : Int) + i else p.1)
    let out : Nat → List (List Int × Int) := fun i => (ns.zipIdx.take i).flatMap fun p => (List.range (p.1 / 2).toNat).map (elt p)
    have osc : ∀ i y, ns[i]? = some y → out (i + 1) = out i ++ (List.range (y / 2).toNat).map (elt (y, i)) := fun i y e => by
      show List.flatMap _ (ns.zipIdx.take (i + 1)) = _
      have ez : ns.zipIdx[i]? = some (y, i) := by
        rw [List.getElem?_zipIdx, e]
        simp
      rw [List.take_add_one, ez, List.flatMap_append]
      simp [out]
    have ol : ∀ i, i ≤ ns.length → (out i).length ≤ i * 10 := fun i => by
      induction i with
      | zero => intro _; exact Nat.le_refl _
      | succ i ih =>
        intro hi
        rw [osc i _ (List.getElem?_eq_getElem (show i < ns.length by omega)), List.length_append, List.length_map, List.length_range]
        have := ih (by omega)
        have := fit.2 _ (List.getElem_mem (show i < ns.length by omega))
        omega
    refine for_it (walk_enumI (K := K) (a := a) (ns := ns)) (fun i σ H2 => ∃ y2 y3 y4 y5, σ = [some (.ref a), some (.ref o), y2, y3, y4, y5] ∧ Acc RKW H o H2 (out i)) ⟨none, none, none, none, rfl, Acc.start no⟩ (fun i σ H2 _ ⟨_, _, _, _, _, A⟩ => A.same.seq (SqL.of ha)) ?_ ?_
    · rintro i x σ H2 H2' hi ⟨y2, y3, y4, y5, rfl, A2⟩ ⟨T, y, rfl, nT, rfl, ey⟩
      have by' := fit.2 y (List.mem_of_getElem? ey)
      refine ⟨T, _, rfl, SqT.of upd_same, rfl, _, _, rfl, _, _, rfl, rfl, ?_⟩
      refine ⟨_, rfl, _, _, rfl, rfl, ⟨by decide, by decide⟩, _, _, rfl, rfl, 1, _, rfl, by omega, ?_⟩
      rw [show (y / 2 + 1 - 1).toNat = (y / 2).toNat by omega]
      have A2' := A2.step keeps_KW (same_new (o := .tup [.int (i : Nat), .int y]) nT)
      refine for_range (lo := 1) (n := (y / 2).toNat) (fun j σ H2 => ∃ y4 y5, σ = [some (.ref a), some (.ref o), some (.int (i : Nat)), some (.int y), y4, y5] ∧ Acc RKW H o H2 (out i ++ (List.range j).map (elt (y, i)))) ⟨y4, y5, rfl, by simpa using A2'⟩ ?_ ?_
      · rintro j σ H3 hj ⟨y4, y5, rfl, A3⟩
        obtain ⟨acc, eo⟩ := A3.at
        have ha3 := A3.same _ _ ha
        refine ⟨_, rfl, _, rfl, _, _, rfl, rfl, .inl ⟨by decide, by decide⟩, _, rfl, rfl, _, rfl, ite2 (fun c => ⟨_, rfl, ?_⟩) (fun c => ?_)⟩
        all_goals
          first
            | have hw : (elt (y, i) j).2 = 1 + (j : Int) := if_pos (V.int.inj (of_decide_eq_true c))
            | have hw : (elt (y, i) j).2 = y := if_neg (fun z => c (decide_eq_true (congrArg V.int z)))
          refine ⟨.ref o, rfl, .inl ⟨rfl, _, SqL.of eo⟩, ?_⟩
          refine ⟨.ref a, rfl, _, rfl, (by show 1 ≤ sizeLine; decide), fun t nt => ?_⟩
          refine ⟨.ref a, .ref t, ns, [(i : Int)], rfl, int_rl trivial (by rw [upd_ne (ne_of_none ha3 nt)]; exact ha3), ⟨t, rfl, trivial, upd_same⟩, by omega, fun H4 v4 s4 r4 => ?_⟩
          have s34 : Same H3 H4 := (same_new nt).trans s4
          obtain ⟨l4, rfl, _, h4⟩ := rl_int r4
          refine ⟨_, rfl, _, rfl, _, rfl, _, _, rfl, rfl, (by show 2 ≤ sizeLine; decide), fun p np => ?_⟩
          refine ⟨l4, p, _, [.int (1 + (j : Int)), .int (y - (1 + (j : Int)))], rfl, rfl, by rw [upd_ne (ne_of_none h4 np)]; exact h4, upd_same, ?_, fun p' np' => ?_⟩
          · have := without_len ns [(i : Int)]
            rw [List.length_map]
            exact Nat.le_of_lt (small1000 (by
              show _ + 2 ≤ 1000
              omega))
          have s4' := (same_new (o := .lst [.int (1 + (j : Int)), .int (y - (1 + (j : Int)))]) np).trans (same_new (o := .lst ((without ns [(i : Int)]).map V.int ++ [.int (1 + (j : Int)), .int (y - (1 + (j : Int)))])) np')
          refine ⟨.ref p', without ns [(i : Int)] ++ [(1 : Int) + j, y - (1 + j)], rfl, int_rl trivial (by rw [upd_same, List.map_append]; rfl), fun H5 v5 s5 r5 => ?_⟩
          have s35 := s34.trans (s4'.trans s5)
          refine ⟨_, rfl, (by show 2 ≤ sizeLine; decide), fun t' nt' => ?_⟩
          dsimp only [tNil]
          have r6 := keeps_LI.same (keeps_LI.older (keeps_LI.older r5 s4') s34) (same_new (o := .tup [v5, .int (elt (y, i) j).2]) nt')
          rw [hw] at r6
          refine A3.append (x := elt (y, i) j) keeps_KW no (s35.trans (same_new nt')) ⟨t', v5, _, rfl, s35.free nt', upd_same, r6, congrArg V.int hw.symm⟩ ?_ fun H6 A6 _ => ⟨_, _, rfl, ?_⟩
          · have l1 := ol i (by omega)
            rw [List.length_append, List.length_map, List.length_range]
            exact small1000 (by omega)
          · rw [List.append_assoc] at A6
            rw [List.range_succ, List.map_append]
            exact A6
      · rintro σ H3 ⟨y4, y5, rfl, A3⟩
        refine ⟨_, _, _, _, rfl, ?_⟩
        rw [osc i y ey]
        exact A3
    · rintro σ H2 ⟨y2, y3, y4, y5, rfl, A2⟩
      refine ⟨.ref o, rfl, q _ _ A2.same ?_⟩
      have e : out ns.length = cutsL ns := by
        show List.flatMap _ (ns.zipIdx.take ns.length) = _
        rw [List.take_of_length_le (by rw [List.length_zipIdx]; exact Nat.le_refl _)]
        rfl
      rw [← e]
      exact A2.done keeps_KW no
end
end Ct
namespace Ct
open PySem PySem.Spec PyProof.Rows L2
/-! ### finite checks -/
theorem K_fit : ∀ n, n < 11 → (K n).length ≤ 42 ∧ (K n).Nodup ∧ ∀ k ∈ K n, k.length ≤ 10 ∧ (∀ x ∈ k, 0 < x ∧ x ≤ 10) ∧ k.sum = n := by decide +kernel
theorem fit_of {n : Nat} (hn : n ≤ 10) {k : List Int} (h : k ∈ K n) : Fit k := ⟨((K_fit n (by omega)).2.2 k h).1, ((K_fit n (by omega)).2.2 k h).2.1⟩
theorem moves_in : ∀ n, n < 11 → ∀ k ∈ K n, (joinsL k ++ cutsL k).length ≤ 200 ∧ ∀ p ∈ joinsL k ++ cutsL k, p.1 ∈ K n ∧ 0 ≤ p.2 ∧ p.2 ≤ 100 := by decide +kernel
/-! ### short names for rules that read K -/
def rLen (K : PySem.W.Frag) : List V → Hp → VK → Prop := fun xs H Q => ∃ p ys, xs = [.ref p] ∧ (SqL K H p ys ∨ SqT K H p ys) ∧ Q (.int ys.length) H
def rTupOf (K : PySem.W.Frag) : List V → Hp → VK → Prop := fun xs H Q => ∃ p ys, xs = [.ref p] ∧ ((SqL K H p ys ∧ ∀ l, H l = none → Q (.ref l) (upd H l (.tup ys))) ∨ (SqT K H p ys ∧ Q (.ref p) H))
def rLstOf (K : PySem.W.Frag) : List V → Hp → VK → Prop := fun xs H Q => ∃ p ys, xs = [.ref p] ∧ (SqL K H p ys ∨ SqT K H p ys) ∧ ∀ l, H l = none → Q (.ref l) (upd H l (.lst ys))
theorem c_len {X : Cx} : CallR X (.builtin "len") (rLen X.K) := call_len_seq
theorem c_tup {X : Cx} : CallR X (.type "tuple") (rTupOf X.K) := call_tuple_of
theorem c_lst {X : Cx} : CallR X (.type "list") (rLstOf X.K) := call_list_of
abbrev sSt : Stmt := topS 15
abbrev sMo : Stmt := topS 16
abbrev sLb : Stmt := topS 17
abbrev sCt : Stmt := topS 18
abbrev sCo : Stmt := topS 19
theorem scSt : FnScope ["n", "places", "at", "kind", "found", "other", "ways"] ["n"] (defScope sSt) := ⟨rfl, rfl, rfl, by decide +kernel, rfl, by decide +kernel, by decide +kernel⟩
theorem scMo : FnScope ["steps", "counts", "some", "at", "ways"] ["steps", "counts"] (defScope sMo) := ⟨rfl, rfl, rfl, by decide +kernel, rfl, by decide +kernel, by decide +kernel⟩
theorem scLb : FnScope ["n", "m"] ["n", "m"] (defScope sLb) := ⟨rfl, rfl, rfl, by decide +kernel, rfl, by decide +kernel, by decide +kernel⟩
theorem scCt : FnScope ["n", "m", "steps", "found", "k"] ["n", "m"] (defScope sCt) := ⟨rfl, rfl, rfl, by decide +kernel, rfl, by decide +kernel, by decide +kernel⟩
theorem scCo : FnScope ["kind", "m", "n"] ["kind", "m"] (defScope sCo) := ⟨rfl, rfl, rfl, by decide +kernel, rfl, by decide +kernel, by decide +kernel⟩
abbrev RII : Rep (Int × Int) := RT2 RI RI
theorem keeps_II : Keeps RII := keeps_T2 keeps_I keeps_I
theorem keeps_LII : Keeps (RL RII) := keeps_L keeps_II
theorem keeps_LLII : Keeps (RL (RL RII)) := keeps_L keeps_LII
def spFi : Sp := fun vs H Q _ => ∃ n : Nat, vs = [.int n] ∧ n ≤ 10 ∧ Ret (RL RI) H Q (firstL n)
def spLb : Sp := fun vs H Q _ => ∃ n m : Nat, vs = [.int n, .int m] ∧ 1 ≤ n ∧ n ≤ 10 ∧ m ≤ 20 ∧ Q .non H
def spSt : Sp := fun vs H Q _ => ∃ n : Nat, vs = [.int n] ∧ n ≤ 10 ∧ Ret (RL (RL RII)) H Q (stepsL n)
def StepsOk (steps : List (List (Int × Int))) (l : Nat) : Prop := steps.length ≤ 100 ∧ ∀ s ∈ steps, s.length ≤ 200 ∧ ∀ p ∈ s, 0 ≤ p.1 ∧ p.1 < l ∧ 0 ≤ p.2 ∧ p.2 ≤ 100
def spMo : Sp := fun vs H Q _ => ∃ (v u : V) (steps : List (List (Int × Int))) (counts : List Int), vs = [v, u] ∧ RL (RL RII) anyA H v steps ∧ RL RI anyA H u counts ∧ StepsOk steps counts.length ∧ Ret (RL RI) H Q (moreL steps counts)
/-- the facts of the module's constants -/
structure Cn (mg : Str → Option Value) : Prop where
  things : ∃ t, mg "MOST_THINGS" = some (.int 10 t)
  exch : ∃ t, mg "MOST_EXCHANGES" = some (.int 20 t)
section
variable {P : Program} {w : World} {K : PySem.W.Frag} {mg : Str → Option Value} {base : Heap} {f g g' : Addr} {fd gd gd' : FuncData}
theorem ok_fi (F : Fun K "first_counts" "first_counts" sFi f fd) (B : Bn mg) (GK : FnOk P w K mg base CX0 12 g gd ["n"] spKi) (kp : PySem.W.keepIn K (.ref g) = true) (bK : Binds K gd ["n"] []) (gK : mg "kinds" = some (.ref g)) : FnOk P w K mg base CX0 13 f fd ["n"] spFi := by
  refine F.ok scFi (fun vs H Q E h => ?_) (fun cdv A outer s H vs Q E hr h => ?_)
  · obtain ⟨n, rfl, _⟩ := h
    rfl
  · obtain ⟨n, rfl, hn, q⟩ := h
    refine ⟨_, pss_one (ps_ret (pe_lc (own := [("kind", 1)]) (g := gName 1) (tt := tYes) (te := tCB _ (tCons (tOp rEq (tCB (rLen K) (tCons (tVar 1) tNil)) (tVar 0)) tNil)) rfl scFi.nd
      (pi_list (pe_call GK hr (by rfl) gK kp bK .nil pass0 (pa_cons (pv 0) pa_nil)))
      (blkOk_by (own := [("kind", 1)]) (N := ["n", "kind"]) (sc := defScope sFi) (by decide +kernel))
      (fun _ _ _ _ _ => pg_name (i := 1) scFi.nd rfl (.inl rfl)) (fun _ _ _ _ _ => pts_nil)
      (fun _ _ _ _ _ => pe_callTy call_int1 (by rfl) B.int (by decide +kernel) (pa_cons (pe_cmpR op_eq (pe_callB c_len (by rfl) B.len PySem.boot_len (pa_cons (pv 1) pa_nil)) (pv 0) (nomark _)) pa_nil)))), ?_⟩
    refine ⟨_, rfl, n, rfl, hn, fun H1 v s1 r => ?_⟩
    obtain ⟨a, vs, rfl, sa, ha, pv⟩ := r
    have kf := (K_fit n (by omega)).1
    refine ⟨a, rfl, ⟨vs, SqL.of ha⟩, fun D nD => ?_⟩
    refine lc_rep keeps_I (walk_listR (K := K) (a := a) pv) nD (fun j => (((Ct.K n).take j).map fun k => if k.length = n then 1 else 0)) rfl (fun j hj => ?_) (fun H' s' => s'.seq (SqL.of ha)) ?_ ?_
    · rw [List.length_map, List.length_take]
      exact small1000 (by omega)
    · rintro j x H4 _ hj s4 ⟨rfl, z, ez, rz⟩ Kn Ky kn ky
      obtain ⟨b, rfl, _, hb⟩ := rl_int (keeps_LI.same rz s4)
      refine ⟨rfl, lc_yes ⟨.ref b, rfl, b, _, rfl, .inl (SqL.of hb), .int n, rfl, rfl, .inr ⟨_, rfl, ?_⟩⟩⟩
      refine ky _ (if z.length = n then 1 else 0) _ (Same.refl _) ?_ ?_
      · show V.int _ = V.int _
        congr 1
        rw [List.length_map]
        by_cases h : z.length = n
        · rw [if_pos h, if_pos (decide_eq_true (by rw [h]))]
        · rw [if_neg h, if_neg (by
            rw [decide_eq_true_eq]
            intro e
            have := V.int.inj e
            omega)]
      · rw [List.take_add_one, ez, List.map_append]
        rfl
    · intro H' s' r
      rw [List.take_length] at r
      exact q _ _ (s1.trans s') (keeps_LI.older r s1)
theorem ok_lb (F : Fun K "look_bounds" "look_bounds" sLb f fd) (C : Cn mg) : FnOk P w K mg base CX0 1 f fd ["n", "m"] spLb := by
  obtain ⟨⟨t1, g1⟩, t2, g2⟩ := C
  refine F.ok scLb (fun vs H Q E h => ?_) (fun cdv A outer s H vs Q E hr h => ?_)
  · obtain ⟨n, m, rfl, _⟩ := h
    rfl
  · obtain ⟨n, m, rfl, h1, h2, h3, q⟩ := h
    refine ⟨_, pss_one (ps_if (PW.pt (pw_or (pt_not (pt_chain op_le op_le pe_int (pv 0) (pe_glob (v := .int 10) (by rfl) g1 ⟨_, rfl⟩))) (pw_or1 (pt_not (pt_chain op_le op_le pe_int (pv 1) (pe_glob (v := .int 20) (by rfl) g2 ⟨_, rfl⟩)))))) (pss_one ps_never) pss_nil), ?_⟩
    refine ⟨_, rfl, _, _, rfl, rfl, _, rfl, ?_⟩
    rw [if_pos (decide_eq_true (by omega))]
    refine ⟨_, _, rfl, rfl, _, rfl, ?_⟩
    rw [decide_eq_true (show (n : Int) ≤ 10 by omega)]
    refine iteF ?_
    refine ⟨_, rfl, _, _, rfl, rfl, _, rfl, ?_⟩
    rw [if_pos (decide_eq_true (by omega))]
    refine ⟨_, _, rfl, rfl, _, rfl, ?_⟩
    rw [decide_eq_true (show (m : Int) ≤ 20 by omega)]
    exact iteF q
end
end Ct
namespace Ct
open PySem PySem.Spec PyProof.Rows L2
/-! ### the dict of the kinds' places -/
def keyL (k : List Int) : List Key := k.map Sum.inl
theorem keyL_kV (k : List Int) : (keyL k).map kV = k.map V.int := by
  unfold keyL
  rw [List.map_map]
  rfl
theorem keyL_inj {a b : List Int} (h : keyL a = keyL b) : a = b := by
  have e : (keyL a).map kV = (keyL b).map kV := by rw [h]
  rw [keyL_kV, keyL_kV] at e
  exact (List.map_inj_right (fun x y z => V.int.inj z)).mp e
def placesL (ks : List (List Int)) : List (List Key × V) := ks.zipIdx.map fun p => (keyL p.1, V.int (p.2 : Int))
theorem val_places (k : List Int) : ∀ (ks : List (List Int)) (j : Nat), k ∈ ks → valV ((ks.zipIdx j).map fun p => (keyL p.1, V.int (p.2 : Int))) (keyL k) = some (.int ((j + ixOf ks k : Nat) : Int))
  | [], _, h => by cases h
  | x :: r, j, h => by
    rw [List.zipIdx_cons, List.map_cons]
    unfold ixOf
    by_cases e : x = k
    · rw [if_pos e, valV_pos (by rw [e])]
      rfl
    · have h' : k ∈ r := by
        rcases List.mem_cons.mp h with z | z
        · exact absurd z.symm e
        · exact z
      rw [if_neg e, valV_neg (fun z => e (keyL_inj z)), val_places k r (j + 1) h', show j + (ixOf r k + 1) = j + 1 + ixOf r k by omega]
theorem val_new (k : List Int) : ∀ (ks : List (List Int)) (j : Nat), k ∉ ks → valV ((ks.zipIdx j).map fun p => (keyL p.1, V.int (p.2 : Int))) (keyL k) = none
  | [], _, _ => rfl
  | x :: r, j, h => by
    rw [List.zipIdx_cons, List.map_cons, valV_neg (fun z => h (by rw [← keyL_inj z]; exact List.mem_cons_self))]
    exact val_new k r (j + 1) fun z => h (List.mem_cons_of_mem _ z)
theorem places_step {ks : List (List Int)} {i : Nat} {k : List Int} (nd : ks.Nodup) (h : ks[i]? = some k) : putK (placesL (ks.take i)) (keyL k) (.int (i : Int)) = placesL (ks.take (i + 1)) := by
  have hn : k ∉ ks.take i := fun z => by
    obtain ⟨j, hj⟩ := List.mem_iff_getElem?.mp z
    rw [List.getElem?_take] at hj
    split at hj
    · rename_i hlt
      have := nd_ix nd hj h
      omega
    · cases hj
  have hi : i < ks.length := (List.getElem?_eq_some_iff.mp h).1
  rw [show putK (placesL (ks.take i)) (keyL k) (.int (i : Int)) = placesL (ks.take i) ++ [(keyL k, .int (i : Int))] from putK_new _ (val_new k _ 0 hn), List.take_add_one, h]
  unfold placesL
  rw [Option.toList_some, List.zipIdx_append, List.map_append, List.length_take]
  congr 1
  rw [show min i ks.length = i by omega]
  simp
section
variable {P : Program} {w : World} {K : PySem.W.Frag} {mg : Str → Option Value} {base : Heap} {f g gj gc : Addr} {fd gd gjd gcd : FuncData}
theorem ok_st (F : Fun K "steps_of" "steps_of" sSt f fd) (B : Bn mg) (GK : FnOk P w K mg base CX0 12 g gd ["n"] spKi) (kp : PySem.W.keepIn K (.ref g) = true) (bK : Binds K gd ["n"] []) (gK : mg "kinds" = some (.ref g))
    (GJ : FnOk P w K mg base CX0 2 gj gjd ["kind"] spJo) (kpJ : PySem.W.keepIn K (.ref gj) = true) (bJ : Binds K gjd ["kind"] []) (gJ : mg "joins" = some (.ref gj))
    (GC : FnOk P w K mg base CX0 2 gc gcd ["kind"] spCu) (kpC : PySem.W.keepIn K (.ref gc) = true) (bC : Binds K gcd ["kind"] []) (gC : mg "cuts" = some (.ref gc)) : FnOk P w K mg base CX0 13 f fd ["n"] spSt := by
  refine F.ok scSt (fun vs H Q E h => ?_) (fun cdv A outer s H vs Q E hr h => ?_)
  · obtain ⟨n, rfl, _⟩ := h
    rfl
  · obtain ⟨n, rfl, hn, q⟩ := h
    have hu := hu_of hr
    have hr2 : Room 2 _ := hr.mono (by decide)
    refine ⟨_, pss_cons (ps_set (i := 1) scSt.nd rfl (.inr rfl) pe_dnewT)
      (pss_cons (ps_for PassesOwn.never rfl (pi_enum (by rfl) B.enumerate (pa_cons (pe_call GK hr (by rfl) gK kp bK .nil pass0 (pa_cons (pv 0) pa_nil)) pa_nil)) (pg_tup rfl (pgs_cons (pg_name (i := 2) scSt.nd rfl (.inl rfl)) (pgs_cons (pg_name (i := 3) scSt.nd rfl (.inl rfl)) pgs_nil)))
        (pss_one (ps_dput hu (pv 1) (pe_callTy c_tup (by rfl) B.tuple (by decide +kernel) (pa_cons (pv 3) pa_nil)) (pv 2) rfl)))
      (pss_cons (ps_set (i := 4) scSt.nd rfl (.inl rfl) (pe_lst pa_nil))
      (pss_cons (ps_for PassesOwn.never rfl (pi_list (pe_call GK hr (by rfl) gK kp bK .nil pass0 (pa_cons (pv 0) pa_nil))) (pg_name (i := 3) scSt.nd rfl (.inl rfl))
        (pss_one (ps_expr (pe_bm PySem.F.plainAttrs_list PySem.F.slot_list_append PySem.F.type_list_append mt_append (pv 4)
          (pa_cons (pe_lc (own := [("other", 5), ("ways", 6)]) (g := gTup K 2 (gCons (gName 5) (gCons (gName 6) gNil))) (tt := tYes) (te := tTup (tCons (tDGet (tVar 1) (tCB (rTupOf K) (tCons (tVar 5) tNil))) (tCons (tVar 6) tNil))) rfl scSt.nd
            (pi_list (pe_op op_cat (pe_call GJ hr2 (by rfl) gJ kpJ bJ .nil pass0 (pa_cons (pv 3) pa_nil)) (pe_call GC hr2 (by rfl) gC kpC bC .nil pass0 (pa_cons (pv 3) pa_nil))))
            (blkOk_by (own := [("other", 5), ("ways", 6)]) (N := ["n", "places", "at", "kind", "found", "other", "ways"]) (sc := defScope sSt) (by decide +kernel))
            (fun _ _ _ _ _ => pg_tup (by rfl) (pgs_cons (pg_name (i := 5) scSt.nd rfl (.inl rfl)) (pgs_cons (pg_name (i := 6) scSt.nd rfl (.inl rfl)) pgs_nil))) (fun _ _ _ _ _ => pts_nil)
            (fun _ _ _ _ _ => pe_tup (pa_cons (pe_dget hu (pv 1) (pe_callTy c_tup (by rfl) B.tuple (by decide +kernel) (pa_cons (pv 5) pa_nil)) (fun _ _ => rfl)) (pa_cons (pv 6) pa_nil)))) pa_nil)))))
      (pss_one (ps_ret (pv 4)))))), ?_⟩
    intro d nd
    have h1d : (upd H d (.dT [])) d = some (.dT []) := upd_same
    have s1 : Same H (upd H d (.dT [])) := same_new nd
    have kf := K_fit n (by omega)
    refine ⟨_, rfl, n, rfl, hn, fun H2 v2 s2 r2 => ?_⟩
    obtain ⟨a, vs, rfl, sa, ha, pv2⟩ := r2
    have nda : ∀ b, (upd H d (.dT [])) b = none → b ≠ d := fun b hb z => by
      rw [z, h1d] at hb
      cases hb
    refine ⟨a, vs, rfl, SqL.of ha, ?_⟩
    refine for_it (walk_enumR (K := K) (a := a) pv2) (fun i σ H3 => ∃ y2 y3, σ = [some (.int n), some (.ref d), y2, y3, none, none, none] ∧ H3 d = some (.dT (placesL ((Ct.K n).take i))) ∧ ∀ b o, b ≠ d → H2 b = some o → H3 b = some o)
      ⟨none, none, rfl, s2 _ _ h1d, fun b o _ e => e⟩ (fun i σ H3 _ ⟨_, _, _, _, kp⟩ => SqL.of (kp _ _ (nda a sa) ha)) ?_ ?_
    · rintro i v σ H3 H3' hi ⟨y2, y3, rfl, hd3, kp⟩ ⟨T, x, z, rfl, nT, rfl, ez, rz⟩
      obtain ⟨b, rfl, sb, hb⟩ := rl_int rz
      have hb3 := kp _ _ (nda b sb) hb
      have hlen : (placesL ((Ct.K n).take i)).length < sizeLine := by
        unfold placesL
        rw [List.length_map, List.length_zipIdx, List.length_take]
        exact small1000 (by omega)
      refine ⟨T, _, rfl, SqT.of upd_same, rfl, _, _, rfl, _, _, rfl, rfl, ?_⟩
      refine ⟨_, rfl, _, rfl, _, rfl, b, _, rfl, .inl ⟨SqL.of (by rw [upd_ne (ne_of_none hb3 nT)]; exact hb3), fun l nl => ?_⟩⟩
      have nTd : d ≠ T := ne_of_none hd3 nT
      have hd3' : (upd H3 T (.tup [.int (i : Nat), .ref b])) d = some (.dT (placesL ((Ct.K n).take i))) := by
        rw [upd_ne nTd]
        exact hd3
      have nld : d ≠ l := ne_of_none hd3' nl
      refine ⟨d, _, rfl, DPut.t (k := keyL z) (by rw [upd_ne nld]; exact hd3') (by rw [upd_same, keyL_kV]) hlen, _, _, rfl, ?_, fun c o hc e => ?_⟩
      · rw [upd_same, places_step kf.2.1 ez]
      · have e3 := kp c o hc e
        rw [upd_ne hc]
        exact same_new nl _ _ (same_new nT _ _ e3)
    · rintro σ Hs ⟨y2, y3, rfl, hds, kp⟩
      rw [List.take_length] at hds
      have sHs : Same H Hs := fun b o e => kp b o (ne_of_none e nd) (s2 _ _ (s1 _ _ e))
      refine ⟨Nat.zero_le _, fun o no => ?_⟩
      have nod : d ≠ o := ne_of_none hds no
      refine ⟨_, rfl, n, rfl, hn, fun H4 v4 s4 r4 => ?_⟩
      obtain ⟨a4, vs4, rfl, sa4, ha4, pv4⟩ := r4
      have no4 : ∀ b, (upd Hs o (.lst [])) b = none → b ≠ o := fun b hb z => by
        rw [z, upd_same] at hb
        cases hb
      refine ⟨a4, rfl, ⟨vs4, SqL.of ha4⟩, ?_⟩
      let row : List Int → List (Int × Int) := fun k => (joinsL k ++ cutsL k).map fun p => ((ixOf (Ct.K n) p.1 : Int), p.2)
      refine for_it (walk_listR (K := K) (a := a4) pv4) (fun i σ H5 => ∃ y2 y3, σ = [some (.int n), some (.ref d), y2, y3, some (.ref o), none, none] ∧ Acc (RL RII) Hs o H5 (((Ct.K n).take i).map row) ∧ ∀ b u, b ≠ o → H4 b = some u → H5 b = some u)
        ⟨_, _, rfl, (Acc.start no).step keeps_LII s4, fun b u _ e => e⟩ (fun i σ H5 _ ⟨_, _, _, _, kp⟩ => SqL.of (kp _ _ (no4 _ sa4) ha4)) ?_ ?_
      · rintro i v σ _ H5 hi ⟨y2, y3, rfl, A5, kp5⟩ ⟨rfl, z, ez, rz⟩
        obtain ⟨b, rfl, sb, hb⟩ := rl_int rz
        have hb5 := kp5 _ _ (no4 _ sb) hb
        have zK : z ∈ Ct.K n := List.mem_of_getElem? ez
        have ft := fit_of hn zK
        have mv := moves_in n (by omega) z zK
        obtain ⟨acc, eo⟩ := A5.at
        refine ⟨.ref o, rfl, .inl ⟨rfl, _, SqL.of eo⟩, ?_⟩
        refine ⟨_, rfl, .ref b, z, rfl, int_rl trivial hb5, ft, fun H6 v6 s6 r6 => ?_⟩
        refine ⟨_, rfl, .ref b, z, rfl, int_rl trivial (s6 _ _ hb5), ft, fun H7 v7 s7 r7 => ?_⟩
        obtain ⟨l6, vs6, rfl, _, h6, p6⟩ := r6
        obtain ⟨l7, vs7, rfl, _, h7, p7⟩ := r7
        have ll : vs6.length + vs7.length ≤ 200 := by
          rw [paired_len p6, paired_len p7, ← List.length_append]
          exact mv.1
        refine ⟨l6, l7, vs6, vs7, rfl, rfl, s7 _ _ h6, h7, Nat.le_of_lt (small1000 (by omega)), fun p np => ?_⟩
        refine ⟨p, rfl, ⟨_, SqL.of upd_same⟩, fun D nD => ?_⟩
        have s58 : Same H5 (upd H7 p (.lst (vs6 ++ vs7))) := (s6.trans s7).trans (same_new np)
        have p68 : Paired (RKW anyA (upd H7 p (.lst (vs6 ++ vs7)))) (vs6 ++ vs7) (joinsL z ++ cutsL z) :=
          paired_app (paired_mono (fun u y h => keeps_KW.same (keeps_KW.any h) (s7.trans (same_new np))) p6) (paired_mono (fun u y h => keeps_KW.same (keeps_KW.any h) (same_new np)) p7)
        have hdd : H5 d = some (.dT (placesL (Ct.K n))) := A5.same _ _ hds
        refine lc_rep keeps_II (walk_listR (K := K) (a := p) p68) nD (fun j => ((joinsL z ++ cutsL z).take j).map fun p => ((ixOf (Ct.K n) p.1 : Int), p.2)) rfl (fun j hj => ?_) (fun H' s' => s'.seq (SqL.of upd_same)) ?_ ?_
        · rw [List.length_map, List.length_take]
          exact small1000 (by omega)
        · rintro j x _ H9 hj s9 ⟨rfl, y, ey, ry⟩ Kn Ky kn ky
          obtain ⟨t, u, w', rfl, _, ht, ru, rw'⟩ := keeps_KW.same ry s9
          obtain ⟨bu, rfl, _, hbu⟩ := rl_int ru
          obtain rfl : w' = V.int y.2 := rw'
          have hd9 := s9 _ _ (s58 _ _ hdd)
          have yK := (mv.2 y (List.mem_of_getElem? ey)).1
          refine ⟨t, _, rfl, SqT.of ht, rfl, _, _, rfl, _, _, rfl, rfl, rfl, lc_yes ?_⟩
          refine ⟨_, rfl, _, rfl, bu, _, rfl, .inl ⟨SqL.of hbu, fun l nl => ?_⟩⟩
          have g0 : DGet (upd H9 l (.tup (y.1.map V.int))) d (.ref l) (some (.int ((ixOf (Ct.K n) y.1 : Nat) : Int))) := by
            have g1 := DGet.t (k := keyL y.1) (b := l) (show (upd H9 l (.tup (y.1.map V.int))) d = some (.dT (placesL (Ct.K n))) by rw [upd_ne (ne_of_none hd9 nl)]; exact hd9) (by rw [upd_same, keyL_kV])
            have g2 : valV (placesL (Ct.K n)) (keyL y.1) = some (.int ((0 + ixOf (Ct.K n) y.1 : Nat) : Int)) := val_places y.1 (Ct.K n) 0 yK
            rw [Nat.zero_add] at g2
            rw [g2] at g1
            exact g1
          refine ⟨d, _, rfl, g0, _, rfl, (by show 2 ≤ sizeLine; decide), fun t' nt' => ?_⟩
          refine ky _ (((ixOf (Ct.K n) y.1 : Nat) : Int), y.2) _ ((same_new nl).trans (same_new nt')) ⟨t', _, _, rfl, (same_new nl).free nt', upd_same, rfl, rfl⟩ ?_
          rw [List.take_add_one, ey, List.map_append]
          rfl
        · intro H9 s9 r9
          rw [List.take_length] at r9
          dsimp only [tNil]
          refine A5.append (x := row z) keeps_LII no (s58.trans s9) (keeps_LII.older r9 s58) ?_ fun H10 A10 k10 => ⟨_, _, rfl, ?_, fun c u hc e => k10 _ _ hc (s9 _ _ (s58 _ _ (kp5 _ _ hc e)))⟩
          · rw [List.length_map, List.length_take]
            exact small1000 (by omega)
          · rw [List.take_add_one, ez, List.map_append]
            exact A10
      · rintro σ H5 ⟨y2, y3, rfl, A5, kp5⟩
        rw [List.take_length] at A5
        exact ⟨_, rfl, q _ _ (sHs.trans A5.same) (keeps_LLII.older (A5.done keeps_LII no) sHs)⟩
end
end Ct
namespace Ct
open PySem PySem.Spec PyProof.Rows L2
/-- the block of a comprehension that a def hands back -/
def lcSc : Expr → Scope
  | .ListComp _ _ sc _ => sc
  | _ => defScope (.Pass ⟨0, 0, 0, 0⟩)
def retE : Stmt → Expr
  | .Return (some e) _ => e
  | _ => .Constant .none 0 ⟨0, 0, 0, 0⟩
def argE : Expr → Expr
  | .Call _ (a :: _) _ _ => a
  | e => e
section
variable {P : Program} {w : World} {K : PySem.W.Frag} {mg : Str → Option Value} {base : Heap} {f g gs gf gm gl : Addr} {fd gd gsd gfd gmd gld : FuncData}
theorem ok_mo (F : Fun K "more_counts" "more_counts" sMo f fd) (B : Bn mg) : FnOk P w K mg base CX0 1 f fd ["steps", "counts"] spMo := by
  refine F.ok scMo (fun vs H Q E h => ?_) (fun cdv A outer s H vs Q E hr h => ?_)
  · obtain ⟨v, u, steps, counts, rfl, _⟩ := h
    rfl
  · obtain ⟨v, u, steps, counts, rfl, rS, rC, ok, q⟩ := h
    obtain ⟨a, vs, rfl, _, ha, pS⟩ := rS
    obtain ⟨c, rfl, _, hc⟩ := rl_int rC
    refine ⟨_, pss_one (ps_ret (pe_lc (own := [("some", 2)]) (g := gName 2) (tt := tYes)
      (te := tCB (rSum K) (tCons (tLc (iList K (tVar 2)) (gTup K 2 (gCons (gName 3) (gCons (gName 4) gNil))) tYes (tOp (rI CMul fun i j => .int (i * j)) (tVar 4) (tOp (rIxL K) (tVar 1) (tVar 3))) [3, 4]) tNil)) rfl scMo.nd
      (pi_list (pv 0))
      (blkOk_by (own := [("some", 2)]) (N := ["steps", "counts", "some", "at", "ways"]) (sc := defScope sMo) (by decide +kernel))
      (fun _ _ _ _ _ => pg_name (i := 2) scMo.nd rfl (.inl rfl)) (fun _ _ _ _ _ => pts_nil)
      (fun _ _ _ _ _ => pe_callB (cr_sum rfl) (by rfl) B.sum (by decide +kernel) (pa_cons
        (pe_lc (own := [("at", 3), ("ways", 4)]) (g := gTup K 2 (gCons (gName 3) (gCons (gName 4) gNil))) (tt := tYes) (te := tOp (rI CMul fun i j => .int (i * j)) (tVar 4) (tOp (rIxL K) (tVar 1) (tVar 3))) rfl scMo.nd
          (pi_list (pv 2))
          (blkOk_by (own := [("at", 3), ("ways", 4)]) (N := ["steps", "counts", "some", "at", "ways"]) (sc := relS (lcSc (retE ((defBody sMo).getD 0 (.Pass ⟨0, 0, 0, 0⟩)))) (defScope sMo)) (by decide +kernel))
          (fun _ _ _ _ _ => pg_tup (by rfl) (pgs_cons (pg_name (i := 3) scMo.nd rfl (.inl rfl)) (pgs_cons (pg_name (i := 4) scMo.nd rfl (.inl rfl)) pgs_nil)))
          (fun _ _ _ _ _ => pts_nil)
          (fun _ _ _ _ _ => pe_op op_mul (pv 4) (pe_ix ix_list (pv 1) (pv 3) (fun _ _ => rfl)))) pa_nil)))), ?_⟩
    let val : Int × Int → Int := fun p => p.2 * counts.getD p.1.toNat 0
    refine ⟨.ref a, rfl, a, rfl, ⟨vs, SqL.of ha⟩, fun D nD => ?_⟩
    refine lc_rep keeps_I (walk_listR (K := K) (a := a) pS) nD (fun j => (steps.take j).map fun s => (s.map val).sum) rfl (fun j hj => ?_) (fun H' s' => s'.seq (SqL.of ha)) ?_ ?_
    · have := ok.1
      rw [List.length_map, List.length_take]
      exact small1000 (by omega)
    · rintro j x _ H4 hj s4 ⟨rfl, st, est, rst⟩ Kn Ky kn ky
      obtain ⟨b, us, rfl, _, hb, pR⟩ := keeps_LII.same rst s4
      have hc4 := s4 _ _ hc
      have ok2 := ok.2 st (List.mem_of_getElem? est)
      refine ⟨rfl, lc_yes ⟨.ref b, rfl, b, rfl, ⟨us, SqL.of hb⟩, fun D' nD' => ?_⟩⟩
      refine lc_rep keeps_I (walk_listR (K := K) (a := b) pR) nD' (fun i => (st.take i).map val) rfl (fun i hi => ?_) (fun H' s' => s'.seq (SqL.of hb)) ?_ ?_
      · have := ok2.1
        rw [List.length_map, List.length_take]
        exact small1000 (by omega)
      · rintro i x _ H5 hi s5 ⟨rfl, p, ep, rp⟩ Kn' Ky' kn' ky'
        obtain ⟨t, x1, x2, rfl, _, ht, r1, r2⟩ := keeps_II.same rp s5
        obtain rfl : x1 = V.int p.1 := r1
        obtain rfl : x2 = V.int p.2 := r2
        have hc5 := s5 _ _ hc4
        obtain ⟨b0, b1, b2, b3⟩ := ok2.2 p (List.mem_of_getElem? ep)
        refine ⟨t, _, rfl, SqT.of ht, rfl, _, _, rfl, _, _, rfl, rfl, rfl, lc_yes ?_⟩
        have ga : atI (counts.map V.int) p.1 = some (.int (counts.getD p.1.toNat 0)) := by
          have := at_int (ns := counts) (i := p.1.toNat) (by omega)
          rw [show ((p.1.toNat : Nat) : Int) = p.1 by omega] at this
          exact this
        refine ⟨_, rfl, _, rfl, _, rfl, c, _, _, _, rfl, rfl, SqL.of hc5, ga, _, _, rfl, rfl, .inl ⟨by omega, by omega⟩, ?_⟩
        refine ky' _ (val p) _ (Same.refl _) rfl ?_
        rw [List.take_add_one, ep, List.map_append]
        rfl
      · intro H5 s5 r5
        rw [List.take_length] at r5
        obtain ⟨D2, e, _, hD⟩ := rl_int r5
        cases e
        refine ⟨D', _, rfl, SqL.of hD, ky _ ((st.map val).sum) _ s5 rfl ?_⟩
        rw [List.take_add_one, est, List.map_append]
        rfl
    · intro H4 s4 r4
      rw [List.take_length] at r4
      exact q _ _ s4 r4
end
end Ct
namespace Ct
open PySem PySem.Spec PyProof.Rows L2
/-! ### lists of ints, lists of these, as data -/
abbrev dLI (ns : List Int) : PyData := .list (ns.map .int)
abbrev dLLI (xs : List (List Int)) : PyData := .list (xs.map dLI)
theorem lay_ints : ∀ ns : List Int, PyData.canLayAll0 (ns.map .int) = true
  | [] => by simp [PyData.canLayAll0]
  | n :: r => by
    rw [List.map_cons]
    simp [PyData.canLayAll0, PyData.canLay0, lay_ints r]
theorem dep_ints : ∀ ns : List Int, PyData.depthAll (ns.map .int) = 0
  | [] => by simp [PyData.depthAll]
  | n :: r => by
    rw [List.map_cons]
    simp [PyData.depthAll, PyData.depth, dep_ints r]
theorem lay_lists : ∀ xs : List (List Int), PyData.canLayAll0 (xs.map dLI) = true
  | [] => by simp [PyData.canLayAll0]
  | n :: r => by
    rw [List.map_cons]
    simp [PyData.canLayAll0, PyData.canLay0, lay_ints n, lay_lists r]
theorem dep_lists : ∀ xs : List (List Int), PyData.depthAll (xs.map dLI) ≤ 1
  | [] => by simp [PyData.depthAll]
  | n :: r => by
    have := dep_lists r
    have := dep_ints n
    rw [List.map_cons]
    simp only [PyData.depthAll, PyData.depth]
    omega
theorem shaped_LI (ns : List Int) : SeqAt.shaped (dLI ns) = true := by
  have := dep_ints ns
  unfold SeqAt.shaped
  simp [PyData.canLay0, PyData.depth, lay_ints, dep_ints]
theorem shaped_LLI (xs : List (List Int)) : SeqAt.shaped (dLLI xs) = true := by
  have h := dep_lists xs
  have e1 : (dLLI xs).canLay0 = PyData.canLayAll0 (xs.map dLI) := by simp only [dLLI, PyData.canLay0]
  have e2 : (dLLI xs).depth = PyData.depthAll (xs.map dLI) + 1 := by simp only [dLLI, PyData.depth]
  unfold SeqAt.shaped
  rw [Bool.and_eq_true, decide_eq_true_eq, e1, e2]
  exact ⟨lay_lists xs, by omega⟩
theorem eqv_ints : ∀ a b : List Int, PyData.eqvAll (a.map .int) (b.map .int) = decide (a = b)
  | [], [] => by simp [PyData.eqvAll]
  | [], y :: r => by simp [PyData.eqvAll]
  | x :: r, [] => by simp [PyData.eqvAll]
  | x :: r, y :: t => by
    rw [List.map_cons, List.map_cons, PyData.eqvAll, eqv_ints r t, PyData.eqv]
    by_cases h1 : x = y <;> by_cases h2 : r = t <;> simp [h1, h2]
theorem eqv_LI (a b : List Int) : PyData.eqv (dLI a) (dLI b) = decide (a = b) := by
  rw [PyData.eqv]
  exact eqv_ints a b
theorem dp_ints {K : PySem.W.Frag} {H : Hp} : ∀ ns : List Int, DpAll K H (ns.map V.int) (ns.map .int)
  | [] => .nil
  | n :: r => .cons (.int n) (dp_ints r)
theorem dp_LI {K : PySem.W.Frag} {S : Addr → Prop} {H : Hp} {v : V} {ns : List Int} (r : RL RI S H v ns) : Dp K H v (dLI ns) := by
  obtain ⟨a, rfl, _, ha⟩ := rl_int r
  exact .lst (SqL.of ha) (dp_ints ns)
theorem dp_LLI {K : PySem.W.Frag} {S : Addr → Prop} {H : Hp} {v : V} {xs : List (List Int)} (r : RL (RL RI) S H v xs) : Dp K H v (dLLI xs) := by
  obtain ⟨a, vs, rfl, _, ha, p⟩ := r
  refine .lst (SqL.of ha) ?_
  clear ha
  induction p with
  | nil => exact .nil
  | cons h t ih => exact .cons (dp_LI h) ih
theorem ix_lt (k : List Int) : ∀ ks : List (List Int), k ∈ ks → ixOf ks k < ks.length
  | [], h => by cases h
  | x :: r, h => by
    unfold ixOf
    by_cases e : x = k
    · rw [if_pos e]
      exact Nat.succ_pos _
    · rw [if_neg e]
      exact Nat.succ_lt_succ (ix_lt k r ((List.mem_cons.mp h).resolve_left fun z => e z.symm))
theorem ix_at (k : List Int) : ∀ ks : List (List Int), k ∈ ks → ks[ixOf ks k]? = some k
  | [], h => by cases h
  | x :: r, h => by
    unfold ixOf
    by_cases e : x = k
    · rw [if_pos e, e]
      rfl
    · rw [if_neg e]
      exact ix_at k r ((List.mem_cons.mp h).resolve_left fun z => e z.symm)
theorem ix_first (k : List Int) : ∀ (ks : List (List Int)) (m : Nat) (z : List Int), m < ixOf ks k → ks[m]? = some z → z ≠ k
  | [], m, z, h, _ => by cases h
  | x :: r, m, z, h, e => by
    unfold ixOf at h
    by_cases c : x = k
    · rw [if_pos c] at h
      cases h
    · rw [if_neg c] at h
      cases m with
      | zero =>
        cases e
        exact c
      | succ m => exact ix_first k r m z (Nat.lt_of_succ_lt_succ h) e
end Ct
namespace Ct
open PySem PySem.Spec PyProof.Rows L2
theorem more_len (steps : List (List (Int × Int))) (counts : List Int) : (moreL steps counts).length = steps.length := by
  unfold moreL
  rw [List.length_map]
theorem steps_len (n : Nat) : (stepsL n).length = (K n).length := by
  unfold stepsL
  rw [List.length_map]
theorem vec_len (n : Nat) : ∀ m, (vecL n m).length = (K n).length
  | 0 => by
    show (firstL n).length = _
    unfold firstL
    rw [List.length_map]
  | m + 1 => by
    show (moreL _ _).length = _
    rw [more_len, steps_len]
theorem steps_ok {n : Nat} (hn : n ≤ 10) : StepsOk (stepsL n) (K n).length := by
  have kf := K_fit n (by omega)
  refine ⟨by rw [steps_len]; omega, fun s hs => ?_⟩
  unfold stepsL at hs
  obtain ⟨k, hk, rfl⟩ := List.mem_map.mp hs
  have mv := moves_in n (by omega) k hk
  refine ⟨by rw [List.length_map]; exact mv.1, fun p hp => ?_⟩
  obtain ⟨q, hq, rfl⟩ := List.mem_map.mp hp
  have h := mv.2 q hq
  have := ix_lt q.1 (K n) h.1
  refine ⟨?_, ?_, h.2.1, h.2.2⟩
  · show (0 : Int) ≤ (ixOf (K n) q.1 : Nat)
    omega
  · show ((ixOf (K n) q.1 : Nat) : Int) < _
    omega
theorem at_last {vs : List V} {n : Nat} {x : V} (h : vs.length = n + 1) (e : vs[n]? = some x) : atI vs (-1) = some x := by
  unfold atI ixN
  rw [if_neg (by omega), if_pos (by omega), show ((-1 : Int) + (vs.length : Int)).toNat = n by omega]
  exact e
def spCt : Sp := fun vs H Q _ => ∃ n m : Nat, vs = [.int n, .int m] ∧ 1 ≤ n ∧ n ≤ 10 ∧ m ≤ 20 ∧ Ret (RL (RL RI)) H Q ((List.range (m + 1)).map (vecL n))
def spCo : Sp := fun vs H Q _ => ∃ (v : V) (n m : Nat) (k : List Int), vs = [v, .int m] ∧ RL RI anyA H v k ∧ k ∈ K n ∧ 1 ≤ n ∧ n ≤ 10 ∧ m ≤ 20 ∧ Ret RI H Q ((vecL n m).getD (ixOf (K n) k) 0)
section
variable {P : Program} {w : World} {K : PySem.W.Frag} {mg : Str → Option Value} {base : Heap} {f g gs gf gm gl : Addr} {fd gd gsd gfd gmd gld : FuncData}
theorem ok_ct (F : Fun K "count_table" "count_table" sCt f fd) (B : Bn mg)
    (GL : FnOk P w K mg base CX0 1 gl gld ["n", "m"] spLb) (kL : PySem.W.keepIn K (.ref gl) = true) (bL : Binds K gld ["n", "m"] []) (gL : mg "look_bounds" = some (.ref gl))
    (GS : FnOk P w K mg base CX0 13 gs gsd ["n"] spSt) (kS : PySem.W.keepIn K (.ref gs) = true) (bS : Binds K gsd ["n"] []) (gS : mg "steps_of" = some (.ref gs))
    (GF : FnOk P w K mg base CX0 13 gf gfd ["n"] spFi) (kF : PySem.W.keepIn K (.ref gf) = true) (bF : Binds K gfd ["n"] []) (gF : mg "first_counts" = some (.ref gf))
    (GM : FnOk P w K mg base CX0 1 gm gmd ["steps", "counts"] spMo) (kM : PySem.W.keepIn K (.ref gm) = true) (bM : Binds K gmd ["steps", "counts"] []) (gM : mg "more_counts" = some (.ref gm)) :
    FnOk P w K mg base CX0 14 f fd ["n", "m"] spCt := by
  refine F.ok scCt (fun vs H Q E h => ?_) (fun cdv A outer s H vs Q E hr h => ?_)
  · obtain ⟨n, m, rfl, _⟩ := h
    rfl
  · obtain ⟨n, m, rfl, h1, hn, hm, q⟩ := h
    have hr1 : Room 1 _ := hr.mono (by decide)
    refine ⟨_, pss_cons (ps_expr (pe_call GL hr1 (by rfl) gL kL bL .nil pass0 (pa_cons (pv 0) (pa_cons (pv 1) pa_nil))))
      (pss_cons (ps_set (i := 2) scCt.nd rfl (.inl rfl) (pe_call GS hr (by rfl) gS kS bS .nil pass0 (pa_cons (pv 0) pa_nil)))
      (pss_cons (ps_set (i := 3) scCt.nd rfl (.inl rfl) (pe_lst (pa_cons (pe_call GF hr (by rfl) gF kF bF .nil pass0 (pa_cons (pv 0) pa_nil)) pa_nil)))
      (pss_cons (ps_for PassesOwn.never rfl (pi_range1 (by rfl) B.range (pa_cons (pv 1) pa_nil)) (pg_name (i := 4) scCt.nd rfl (.inl rfl))
        (pss_one (ps_expr (pe_bm PySem.F.plainAttrs_list PySem.F.slot_list_append PySem.F.type_list_append mt_append (pv 3)
          (pa_cons (pe_call GM hr1 (by rfl) gM kM bM .nil pass0 (pa_cons (pv 2) (pa_cons (pe_ix ix_list (pv 3) (pe_un un_neg pe_int) (fun _ _ => rfl)) pa_nil))) pa_nil)))))
      (pss_one (ps_ret (pv 3)))))), ?_⟩
    refine ⟨_, rfl, _, rfl, n, m, rfl, h1, hn, hm, ?_⟩
    refine ⟨_, rfl, n, rfl, hn, fun H1 v1 s1 r1 => ?_⟩
    refine ⟨_, rfl, n, rfl, hn, fun H2 v2 s2 r2 => ⟨(by show 1 ≤ sizeLine; decide), fun o no => ?_⟩⟩
    obtain ⟨b, rfl, sb, hb⟩ := rl_int r2
    have so : H1 o = none := s2.free no
    have A0 : Acc (RL RI) H1 o (upd H2 o (.lst [.ref b])) [vecL n 0] :=
      ⟨s2.trans (same_new no), [.ref b], upd_same, .cons (int_rl ⟨sb, ne_of_none hb no⟩ (by rw [upd_ne (ne_of_none hb no)]; exact hb)) .nil⟩
    refine ⟨_, rfl, _, rfl, by omega, by omega, ?_⟩
    rw [show ((m : Int)).toNat = m by omega]
    refine for_range (lo := 0) (n := m) (fun i σ H3 => ∃ y4, σ = [some (.int n), some (.int m), some v1, some (.ref o), y4] ∧ Acc (RL RI) H1 o H3 ((List.range (i + 1)).map (vecL n))) ⟨none, rfl, A0⟩ ?_ ?_
    · rintro i σ H3 hi ⟨y4, rfl, A3⟩
      obtain ⟨s13, acc, eo, pa⟩ := id A3
      have hlen : acc.length = i + 1 := by
        rw [paired_len pa, List.length_map, List.length_range]
      have elast : ((List.range (i + 1)).map (vecL n))[i]? = some (vecL n i) := by
        rw [List.getElem?_map, List.getElem?_range (by omega)]
        rfl
      obtain ⟨x, ex, rx⟩ := paired_get' pa elast
      have so' := steps_ok hn
      rw [← vec_len n i] at so'
      refine ⟨.ref o, rfl, .inl ⟨rfl, _, SqL.of eo⟩, ?_⟩
      refine ⟨_, rfl, .ref o, rfl, 1, rfl, o, acc, _, x, rfl, rfl, SqL.of eo, at_last hlen ex, v1, x, stepsL n, vecL n i, rfl, keeps_LLII.any (keeps_LLII.same r1 s13), keeps_LI.any rx, so', fun H4 v4 s4 r4 => ?_⟩
      dsimp only [tNil]
      refine A3.append (x := vecL n (i + 1)) keeps_LI so s4 r4 ?_ fun H5 A5 _ => ⟨_, rfl, ?_⟩
      · rw [List.length_map, List.length_range]
        exact small1000 (by omega)
      · rw [List.range_succ (n := i + 1), List.map_append]
        exact A5
    · rintro σ H3 ⟨y4, rfl, A3⟩
      exact ⟨_, rfl, q _ _ (s1.trans A3.same) (keeps_LLI.older (A3.done keeps_LI so) s1)⟩
theorem ok_co (F : Fun K "counted" "counted" sCo f fd) (B : Bn mg)
    (GC : FnOk P w K mg base CX0 14 g gd ["n", "m"] spCt) (kC : PySem.W.keepIn K (.ref g) = true) (bC : Binds K gd ["n", "m"] []) (gC : mg "count_table" = some (.ref g))
    (GK : FnOk P w K mg base CX0 12 gs gsd ["n"] spKi) (kK : PySem.W.keepIn K (.ref gs) = true) (bK : Binds K gsd ["n"] []) (gK : mg "kinds" = some (.ref gs)) : FnOk P w K mg base CX0 15 f fd ["kind", "m"] spCo := by
  refine F.ok scCo (fun vs H Q E h => ?_) (fun cdv A outer s H vs Q E hr h => ?_)
  · obtain ⟨v, n, m, k, rfl, _⟩ := h
    rfl
  · obtain ⟨v, n, m, k, rfl, r, hk, h1, hn, hm, q⟩ := h
    obtain ⟨a, rfl, _, ha⟩ := rl_int r
    have hr12 : Room 12 _ := hr.mono (by decide)
    have hu65 : _ + 65 < cLine := Nat.lt_of_le_of_lt (Nat.add_le_add_left (by decide : 65 ≤ 16 * 14 + 200) _) (by have := hr.un; omega)
    have kf := (K_fit n (by omega)).2.2 k hk
    refine ⟨_, pss_cons (ps_set (i := 2) scCo.nd rfl (.inl rfl) (pe_callB (cr_sum rfl) (by rfl) B.sum (by decide +kernel) (pa_cons (pv 0) pa_nil)))
      (pss_one (ps_ret (pe_ix ix_list (pe_ix ix_list (pe_call GC hr (by rfl) gC kC bC .nil pass0 (pa_cons (pv 2) (pa_cons (pv 1) pa_nil))) (pv 1) (fun _ _ => rfl))
        (pe_bm PySem.F.plainAttrs_list PySem.F.slot_list_index PySem.F.type_list_index (mt_indexD hu65) (pe_call GK hr12 (by rfl) gK kK bK .nil pass0 (pa_cons (pv 2) pa_nil)) (pa_cons (pe_callTy c_lst (by rfl) B.list (by decide +kernel) (pa_cons (pv 0) pa_nil)) pa_nil)) (fun _ _ => rfl)))), ?_⟩
    refine ⟨_, rfl, a, k, rfl, SqL.of ha, ?_⟩
    rw [kf.2.2]
    refine ⟨_, rfl, _, rfl, n, m, rfl, h1, hn, hm, fun H1 v1 s1 r1 => ?_⟩
    obtain ⟨t, vs, rfl, _, ht, pt⟩ := r1
    have et : ((List.range (m + 1)).map (vecL n))[m]? = some (vecL n m) := by
      rw [List.getElem?_map, List.getElem?_range (by omega)]
      rfl
    obtain ⟨x, ex, rx⟩ := paired_get' pt et
    obtain ⟨c, rfl, _, hc⟩ := rl_int rx
    refine ⟨_, rfl, t, vs, _, _, rfl, rfl, SqL.of ht, atI_nat ex, ?_⟩
    refine ⟨_, rfl, n, rfl, hn, fun H2 v2 s2 r2 => ?_⟩
    have ha2 := s2 _ _ (s1 _ _ ha)
    obtain ⟨a2, vs2, rfl, sa2, h2, p2⟩ := id r2
    refine ⟨.inl ⟨rfl, _, SqL.of h2⟩, ?_⟩
    refine ⟨_, rfl, a, _, rfl, .inl (SqL.of ha2), fun l nl => ?_⟩
    have r3 := keeps_LLI.same r2 (same_new (o := .lst (k.map V.int)) nl)
    have iat := ix_at k (Ct.K n) hk
    have ilt := ix_lt k (Ct.K n) hk
    have hc3 : (upd H2 l (.lst (k.map V.int))) c = some (.lst ((vecL n m).map V.int)) := same_new nl _ _ (s2 _ _ hc)
    refine ⟨a2, .ref l, dLI k, (Ct.K n).map dLI, ixOf (Ct.K n) k, dLI k, rfl, rfl, dp_LLI r3, dp_LI (S := anyA) (int_rl trivial upd_same), shaped_LLI _, shaped_LI _, ?_, ?_, fun j z' hj ez => ?_, ?_⟩
    · rw [List.getElem?_map, iat]
      rfl
    · rw [eqv_LI]
      exact decide_eq_true rfl
    · rw [List.getElem?_map] at ez
      obtain ⟨z, ez', rfl⟩ := Option.map_eq_some_iff.mp ez
      rw [eqv_LI]
      exact decide_eq_false (ix_first k (Ct.K n) j z hj ez')
    · exact ⟨c, _, _, _, rfl, rfl, SqL.of hc3, at_int (by rw [vec_len]; exact ilt), q _ _ ((s1.trans s2).trans (same_new nl)) rfl⟩
end
end Ct
namespace Ct
open PySem PySem.Spec PyProof.Rows L2
abbrev sCn : Stmt := topS 21
abbrev sPe : Stmt := topS 22
abbrev sPi : Stmt := topS 23
abbrev sRi : Stmt := topS 24
theorem scCn : FnScope ["picture", "row", "wide", "column"] ["picture"] (defScope sCn) := ⟨rfl, rfl, rfl, by decide +kernel, rfl, by decide +kernel, by decide +kernel⟩
theorem scPe : FnScope ["picture", "at", "number"] ["picture"] (defScope sPe) := ⟨rfl, rfl, rfl, by decide +kernel, rfl, by decide +kernel, by decide +kernel⟩
theorem scPi : FnScope ["pegs", "rows", "at", "peg", "number"] ["pegs"] (defScope sPi) := ⟨rfl, rfl, rfl, by decide +kernel, rfl, by decide +kernel, by decide +kernel⟩
theorem scRi : FnScope ["picture", "k", "pegs", "found", "at", "peg", "lower", "steps", "other"] ["picture", "k"] (defScope sRi) := ⟨rfl, rfl, rfl, by decide +kernel, rfl, by decide +kernel, by decide +kernel⟩
def spCn : Sp := fun vs H Q _ => ∃ (v : V) (ns : List Int), vs = [v] ∧ RL RI anyA H v ns ∧ Fit ns ∧ Ret RI H Q (contentsL ns)
def spPe : Sp := fun vs H Q _ => ∃ (v : V) (ns : List Int), vs = [v] ∧ RL RI anyA H v ns ∧ ns.length ≤ 20 ∧ Ret (RL RI) H Q (pegsL ns)
def spPi : Sp := fun vs H Q _ => ∃ (v : V) (ns : List Int), vs = [v] ∧ RL RI anyA H v ns ∧ ns.length ≤ 20 ∧ Ret (RL RI) H Q (pictureL ns)
theorem zix {α : Type} {ns : List α} {j : Nat} {y : α} (e : ns[j]? = some y) : ns.zipIdx[j]? = some (y, j) := by
  rw [List.getElem?_zipIdx, e]
  simp
section
variable {P : Program} {w : World} {K : PySem.W.Frag} {mg : Str → Option Value} {base : Heap} {f g gp : Addr} {fd gd gpd : FuncData}
theorem ok_cn (F : Fun K "contents" "contents" sCn f fd) (B : Bn mg) : FnOk P w K mg base CX0 1 f fd ["picture"] spCn := by
  refine F.ok scCn (fun vs H Q E h => ?_) (fun cdv A outer s H vs Q E hr h => ?_)
  · obtain ⟨v, ns, rfl, _⟩ := h
    rfl
  · obtain ⟨v, ns, rfl, r, fit, q⟩ := h
    obtain ⟨a, rfl, _, ha⟩ := rl_int r
    have hl := fit.1
    refine ⟨_, pss_one (ps_ret (pe_callB (cr_sum rfl) (by rfl) B.sum (by decide +kernel) (pa_cons
      (pe_lc (own := [("row", 1), ("wide", 2)]) (g := gTup K 2 (gCons (gName 1) (gCons (gName 2) gNil))) (tt := tYes)
        (te := tCB (rSum K) (tCons (tLc (iRng1 (tCons (tVar 2) tNil)) (gName 3) tYes (tOp (rI0 fun i j => .int (i - j)) (tVar 3) (tVar 1)) [3]) tNil)) rfl scCn.nd
        (pi_enum (by rfl) B.enumerate (pa_cons (pv 0) pa_nil))
        (blkOk_by (own := [("row", 1), ("wide", 2)]) (N := ["picture", "row", "wide", "column"]) (sc := defScope sCn) (by decide +kernel))
        (fun _ _ _ _ _ => pg_tup (by rfl) (pgs_cons (pg_name (i := 1) scCn.nd rfl (.inr rfl)) (pgs_cons (pg_name (i := 2) scCn.nd rfl (.inl rfl)) pgs_nil))) (fun _ _ _ _ _ => pts_nil)
        (fun _ _ _ _ _ => pe_callB (cr_sum rfl) (by rfl) B.sum (by decide +kernel) (pa_cons
          (pe_lc (own := [("column", 3)]) (g := gName 3) (tt := tYes) (te := tOp (rI0 fun i j => .int (i - j)) (tVar 3) (tVar 1)) rfl scCn.nd
            (pi_range1 (by rfl) B.range (pa_cons (pv 2) pa_nil))
            (blkOk_by (own := [("column", 3)]) (N := ["picture", "row", "wide", "column"]) (sc := relS (lcSc (argE (retE ((defBody sCn).getD 0 (.Pass ⟨0, 0, 0, 0⟩))))) (defScope sCn)) (by decide +kernel))
            (fun _ _ _ _ _ => pg_name (i := 3) scCn.nd rfl (.inl rfl)) (fun _ _ _ _ _ => pts_nil)
            (fun _ _ _ _ _ => pe_op op_sub (pv 3) (pv 1))) pa_nil))) pa_nil))), ?_⟩
    let val : Int × Nat → Int := fun q => ((List.range q.1.toNat).map fun (c : Nat) => (c : Int) - q.2).sum
    refine ⟨_, rfl, a, _, rfl, SqL.of ha, fun D nD => ?_⟩
    refine lc_rep keeps_I (walk_enumI (K := K) (a := a) (ns := ns)) nD (fun j => (ns.zipIdx.take j).map val) rfl (fun j hj => ?_) (fun H' s' => s'.seq (SqL.of ha)) ?_ ?_
    · rw [List.length_map, List.length_take, List.length_zipIdx]
      exact small1000 (by omega)
    · rintro j x H4 H5 hj s4 ⟨T, y, rfl, nT, rfl, ey⟩ Kn Ky kn ky
      have by' := fit.2 y (List.mem_of_getElem? ey)
      refine ⟨T, _, rfl, SqT.of upd_same, rfl, _, _, rfl, _, _, rfl, rfl, rfl, lc_yes ?_⟩
      refine ⟨_, rfl, y, rfl, by omega, by omega, fun D' nD' => ?_⟩
      refine lc_rep keeps_I (walk_range (lo := 0) (n := y.toNat)) nD' (fun i => (List.range i).map fun (c : Nat) => (c : Int) - (j : Nat)) rfl (fun i hi => ?_) (fun _ _ => trivial) ?_ ?_
      · rw [List.length_map, List.length_range]
        exact small1000 (by omega)
      · rintro i x _ H6 hi s6 ⟨rfl, rfl⟩ Kn' Ky' kn' ky'
        refine ⟨rfl, lc_yes ⟨_, rfl, _, rfl, _, _, rfl, rfl, ky' _ ((i : Int) - (j : Nat)) _ (Same.refl _) ?_ ?_⟩⟩
        · show V.int (0 + (i : Int) - (j : Nat)) = V.int _
          rw [show (0 + (i : Int)) = i by omega]
        · rw [List.range_succ, List.map_append]
          rfl
      · intro H6 s6 r6
        obtain ⟨D2, e, _, hD⟩ := rl_int r6
        cases e
        refine ⟨D', _, rfl, SqL.of hD, ky _ (val (y, j)) _ ((same_new nT).trans s6) rfl ?_⟩
        rw [List.take_add_one, zix ey, List.map_append]
        rfl
    · intro H4 s4 r4
      rw [List.take_of_length_le (by rw [List.length_zipIdx]; exact Nat.le_refl _)] at r4
      obtain ⟨D2, e, _, hD⟩ := rl_int r4
      cases e
      exact ⟨D, _, rfl, SqL.of hD, q _ _ s4 rfl⟩
theorem ok_pe (F : Fun K "pegs_of" "pegs_of" sPe f fd) (B : Bn mg) : FnOk P w K mg base CX0 1 f fd ["picture"] spPe := by
  refine F.ok scPe (fun vs H Q E h => ?_) (fun cdv A outer s H vs Q E hr h => ?_)
  · obtain ⟨v, ns, rfl, _⟩ := h
    rfl
  · obtain ⟨v, ns, rfl, r, hl, q⟩ := h
    obtain ⟨a, rfl, _, ha⟩ := rl_int r
    refine ⟨_, pss_one (ps_ret (pe_lc (own := [("at", 1), ("number", 2)]) (g := gTup K 2 (gCons (gName 1) (gCons (gName 2) gNil))) (tt := tYes)
      (te := tOp _ (tOp _ (tOp _ (tVar 2) (tCB (rLen K) (tCons (tVar 0) tNil))) (tC _)) (tVar 1)) rfl scPe.nd
      (pi_enum (by rfl) B.enumerate (pa_cons (pv 0) pa_nil))
      (blkOk_by (own := [("at", 1), ("number", 2)]) (N := ["picture", "at", "number"]) (sc := defScope sPe) (by decide +kernel))
      (fun _ _ _ _ _ => pg_tup (by rfl) (pgs_cons (pg_name (i := 1) scPe.nd rfl (.inl rfl)) (pgs_cons (pg_name (i := 2) scPe.nd rfl (.inl rfl)) pgs_nil))) (fun _ _ _ _ _ => pts_nil)
      (fun _ _ _ _ _ => pe_op op_sub (pe_op op_sub (pe_op op_add (pv 2) (pe_callB c_len (by rfl) B.len PySem.boot_len (pa_cons (pv 0) pa_nil))) pe_int) (pv 1)))), ?_⟩
    let val : Int × Nat → Int := fun q => q.1 + ns.length - 1 - q.2
    refine ⟨_, rfl, a, _, rfl, SqL.of ha, fun D nD => ?_⟩
    refine lc_rep keeps_I (walk_enumI (K := K) (a := a) (ns := ns)) nD (fun j => (ns.zipIdx.take j).map val) rfl (fun j hj => ?_) (fun H' s' => s'.seq (SqL.of ha)) ?_ ?_
    · rw [List.length_map, List.length_take, List.length_zipIdx]
      exact small1000 (by omega)
    · rintro j x H4 H5 hj s4 ⟨T, y, rfl, nT, rfl, ey⟩ Kn Ky kn ky
      have ha5 := same_new (o := .tup [.int (j : Nat), .int y]) nT _ _ (s4 _ _ ha)
      refine ⟨T, _, rfl, SqT.of upd_same, rfl, _, _, rfl, _, _, rfl, rfl, rfl, lc_yes ?_⟩
      refine ⟨_, rfl, _, rfl, a, _, rfl, .inl (SqL.of ha5), _, _, rfl, rfl, _, _, rfl, rfl, _, rfl, _, _, rfl, rfl, ?_⟩
      refine ky _ (val (y, j)) _ (same_new nT) ?_ ?_
      · show V.int _ = V.int _
        rw [List.length_map]
      · rw [List.take_add_one, zix ey, List.map_append]
        rfl
    · intro H4 s4 r4
      rw [List.take_of_length_le (by rw [List.length_zipIdx]; exact Nat.le_refl _)] at r4
      exact q _ _ s4 r4
end
end Ct
namespace Ct
open PySem PySem.Spec PyProof.Rows L2
/-! ### sorted of a list of data, as some arrangement of its items -/
def rSortD (K : PySem.W.Frag) : List V → Hp → VK → Prop := fun vs H Q => ∃ (a : Addr) (xs : List V) (ds : List PyData), vs = [.ref a] ∧ SqL K H a xs ∧ DpAll K H xs ds ∧ PySem.W.AllAlike ds ∧ PySem.W.Sortable ds ∧ (∀ d ∈ ds, d.depth ≤ 8) ∧
  ∀ (ys : List V) (p : Addr), ys.Perm xs → H p = none → Q (.ref p) (upd H p (.lst ys))
theorem each_zip {K : PySem.W.Frag} {H : Hp} : ∀ {xs : List V} {us : List Value} {ds : List PyData}, Vals xs us → DpAll K H xs ds → PySem.W.EachIs (fun (u : Value) (b : V × PyData) => RelV b.1 u) us (xs.zip ds)
  | [], _, _, .nil, .nil => .nil
  | _ :: _, _, _, .cons r t, .cons _ t' => .cons r (each_zip t t')
theorem each_zip_dp {K : PySem.W.Frag} {H : Hp} {R : Value → PyData → Prop} (h : ∀ v u d, RelV v u → Dp K H v d → R u d) : ∀ {xs : List V} {us : List Value} {ds : List PyData}, Vals xs us → DpAll K H xs ds → PySem.W.EachIs (fun (u : Value) (b : V × PyData) => R u b.2) us (xs.zip ds)
  | [], _, _, .nil, .nil => .nil
  | _ :: _, _, _, .cons r t, .cons q t' => .cons (h _ _ _ r q) (each_zip_dp h t t')
theorem each_vals : ∀ {us : List Value} {bs : List (V × PyData)}, PySem.W.EachIs (fun (u : Value) (b : V × PyData) => RelV b.1 u) us bs → Vals (bs.map (·.1)) us
  | _, _, .nil => .nil
  | _, _, .cons r t => .cons r (each_vals t)
theorem zip_snd {K : PySem.W.Frag} {H : Hp} : ∀ {xs : List V} {ds : List PyData}, DpAll K H xs ds → (xs.zip ds).map (·.2) = ds ∧ (xs.zip ds).map (·.1) = xs
  | [], _, .nil => ⟨rfl, rfl⟩
  | x :: r, _, .cons _ t => by
    obtain ⟨h1, h2⟩ := zip_snd t
    constructor
    · rw [List.zip_cons_cons, List.map_cons, h1]
    · rw [List.zip_cons_cons, List.map_cons, h2]
theorem cr_sortD {X : Cx} (hu : X.A.units + 20 < cLine) : CallR X (.builtin "sorted") (rSortD X.K) := by
  intro _ s σ H _ _ Q I r ask
  obtain ⟨a, xs, ds, rfl, hs, hd, al, so, dp, q⟩ := ask
  obtain ⟨its, rv, hl, hz⟩ := Inv.list I hs
  rw [Vals.ref1 r]
  obtain ⟨z2, z1⟩ := zip_snd hd
  have hlen : (xs.zip ds).length = xs.length := by rw [← List.length_map (f := Prod.fst), z1]
  refine PySem.W.sorted_data (bs := xs.zip ds) (enc := fun b => b.2) (R := fun u b => RelV b.1 u) (vs := its) hl.isList (each_zip rv hd) (each_zip_dp (R := fun u d => ∃ as, Reads s.heap u d as) (fun v u d r' h' => Dp.reads I d v u h' r') rv hd)
    (by rw [z2]; exact al) (by rw [z2]; exact so) (by rw [hlen]; exact hz) (fun b hb => ?_) fun out ho eo => ?_
  · have hm : b.2 ∈ ds := by
      rw [← z2]
      exact List.mem_map.mpr ⟨b, hb, rfl⟩
    have := dp _ hm
    show X.A.units + 2 + b.2.depth < cLine
    omega
  · obtain ⟨ep, he'⟩ := PyProof.Rows.sortedAll_at s.heap its out.toArray
    have pm : (((xs.zip ds).mergeSort (PySem.W.dataLe false fun b => b.2)).map (·.1)).Perm xs := by
      have := (List.mergeSort_perm (xs.zip ds) (PySem.W.dataLe false fun b => b.2)).map (·.1)
      rw [z1] at this
      exact this
    refine ⟨.ref _, upd H (s.heap.objs.size + 1) (.lst (((xs.zip ds).mergeSort (PySem.W.dataLe false fun b => b.2)).map (·.1))), I.laid (t' := s.toks) (fun _ _ => PyProof.Rows.sortedAll_old) (Nat.le_succ _) ⟨?_, out, ep, each_vals eo, he'⟩, rfl, q _ _ pm (I.hok.fresh (Nat.le_succ _))⟩
    rw [pm.length_eq]
    exact hz
theorem paired_perm {α β : Type} {F : α → β → Prop} {xs ys : List α} (p : ys.Perm xs) : ∀ {ms : List β}, Paired F xs ms → ∃ ns, ns.Perm ms ∧ Paired F ys ns := by
  induction p with
  | nil =>
    intro ms h
    exact ⟨ms, .refl _, h⟩
  | cons x _ ih =>
    intro ms h
    cases h with
    | cons h t =>
      obtain ⟨ns, p1, p2⟩ := ih t
      exact ⟨_ :: ns, p1.cons _, .cons h p2⟩
  | swap x y l =>
    intro ms h
    cases h with
    | cons h t =>
      cases t with
      | cons h' t' => exact ⟨_ :: _ :: _, .swap _ _ _, .cons h' (.cons h t')⟩
  | trans _ _ ih1 ih2 =>
    intro ms h
    obtain ⟨ns, p1, p2⟩ := ih2 h
    obtain ⟨ks, p3, p4⟩ := ih1 p2
    exact ⟨ks, p3.trans p1, p4⟩
end Ct
namespace Ct
open PySem PySem.Spec PyProof.Rows L2
theorem cut_to (xs : List V) (i : Nat) (h : i ≤ xs.length) : cutV xs none (some (i : Int)) = xs.take i := by
  unfold cutV
  rw [HT.sIx_none, show HT.sIx xs.length xs.length (some (i : Int)) = min i xs.length from HT.sIx_nat xs.length xs.length i, List.drop_zero, Nat.sub_zero, show min i xs.length = i by omega]
theorem cut_from (xs : List V) (i : Nat) (h : i ≤ xs.length) : cutV xs (some (i : Int)) none = xs.drop i := by
  unfold cutV
  rw [HT.sIx_none, show HT.sIx xs.length 0 (some (i : Int)) = min i xs.length from HT.sIx_nat xs.length 0 i, show min i xs.length = i by omega]
  exact List.take_of_length_le (by rw [List.length_drop]; exact Nat.le_refl _)
def encKW (p : List Int × Int) : PyData := .tuple [dLI p.1, .int p.2]
theorem alike_KW (a b : List Int × Int) : PySem.W.alike (encKW a) (encKW b) = true := by
  unfold encKW
  have h := PySem.W.alike_ints a.1 b.1
  simp [PySem.W.alike, PySem.W.alikeAll, h]
theorem depth_KW (a : List Int × Int) : (encKW a).depth ≤ 8 := by
  have h := dep_ints a.1
  simp [encKW, PyData.depth, PyData.depthAll, h]
theorem dp_KW {K : PySem.W.Frag} {S : Addr → Prop} {H : Hp} {v : V} {p : List Int × Int} (r : RKW S H v p) : Dp K H v (encKW p) := by
  obtain ⟨a, x, y, rfl, _, ha, r1, r2⟩ := r
  obtain rfl : y = V.int p.2 := r2
  exact .tup (SqT.of ha) (.cons (dp_LI r1) (.cons (.int _) .nil))
theorem dps_KW {K : PySem.W.Frag} {S : Addr → Prop} {H : Hp} : ∀ {vs : List V} {ps : List (List Int × Int)}, Paired (RKW S H) vs ps → DpAll K H vs (ps.map encKW)
  | _, _, .nil => .nil
  | _, _, .cons h t => .cons (dp_KW h) (dps_KW t)
def spRi : Sp := fun vs H Q _ => ∃ (v : V) (ns : List Int) (k : Int), vs = [v, .int k] ∧ RL RI anyA H v ns ∧ ns.length ≤ 10 ∧ ∀ rs, rs.Perm (rimsL ns k) → Ret (RL RKW) H Q rs
section
variable {P : Program} {w : World} {K : PySem.W.Frag} {mg : Str → Option Value} {base : Heap} {f g gp : Addr} {fd gd gpd : FuncData}
theorem ok_pi (F : Fun K "picture_of" "picture_of" sPi f fd) (B : Bn mg) : FnOk P w K mg base CX0 1 f fd ["pegs"] spPi := by
  refine F.ok scPi (fun vs H Q E h => ?_) (fun cdv A outer s H vs Q E hr h => ?_)
  · obtain ⟨v, ns, rfl, _⟩ := h
    rfl
  · obtain ⟨v, ns, rfl, r, hl, q⟩ := h
    obtain ⟨a, rfl, _, ha⟩ := rl_int r
    refine ⟨_, pss_cons (ps_setLc (i := 1) (own := [("at", 2), ("peg", 3)]) (g := gTup K 2 (gCons (gName 2) (gCons (gName 3) gNil))) (tt := tYes)
        (te := tOp _ (tOp _ (tOp _ (tVar 3) (tCB (rLen K) (tCons (tVar 0) tNil))) (tC _)) (tVar 2)) rfl scPi.nd rfl rfl (sw_true rfl rfl rfl (by decide +kernel))
        (pi_enum (by rfl) B.enumerate (pa_cons (pe_callBK (cr_sortedRev (b := true)) (by rfl) B.sorted (by decide +kernel) (pa_cons (pv 0) pa_nil) (pk_cons pe_bl pk_nil)) pa_nil))
        (blkOk_by (own := [("at", 2), ("peg", 3)]) (N := ["pegs", "rows", "at", "peg", "number"]) (sc := defScope sPi) (by decide +kernel))
        (fun _ _ _ _ _ => pg_tup (by rfl) (pgs_cons (pg_name (i := 2) scPi.nd rfl (.inl rfl)) (pgs_cons (pg_name (i := 3) scPi.nd rfl (.inl rfl)) pgs_nil))) (fun _ _ _ _ _ => pts_nil)
        (fun _ _ _ _ _ => pe_op op_add (pe_op op_add (pe_op op_sub (pv 3) (pe_callB c_len (by rfl) B.len PySem.boot_len (pa_cons (pv 0) pa_nil))) pe_int) (pv 2)))
      (pss_one (ps_ret (pe_lc (own := [("number", 4)]) (g := gName 4) (tt := tTest (tOp _ (tVar 4) (tC _))) (te := tVar 4) rfl scPi.nd
        (pi_list (pv 1))
        (blkOk_by (own := [("number", 4)]) (N := ["pegs", "rows", "at", "peg", "number"]) (sc := defScope sPi) (by decide +kernel))
        (fun _ _ _ _ _ => pg_name (i := 4) scPi.nd rfl (.inl rfl)) (fun _ _ _ _ _ => pts_one (pt_cmpR op_gt (pv 4) pe_int (nomark _)))
        (fun _ _ _ _ _ => pv 4)))), ?_⟩
    refine ⟨_, rfl, a, ns, rfl, rfl, SqL.of ha, fun ns' p pm od np => ?_⟩
    obtain rfl : ns' = fall ns := fall_eq pm od
    have fl := fall_len ns
    let val : Int × Nat → Int := fun q => q.1 - ns.length + 1 + q.2
    refine ⟨p, _, rfl, SqL.of upd_same, fun D nD => ?_⟩
    have hap := same_new (o := .lst ((fall ns).map V.int)) np _ _ ha
    refine lc_rep keeps_I (walk_enumI (K := K) (a := p) (ns := fall ns)) nD (fun j => ((fall ns).zipIdx.take j).map val) rfl (fun j hj => ?_) (fun H' s' => s'.seq (SqL.of upd_same)) ?_ ?_
    · rw [List.length_map, List.length_take, List.length_zipIdx]
      exact small1000 (by omega)
    · rintro j x H4 H5 hj s4 ⟨T, y, rfl, nT, rfl, ey⟩ Kn Ky kn ky
      have ha5 := same_new (o := .tup [.int (j : Nat), .int y]) nT _ _ (s4 _ _ hap)
      refine ⟨T, _, rfl, SqT.of upd_same, rfl, _, _, rfl, _, _, rfl, rfl, rfl, lc_yes ?_⟩
      refine ⟨_, rfl, _, rfl, a, _, rfl, .inl (SqL.of ha5), _, _, rfl, rfl, _, _, rfl, rfl, _, rfl, _, _, rfl, rfl, ?_⟩
      refine ky _ (val (y, j)) _ (same_new nT) ?_ ?_
      · show V.int _ = V.int _
        rw [List.length_map]
      · rw [List.take_add_one, zix ey, List.map_append]
        rfl
    · intro H4 s4 r4
      rw [List.take_of_length_le (by rw [List.length_zipIdx]; exact Nat.le_refl _)] at r4
      obtain ⟨D1, e, sD, hD⟩ := rl_int r4
      cases e
      let rows := (fall ns).zipIdx.map val
      have rl : rows.length = ns.length := by
        show List.length (List.map _ _) = _
        rw [List.length_map, List.length_zipIdx, fl]
      refine ⟨_, rfl, D, rfl, ⟨_, SqL.of hD⟩, fun D2 nD2 => ?_⟩
      refine lc_rep keeps_I (walk_listI (K := K) (a := D) (ns := rows)) nD2 (fun j => (rows.take j).filter fun x => decide (0 < x)) rfl (fun j hj => ?_) (fun H' s' => s'.seq (SqL.of hD)) ?_ ?_
      · have := List.length_filter_le (fun x : Int => decide (0 < x)) (rows.take j)
        rw [List.length_take] at this
        exact small1000 (by omega)
      · rintro j x _ H5 hj s5 ⟨rfl, z, ez, rfl⟩ Kn Ky kn ky
        have es : (rows.take (j + 1)).filter (fun x => decide (0 < x)) = (rows.take j).filter (fun x => decide (0 < x)) ++ (if decide (0 < z) = true then [z] else []) := by
          rw [List.take_add_one, ez, List.filter_append]
          congr 1
          simp only [Option.toList_some, List.filter_cons, List.filter_nil]
        refine ⟨rfl, _, rfl, _, _, rfl, rfl, _, rfl, ?_⟩
        refine lc_if (fun c => ?_) fun c => ?_
        · rw [if_pos c] at es
          exact ⟨_, rfl, ky _ z _ (Same.refl _) rfl es⟩
        · rw [if_neg (by rw [c]; exact Bool.false_ne_true), List.append_nil] at es
          exact kn _ (Same.refl _) es
      · intro H5 s5 r5
        rw [List.take_length] at r5
        have s05 := ((same_new (o := .lst ((fall ns).map V.int)) np).trans s4)
        exact q _ _ (s05.trans s5) (keeps_LI.older r5 s05)
end
end Ct
namespace Ct
open PySem PySem.Spec PyProof.Rows L2
theorem pegs_len (ns : List Int) : (pegsL ns).length = ns.length := by
  unfold pegsL
  rw [List.length_map, List.length_zipIdx]
/-- one turn of rims -/
def rimAt (pegs : List Int) (k : Int) (q : Int × Nat) : Option (List Int × Int) :=
  if 0 ≤ q.1 - k ∧ ¬ (q.1 - k) ∈ pegs then
    some (pictureL (pegs.take q.2 ++ [q.1 - k] ++ pegs.drop (q.2 + 1)), ((pegs.filter fun x => decide (q.1 - k < x) && decide (x < q.1)).length : Int))
  else none
theorem rims_eq (ns : List Int) (k : Int) : rimsL ns k = (pegsL ns).zipIdx.filterMap (rimAt (pegsL ns) k) := rfl
section
variable {P : Program} {w : World} {K : PySem.W.Frag} {mg : Str → Option Value} {base : Heap} {f g gp : Addr} {fd gd gpd : FuncData}
theorem ok_ri (F : Fun K "rims" "rims" sRi f fd) (B : Bn mg)
    (GE : FnOk P w K mg base CX0 1 g gd ["picture"] spPe) (kE : PySem.W.keepIn K (.ref g) = true) (bE : Binds K gd ["picture"] []) (gE : mg "pegs_of" = some (.ref g))
    (GI : FnOk P w K mg base CX0 1 gp gpd ["pegs"] spPi) (kI : PySem.W.keepIn K (.ref gp) = true) (bI : Binds K gpd ["pegs"] []) (gI : mg "picture_of" = some (.ref gp)) : FnOk P w K mg base CX0 2 f fd ["picture", "k"] spRi := by
  refine F.ok scRi (fun vs H Q E h => ?_) (fun cdv A outer s H vs Q E hr h => ?_)
  · obtain ⟨v, ns, k, rfl, _⟩ := h
    rfl
  · obtain ⟨v, ns, k, rfl, r, hl, q⟩ := h
    obtain ⟨a, rfl, _, ha⟩ := rl_int r
    have hu20 : _ + 20 < cLine := Nat.lt_of_le_of_lt (Nat.add_le_add_left (by decide : 20 ≤ 16 * 1 + 200) _) (by have := hr.un; omega)
    refine ⟨_, pss_cons (ps_set (i := 2) scRi.nd rfl (.inl rfl) (pe_call GE hr (by rfl) gE kE bE .nil pass0 (pa_cons (pv 0) pa_nil)))
      (pss_cons (ps_set (i := 3) scRi.nd rfl (.inl rfl) (pe_lst pa_nil))
      (pss_cons (ps_for PassesOwn.never rfl (pi_enum (by rfl) B.enumerate (pa_cons (pv 2) pa_nil)) (pg_tup rfl (pgs_cons (pg_name (i := 4) scRi.nd rfl (.inl rfl)) (pgs_cons (pg_name (i := 5) scRi.nd rfl (.inr rfl)) pgs_nil)))
        (pss_cons (ps_set (i := 6) scRi.nd rfl (.inr rfl) (pe_op op_sub (pv 5) (pv 1)))
        (pss_one (ps_if (PW.pt (pw_and (pt_cmpR op_ge (pv 6) pe_int (nomark _)) (pw_and1 (pt_cmpR op_notIn_seq (pv 6) (pv 2) (by with_unfolding_all rfl)))))
          (pss_cons (ps_set (i := 7) scRi.nd rfl (.inl rfl) (pe_callB c_len (by rfl) B.len PySem.boot_len (pa_cons
            (pe_lc (own := [("other", 8)]) (g := gName 8) (tt := tTest (tChain _ _ (tVar 6) (tVar 8) (tVar 5))) (te := tVar 8) rfl scRi.nd (pi_list (pv 2))
              (blkOk_by (own := [("other", 8)]) (N := ["picture", "k", "pegs", "found", "at", "peg", "lower", "steps", "other"]) (sc := defScope sRi) (by decide +kernel))
              (fun _ _ _ _ _ => pg_name (i := 8) scRi.nd rfl (.inl rfl)) (fun _ _ _ _ _ => pts_one (pt_chain op_lt op_lt (pv 6) (pv 8) (pv 5)))
              (fun _ _ _ _ _ => pv 8)) pa_nil)))
          (pss_one (ps_expr (pe_bm PySem.F.plainAttrs_list PySem.F.slot_list_append PySem.F.type_list_append mt_append (pv 3)
            (pa_cons (pe_tup (pa_cons (pe_call GI hr (by rfl) gI kI bI .nil pass0 (pa_cons
                (pe_op op_cat (pe_op op_cat (pe_slice sl_list (pv 2) po_none (po_some (pv 4))) (pe_lst (pa_cons (pv 6) pa_nil))) (pe_slice sl_list (pv 2) (po_some (pe_op op_add (pv 4) pe_int)) po_none)) pa_nil))
              (pa_cons (pv 7) pa_nil))) pa_nil)))))
          pss_nil))))
      (pss_one (ps_ret (pe_callB (cr_sortD hu20) (by rfl) B.sorted (by decide +kernel) (pa_cons (pv 3) pa_nil)))))), ?_⟩
    refine ⟨_, rfl, .ref a, ns, rfl, int_rl trivial ha, by omega, fun H1 v1 s1 r1 => ?_⟩
    obtain ⟨pg, rfl, spg, hpg⟩ := rl_int r1
    have pl := pegs_len ns
    refine ⟨Nat.zero_le _, fun o no => ?_⟩
    have hpg0 := same_new (o := .lst []) no _ _ hpg
    refine ⟨_, rfl, pg, _, rfl, SqL.of hpg0, ?_⟩
    refine for_it (walk_enumI (K := K) (a := pg) (ns := pegsL ns)) (fun i σ H2 => ∃ y4 y5 y6 y7 y8, σ = [some (.ref a), some (.int k), some (.ref pg), some (.ref o), y4, y5, y6, y7, y8] ∧ Acc RKW H1 o H2 (((pegsL ns).zipIdx.take i).filterMap (rimAt (pegsL ns) k)))
      ⟨none, none, none, none, none, rfl, Acc.start no⟩ (fun i σ H2 _ ⟨_, _, _, _, _, _, A⟩ => A.same.seq (SqL.of hpg)) ?_ ?_
    · rintro i x σ H2 H3 hi ⟨y4, y5, y6, y7, y8, rfl, A2⟩ ⟨T, y, rfl, nT, rfl, ey⟩
      have A3 := A2.step keeps_KW (same_new (o := .tup [.int (i : Nat), .int y]) nT)
      have esc : (((pegsL ns).zipIdx.take (i + 1)).filterMap (rimAt (pegsL ns) k)) = (((pegsL ns).zipIdx.take i).filterMap (rimAt (pegsL ns) k)) ++ (rimAt (pegsL ns) k (y, i)).toList := by
        rw [List.take_add_one, zix ey, List.filterMap_append]
        congr 1
      refine ⟨T, _, rfl, SqT.of upd_same, rfl, _, _, rfl, _, _, rfl, rfl, ?_⟩
      generalize upd H2 T (.tup [.int (i : Nat), .int y]) = H3 at A3 ⊢
      have hpg3 := A3.same _ _ hpg
      have hi10 : i < ns.length := by omega
      -- lower = peg - k
      refine ⟨_, rfl, _, rfl, _, _, rfl, rfl, ?_⟩
      refine ⟨_, rfl, _, _, rfl, rfl, _, rfl, ite2 (fun c0 => ?_) (fun c0 => iteF ?_)⟩
      · have c0' : 0 ≤ y - k := of_decide_eq_true c0
        refine ⟨_, rfl, _, rfl, pg, _, rfl, .inl (SqL.of hpg3), rfl, by simp [flatV], _, rfl, ?_⟩
        show if (!inV (V.int (y - k)) ((pegsL ns).map V.int)) = true then _ else _
        rw [inV_ints]
        cases hc : (pegsL ns).contains (y - k) with
        | true =>
          refine iteF ⟨_, _, _, _, _, rfl, ?_⟩
          have e0 : rimAt (pegsL ns) k (y, i) = none := if_neg fun z => z.2 (List.contains_iff_mem.mp hc)
          rw [esc, e0, Option.toList_none, List.append_nil]
          exact A3
        | false =>
          refine iteT ?_
          have nin : ¬ (y - k) ∈ pegsL ns := fun z => by
            rw [List.contains_iff_mem.mpr z] at hc
            cases hc
          let cnt : List Int := (pegsL ns).filter fun x => decide (y - k < x) && decide (x < y)
          have e0 : rimAt (pegsL ns) k (y, i) = some (pictureL ((pegsL ns).take i ++ [y - k] ++ (pegsL ns).drop (i + 1)), (cnt.length : Int)) := if_pos ⟨c0', nin⟩
          -- steps = len([..])
          refine ⟨_, rfl, pg, rfl, ⟨_, SqL.of hpg3⟩, fun D nD => ?_⟩
          refine lc_rep keeps_I (walk_listI (K := K) (a := pg) (ns := pegsL ns)) nD (fun j => ((pegsL ns).take j).filter fun x => decide (y - k < x) && decide (x < y)) rfl (fun j hj => ?_) (fun H' s' => s'.seq (SqL.of hpg3)) ?_ ?_
          · have := List.length_filter_le (fun x : Int => decide (y - k < x) && decide (x < y)) ((pegsL ns).take j)
            rw [List.length_take] at this
            exact small1000 (by omega)
          · rintro j x _ H5 hj s5 ⟨rfl, z, ez, rfl⟩ Kn Ky kn ky
            have es : ((pegsL ns).take (j + 1)).filter (fun x => decide (y - k < x) && decide (x < y)) = ((pegsL ns).take j).filter (fun x => decide (y - k < x) && decide (x < y)) ++ (if (decide (y - k < z) && decide (z < y)) = true then [z] else []) := by
              rw [List.take_add_one, ez, List.filter_append]
              congr 1
              simp only [Option.toList_some, List.filter_cons, List.filter_nil]
            refine ⟨rfl, _, rfl, _, rfl, _, _, rfl, rfl, _, rfl, ite2 (fun c1 => ?_) (fun c1 => ?_)⟩
            · refine ⟨_, rfl, _, _, rfl, rfl, _, rfl, ?_⟩
              have c1' : decide (y - k < z) = true := c1
              rw [c1', Bool.true_and] at es
              refine lc_if (fun c => ?_) fun c => ?_
              · have c' : decide (z < y) = true := c
                rw [if_pos c'] at es
                exact ⟨_, rfl, ky _ z _ (Same.refl _) rfl es⟩
              · have c' : decide (z < y) = false := c
                rw [if_neg (by rw [c']; exact Bool.false_ne_true), List.append_nil] at es
                exact kn _ (Same.refl _) es
            · refine ⟨_, rfl, iteF ?_⟩
              have c1' : decide (y - k < z) = false := by
                cases h : decide (y - k < z) with
                | true => exact absurd h c1
                | false => rfl
              rw [c1', Bool.false_and, if_neg Bool.false_ne_true, List.append_nil] at es
              exact kn _ (Same.refl _) es
          · intro H4 s4 r4
            rw [List.take_length] at r4
            obtain ⟨D2, e, _, hD⟩ := rl_int r4
            cases e
            refine ⟨D, _, rfl, .inl (SqL.of hD), ?_⟩
            have A4 := A3.step keeps_KW s4
            obtain ⟨acc, eo⟩ := A4.at
            have hpg4 := A4.same _ _ hpg
            refine ⟨.ref o, rfl, .inl ⟨rfl, _, SqL.of eo⟩, ?_⟩
            let X1 := (pegsL ns).take i
            let X2 := (pegsL ns).drop (i + 1)
            have l1 : X1.length ≤ 10 := by
              show ((pegsL ns).take i).length ≤ 10
              rw [List.length_take]
              omega
            have l2 : X2.length ≤ 10 := by
              show ((pegsL ns).drop (i + 1)).length ≤ 10
              rw [List.length_drop]
              omega
            -- pegs[:at]
            refine ⟨.ref pg, rfl, _, rfl, (i : Int), rfl, pg, _, rfl, SqL.of hpg4, fun p1 n1 => ?_⟩
            rw [cut_to _ i (by rw [List.length_map]; omega), ← List.map_take]
            refine ⟨_, rfl, (by show 1 ≤ sizeLine; decide), fun p2 n2 => ?_⟩
            have g1 : (upd H4 p1 (.lst (X1.map V.int))) p1 = some (.lst (X1.map V.int)) := upd_same
            refine ⟨p1, p2, _, [.int (y - k)], rfl, rfl, by rw [upd_ne (ne_of_none g1 n2)]; exact g1, upd_same, ?_, fun p3 n3 => ?_⟩
            · rw [List.length_map]
              exact Nat.le_of_lt (small1000 (by
                show X1.length + 1 ≤ 1000
                omega))
            have s43 := ((same_new (o := .lst (X1.map V.int)) n1).trans (same_new (o := .lst [.int (y - k)]) n2)).trans (same_new (o := .lst (X1.map V.int ++ [.int (y - k)])) n3)
            refine ⟨.ref pg, rfl, _, rfl, _, _, rfl, rfl, _, rfl, pg, _, rfl, SqL.of (s43 _ _ hpg4), fun p4 n4 => ?_⟩
            rw [show ((i : Int) + 1) = ((i + 1 : Nat) : Int) by omega, cut_from _ (i + 1) (by rw [List.length_map]; omega), ← List.map_drop]
            refine ⟨p3, p4, X1.map V.int ++ [.int (y - k)], X2.map V.int, rfl, rfl, ?_, upd_same, ?_, fun p5 n5 => ?_⟩
            · exact same_new n4 _ _ upd_same
            · rw [List.length_append, List.length_map, List.length_map]
              exact Nat.le_of_lt (small1000 (by
                show X1.length + 1 + X2.length ≤ 1000
                omega))
            refine ⟨.ref p5, X1 ++ [y - k] ++ X2, rfl, int_rl trivial (by rw [upd_same, List.map_append, List.map_append]; rfl), ?_, fun H5 v5 s5 r5 => ?_⟩
            · rw [List.length_append, List.length_append]
              show ((pegsL ns).take i).length + 1 + ((pegsL ns).drop (i + 1)).length ≤ 20
              rw [List.length_take, List.length_drop]
              omega
            have s45 := (s43.trans (same_new (o := .lst (X2.map V.int)) n4)).trans (same_new (o := .lst (X1.map V.int ++ [.int (y - k)] ++ X2.map V.int)) n5)
            refine ⟨_, rfl, (by show 2 ≤ sizeLine; decide), fun t nt => ?_⟩
            dsimp only [tNil]
            refine A4.append (x := (pictureL (X1 ++ [y - k] ++ X2), (cnt.length : Int))) keeps_KW no ((s45.trans s5).trans (same_new nt)) ⟨t, v5, _, rfl, (s45.trans s5).free nt, upd_same, keeps_LI.same (keeps_LI.older r5 s45) (same_new nt), ?_⟩ ?_ fun H6 A6 _ => ⟨_, _, _, _, _, rfl, ?_⟩
            · show V.int _ = V.int _
              rw [List.length_map]
            · have := List.length_filterMap_le (rimAt (pegsL ns) k) ((pegsL ns).zipIdx.take i)
              rw [List.length_take] at this
              exact small1000 (by omega)
            · rw [esc, e0]
              exact A6
      · have e0 : rimAt (pegsL ns) k (y, i) = none := if_neg fun z => c0 (decide_eq_true z.1)
        refine ⟨_, _, _, _, _, rfl, ?_⟩
        rw [esc, e0, Option.toList_none, List.append_nil]
        exact A3
    · rintro σ H2 ⟨y4, y5, y6, y7, y8, rfl, A2⟩
      rw [List.take_of_length_le (by rw [List.length_zipIdx]; exact Nat.le_refl _), ← rims_eq] at A2
      obtain ⟨s12, acc, eo, pa⟩ := id A2
      refine ⟨_, rfl, o, acc, _, rfl, SqL.of eo, dps_KW pa, PySem.W.AllAlike.of alike_KW, PySem.W.Sortable.tuples (fun b => ⟨_, _, rfl⟩), fun d hd => ?_, fun ys p pm np => ?_⟩
      · obtain ⟨b, _, rfl⟩ := List.mem_map.mp hd
        exact depth_KW b
      · obtain ⟨rs, pr, pp⟩ := paired_perm pm pa
        have s02 : Same H H2 := s1.trans s12
        exact q rs pr _ _ (s02.trans (same_new np)) ⟨p, ys, rfl, s02.free np, upd_same, paired_mono (fun u z h => keeps_KW.same (keeps_KW.mono h fun b hb => s1.free hb.1) (same_new np)) pp⟩
end
end Ct
namespace Ct
open PySem PySem.Spec PyProof.Rows L2
/-! ### a dict of numbers by pairs of tuples: the memo -/
abbrev PK := List Int × List Int
def nkI (ns : List Int) : NestedKey := .tup (ns.map .num)
def nk (k : PK) : NestedKey := .tup [nkI k.1, nkI k.2]
theorem num_inj : ∀ {a b : List Int}, a.map NestedKey.num = b.map NestedKey.num → a = b := fun h => (List.map_inj_right (fun x y z => NestedKey.num.inj z)).mp h
theorem nk_inj {a b : PK} (h : nk a = nk b) : a = b := by
  have h1 := NestedKey.tup.inj h
  have h2 := (List.cons.inj h1).1
  have h3 := (List.cons.inj (List.cons.inj h1).2).1
  exact Prod.ext (num_inj (NestedKey.tup.inj h2)) (num_inj (NestedKey.tup.inj h3))
theorem dep_nums : ∀ ns : List Int, NestedKey.depthAll (ns.map .num) = 0
  | [] => by simp [NestedKey.depthAll]
  | n :: r => by
    rw [List.map_cons]
    simp [NestedKey.depthAll, NestedKey.depth, dep_nums r]
theorem nk_depth (k : PK) : (nk k).depth ≤ 8 := by
  have h1 := dep_nums k.1
  have h2 := dep_nums k.2
  simp [nk, nkI, NestedKey.depth, NestedKey.depthAll, h1, h2]
def NK (H : Hp) (b : Addr) (k : PK) : Prop := ∃ p q, H b = some (.tup [.ref p, .ref q]) ∧ H p = some (.tup (k.1.map V.int)) ∧ H q = some (.tup (k.2.map V.int))
theorem NK.stay {H H' : Hp} {b : Addr} {k : PK} (h : NK H b k) (s : ∀ c xs, H c = some (.tup xs) → H' c = some (.tup xs)) : NK H' b k := by
  obtain ⟨p, q, h1, h2, h3⟩ := h
  exact ⟨p, q, s _ _ h1, s _ _ h2, s _ _ h3⟩
theorem all_nums {h : Heap} : ∀ {ns : List Int} {us : List Value}, Vals (ns.map V.int) us → NestedAll h (ns.map .num) us
  | [], _, .nil => .nil
  | n :: r, _, .cons e t => by
    obtain ⟨tk, rfl⟩ := e
    exact .cons (.int n tk) (all_nums t)
theorem tup_key {P : Program} {w : World} {H : Hp} {h : Heap} {a : Addr} {ns : List Int} (ok : HOk P w H h) (e : H a = some (.tup (ns.map V.int))) : NestedIs h (nkI ns) (.ref a) := by
  obtain ⟨_, its, r, ob, h1, h2, n, h3⟩ := (show ObjOk P w H h a (.tup (ns.map V.int)) from ok a _ e)
  exact .tup h1 h2 h3 (all_nums r)
theorem nk_is {P : Program} {w : World} {H : Hp} {h : Heap} {b : Addr} {k : PK} (ok : HOk P w H h) (e : NK H b k) : (nestedKind P w).is h (nk k) b := by
  obtain ⟨p, q, h1, h2, h3⟩ := e
  obtain ⟨_, its, r, ob, g1, g2, n, g3⟩ := (show ObjOk P w H h b (.tup [.ref p, .ref q]) from ok b _ h1)
  refine ⟨.tup g1 g2 g3 ?_, nk_depth k⟩
  cases r with
  | cons r1 r' =>
    cases r' with
    | cons r2 r'' =>
      cases r''
      obtain rfl := (show _ = Value.ref p from r1)
      obtain rfl := (show _ = Value.ref q from r2)
      exact .cons (tup_key ok h2) (.cons (tup_key ok h3) .nil)
abbrev Ent := NestedKey × Addr × Value
def DObj (P : Program) (w : World) (d : Addr) (xs : List Ent) (h : Heap) : Prop := ∃ o es ep, h.get? d = some o ∧ o.ExactDict ∧ o.data = .dict es ep ∧ es.toList = xs.map (entryOfKey (nestedKind P w)) ∧ (xs.map (·.1)).Nodup
def DHO (P : Program) (w : World) (d : Addr) (xs : List Ent) : HO := .ext (DObj P w d xs)
theorem dobj_ok {P : Program} {w : World} {H : Hp} {h : Heap} {d : Addr} {xs : List Ent} (e : DObj P w d xs h) : ObjOk P w H h d (DHO P w d xs) := by
  obtain ⟨o, es, ep, h1, r⟩ := id e
  refine ⟨e, ⟨o, h1⟩, fun h1 h2 p k => ?_⟩
  obtain ⟨o', es', ep', g1, r'⟩ := p
  exact ⟨o', es', ep', k _ g1, r'⟩
/-- the kinds that are asked -/
def InR (k : PK) : Prop := ∃ n, n ≤ 10 ∧ k.1 ∈ K n ∧ k.2 ∈ K n
structure EntOk (H : Hp) (x : Ent) : Prop where
  ex : ∃ k t, InR k ∧ x.1 = nk k ∧ NK H x.2.1 k ∧ x.2.2 = .int (chi k.1 k.2) t
structure Memo (P : Program) (w : World) (H : Hp) (d : Addr) (xs : List Ent) : Prop where
  ns : (d == sysModules) = false
  ob : H d = some (DHO P w d xs)
  nd : (xs.map (·.1)).Nodup
  en : ∀ x ∈ xs, EntOk H x
def has (xs : List Ent) (k : PK) : Bool := (atKey xs (nk k)).isSome
theorem Memo.stay {P : Program} {w : World} {H H' : Hp} {d : Addr} {xs : List Ent} (m : Memo P w H d xs) (e : ∀ o, H d = some o → H' d = some o) (s : ∀ c xs, H c = some (.tup xs) → H' c = some (.tup xs)) : Memo P w H' d xs := by
  refine ⟨m.ns, e _ m.ob, m.nd, fun x hx => ?_⟩
  obtain ⟨k, t, r, e1, e2, e3⟩ := (m.en x hx).ex
  exact ⟨k, t, r, e1, e2.stay s, e3⟩
theorem Memo.same {P : Program} {w : World} {H H' : Hp} {d : Addr} {xs : List Ent} (m : Memo P w H d xs) (s : Same H H') : Memo P w H' d xs := m.stay (fun o => s d o) fun c xs => s c _
/-- all keys that there can be -/
def allKeys : List NestedKey := (List.range 11).flatMap fun n => (K n).flatMap fun p => (K n).map fun k => nk (p, k)
theorem len_sub {α : Type} [DecidableEq α] : ∀ {l m : List α}, l.Nodup → (∀ x ∈ l, x ∈ m) → l.length ≤ m.length
  | [], _, _, _ => Nat.zero_le _
  | x :: r, m, nd, h => by
    have hx := h x List.mem_cons_self
    have nd' := List.nodup_cons.mp nd
    have ih := len_sub (l := r) (m := m.erase x) nd'.2 fun y hy => by
      have ne : y ≠ x := fun e => nd'.1 (e ▸ hy)
      exact (List.mem_erase_of_ne ne).mpr (h y (List.mem_cons_of_mem _ hy))
    have := List.length_erase_of_mem hx
    have : 0 < m.length := List.length_pos_of_mem hx
    rw [List.length_cons]
    omega
theorem fm_len {α β : Type} {f : α → List β} {b : Nat} : ∀ {l : List α}, (∀ x ∈ l, (f x).length ≤ b) → (l.flatMap f).length ≤ l.length * b
  | [], _ => by simp
  | x :: r, h => by
    rw [List.flatMap_cons, List.length_append, List.length_cons, Nat.succ_mul]
    have h1 := h x List.mem_cons_self
    have h2 := fm_len (l := r) fun y hy => h y (List.mem_cons_of_mem _ hy)
    omega
theorem keys_few : allKeys.length ≤ 11 * (42 * 42) := by
  refine fm_len (l := List.range 11) (b := 42 * 42) fun n hn => ?_
  have hn' := List.mem_range.mp hn
  have kl := (K_fit n hn').1
  refine Nat.le_trans (fm_len (b := 42) fun p hp => ?_) (Nat.mul_le_mul_right 42 kl)
  rw [List.length_map]
  exact kl
theorem memo_few {H : Hp} {xs : List Ent} (nd : (xs.map (·.1)).Nodup) (h : ∀ x ∈ xs, EntOk H x) : xs.length ≤ 20000 := by
  have h1 : (xs.map (·.1)).length ≤ allKeys.length := len_sub nd fun y hy => by
    obtain ⟨x, hx, rfl⟩ := List.mem_map.mp hy
    obtain ⟨k, t, ⟨n, hn, r1, r2⟩, e1, _⟩ := (h x hx).ex
    rw [e1]
    exact List.mem_flatMap.mpr ⟨n, List.mem_range.mpr (by omega), List.mem_flatMap.mpr ⟨k.1, r1, List.mem_map.mpr ⟨k.2, r2, rfl⟩⟩⟩
  have := keys_few
  rw [List.length_map] at h1
  omega
theorem at_mem {xs : List Ent} {k : NestedKey} {p : Addr × Value} (h : atKey xs k = some p) : ∃ x ∈ xs, x.1 = k ∧ x.2 = p := by
  unfold atKey at h
  obtain ⟨x, hx, rfl⟩ := Option.map_eq_some_iff.mp h
  exact ⟨x, List.mem_of_find?_eq_some hx, by simpa using List.find?_some hx, rfl⟩
end Ct
namespace Ct
open PySem PySem.Spec PyProof.Rows L2
section
variable {X : Cx} {pins : List (Addr × Obj)} {σ : L2.St} {H : Hp} {s : Shared} {d b : Addr} {k : PK} {xs : List Ent}
theorem memo_raw (I : Inv X pins σ H s) (m : Memo X.prog X.w H d xs) : s.heap.DictOfH (nestedKind X.prog X.w) d xs := by
  obtain ⟨o, es, ep, g1, g2, g3, g4, g5⟩ := (I.hok d _ m.ob).1
  refine ⟨o, es, ep, g1, g2, g3, g4, fun x hx => ?_, g5⟩
  obtain ⟨k, t, _, e1, e2, _⟩ := (m.en x hx).ex
  rw [e1]
  exact nk_is I.hok e2
/-! ### the readings -/
def tMGet (P : Program) (w : World) (td ty : TE) : TE := fun σ H Q => td σ H fun x H1 => ty σ H1 fun y H2 => ∃ d b k xs, x = .ref d ∧ y = .ref b ∧ Memo P w H2 d xs ∧ NK H2 b k ∧ has xs k = true ∧ Q (.int (chi k.1 k.2)) H2
def tMNot (P : Program) (w : World) (ty td : TE) : TE := fun σ H Q => ty σ H fun y H1 => td σ H1 fun x H2 => ∃ d b k xs, x = .ref d ∧ y = .ref b ∧ Memo P w H2 d xs ∧ NK H2 b k ∧ Q (.bl (!has xs k)) H2
def sMPut (P : Program) (w : World) (td ty tv : TE) : TS := fun D σ H => tv σ H fun v H1 => td σ H1 fun x H2 => ty σ H2 fun y H3 => ∃ d b k xs, x = .ref d ∧ y = .ref b ∧ Memo P w H3 d xs ∧ NK H3 b k ∧ InR k ∧ v = .int (chi k.1 k.2) ∧
  ∀ H4 ys, (∀ c o, c ≠ d → H3 c = some o → H4 c = some o) → Memo P w H4 d ys → has ys k = true → D.nx σ H4
variable {o i e value : Expr} {pos pos' : Pos} {td ty tv : TE}
theorem pe_mget (hu : X.A.units + 20 < cLine) (ho : PE X o td) (hi : PE X i ty) (hs : NoSl i) : PE X (.Subscript o i pos) (tMGet X.prog X.w td ty) := by
  refine ⟨fun pins s σ H Q I h => ?_⟩
  refine subD_of PySem.F.slot_dict_getitem.lookup hs (thn (ho.run pins s σ H _ I h) fun u s1 ⟨x, H1, I1, rx, q1⟩ => thn (hi.run pins s1 σ H1 _ I1 q1) fun iv s2 ⟨y, H2, I2, ry, d, b, k, xs, ex, ey, m, kk, hs, q2⟩ => ?_)
  subst ex
  subst ey
  obtain rfl : u = Value.ref d := rx
  obtain rfl : iv = Value.ref b := ry
  have dd := memo_raw I2 m
  obtain ⟨p, hp⟩ := Option.isSome_iff_exists.mp hs
  obtain ⟨x, hx, e1, e2⟩ := at_mem hp
  obtain ⟨k', t, _, f1, f2, f3⟩ := (m.en x hx).ex
  obtain rfl : k' = k := nk_inj (f1.symm.trans e1)
  refine ⟨dd.typeIs, wpAny_getItem_heap (knd := nestedKind X.prog X.w) (by show X.A.units + 1 + 8 < cLine; omega) (nk_is I2.hok kk) dd hp ?_⟩
  exact ⟨.int (chi k'.1 k'.2), H2, I2.tok _, ⟨t, by rw [← e2]; exact f3⟩, q2⟩
theorem pc_mnot (hu : X.A.units + 20 < cLine) (hi : PE X i ty) (ho : PE X o td) : PC X .NotIn i o (tMNot X.prog X.w ty td) := by
  refine ⟨fun pins s σ H Q I h => ?_⟩
  refine thn (hi.run pins s σ H _ I h) fun iv s1 ⟨y, H1, I1, ry, q1⟩ => thn (ho.run pins s1 σ H1 _ I1 q1) fun u s2 ⟨x, H2, I2, rx, d, b, k, xs, ex, ey, m, kk, q2⟩ => ?_
  subst ex
  subst ey
  obtain rfl : u = Value.ref d := rx
  obtain rfl : iv = Value.ref b := ry
  exact wpAny_notIn_heap (knd := nestedKind X.prog X.w) (by show X.A.units + 1 + 8 < cLine; omega) (nk_is I2.hok kk) m.ns (memo_raw I2 m) ⟨.bl (!has xs k), H2, I2.tok _, rfl, q2⟩
theorem stored_has (xs : List Ent) (k : NestedKey) (a : Addr) (v : Value) : (atKey (storedH xs k a v) k).isSome = true := by
  unfold storedH
  by_cases h : (atKey xs k).isSome = true
  · rw [if_pos h]
    obtain ⟨p, hp⟩ := Option.isSome_iff_exists.mp h
    obtain ⟨x, hx, e1, _⟩ := at_mem hp
    unfold atKey
    rw [Option.isSome_map, List.find?_isSome]
    refine ⟨putAt k v x, List.mem_map.mpr ⟨x, hx, rfl⟩, ?_⟩
    unfold putAt
    rw [if_pos e1]
    exact decide_eq_true e1
  · rw [if_neg h]
    unfold atKey
    rw [Option.isSome_map, List.find?_isSome]
    exact ⟨(k, a, v), List.mem_append_right _ List.mem_cons_self, decide_eq_true rfl⟩
theorem stored_mem {xs : List Ent} {k : NestedKey} {a : Addr} {v : Value} {y : Ent} (h : y ∈ storedH xs k a v) : y ∈ xs ∨ (∃ x ∈ xs, x.1 = k ∧ y = (x.1, x.2.1, v)) ∨ y = (k, a, v) := by
  unfold storedH at h
  by_cases c : (atKey xs k).isSome = true
  · rw [if_pos c] at h
    obtain ⟨x, hx, rfl⟩ := List.mem_map.mp h
    unfold putAt
    by_cases e : x.1 = k
    · rw [if_pos e]
      exact .inr (.inl ⟨x, hx, e, rfl⟩)
    · rw [if_neg e]
      exact .inl hx
  · rw [if_neg c] at h
    rcases List.mem_append.mp h with h | h
    · exact .inl h
    · exact .inr (.inr (List.mem_singleton.mp h))
theorem ps_mput (hu : X.A.units + 20 < cLine) (ho : PE X o td) (hi : PE X i ty) (hv : PE X value tv) (hs : swapsWith value (some (.Subscript o i pos')) pos.line X.env = pure false) : PS X (.Assign [.Subscript o i pos'] value pos) (sMPut X.prog X.w td ty tv) := by
  refine ⟨fun pins s σ H D I h => ?_⟩
  refine wpAny_Assign_Subscript (thn (hv.run pins s σ H _ I h) fun r s1 ⟨v, H1, I1, rv, q1⟩ => thn (ho.run pins s1 σ H1 _ I1 q1) fun u s2 ⟨x, H2, I2, rx, q2⟩ => thn (hi.run pins s2 σ H2 _ I2 q2) fun iv s3 ⟨y, H3, I3, ry, d, b, k, xs, ex, ey, m, kk, hr, ev, q3⟩ => ?_) hs
  subst ex
  subst ey
  subst ev
  obtain rfl : u = Value.ref d := rx
  obtain rfl : iv = Value.ref b := ry
  obtain ⟨t, rfl⟩ : ∃ t, r = Value.int (chi k.1 k.2) t := rv
  have few := memo_few m.nd m.en
  refine wpAny_setItem_heap (knd := nestedKind X.prog X.w) (by show X.A.units + 1 + 8 < cLine; omega) (nk_is I3.hok kk) (memo_raw I3 m) (fun h' dd' sb => ?_) (by rw [sizeLine_eq]; omega)
  obtain ⟨ob, es, ep, g1, g2, g3, g4, _, g5⟩ := dd'
  have new : DObj X.prog X.w d (storedH xs (nk k) b (.int (chi k.1 k.2) t)) h' := ⟨ob, es, ep, g1, g2, g3, g4, g5⟩
  have I4 := d_write (t' := s3.toks + (nestedKind X.prog X.w).draws (nk k)) I3 (by rw [m.ob]; exact True.intro) sb ⟨ob, g1⟩ (dobj_ok (H := upd H3 d (DHO X.prog X.w d (storedH xs (nk k) b (.int (chi k.1 k.2) t)))) new)
  have tups : ∀ c ys, H3 c = some (.tup ys) → (upd H3 d (DHO X.prog X.w d (storedH xs (nk k) b (.int (chi k.1 k.2) t)))) c = some (.tup ys) := fun c ys e => by
    rw [upd_ne (ne_of e m.ob (fun z => nomatch z))]
    exact e
  refine ⟨σ, _, I4, q3 _ (storedH xs (nk k) b (.int (chi k.1 k.2) t)) (fun c o hc e => by rw [upd_ne hc]; exact e) ⟨m.ns, upd_same, g5, fun y hy => ?_⟩ (stored_has xs (nk k) b _)⟩
  rcases stored_mem hy with h1 | ⟨x, hx, e1, rfl⟩ | rfl
  · obtain ⟨k', t', r, f1, f2, f3⟩ := (m.en y h1).ex
    exact ⟨k', t', r, f1, f2.stay tups, f3⟩
  · obtain ⟨k', t', r, f1, f2, f3⟩ := (m.en x hx).ex
    obtain rfl : k' = k := nk_inj (f1.symm.trans e1)
    exact ⟨k', t, r, f1, f2.stay tups, rfl⟩
  · exact ⟨k, t, hr, rfl, kk.stay tups, rfl⟩
/-- {}, to be the memo -/
def tMNew (P : Program) (w : World) : TE := fun _ H Q => ∀ p, H p = none → Memo P w (upd H p (DHO P w p [])) p [] → Q (.ref p) (upd H p (DHO P w p []))
theorem pe_mnew : PE X (.Dict [] [] pos) (tMNew X.prog X.w) := ⟨fun pins s σ H Q I h => by
  have hb := I.big
  have ob : DObj X.prog X.w s.heap.objs.size [] (s.heap.push { cls := .type "dict", data := .dict #[] }) := ⟨_, #[], 0, Heap.get?_push_size _ rfl, ⟨rfl, rfl, rfl⟩, rfl, rfl, List.nodup_nil⟩
  refine wpAny_Dict_empty ⟨.ref s.heap.objs.size, _, I.laid (a := s.heap.objs.size) (o := DHO X.prog X.w s.heap.objs.size []) (t' := s.toks) (fun _ _ q => Heap.get?_push_of_some _ q) (Nat.le_refl _) (dobj_ok ob), rfl, h _ (I.hok.fresh (Nat.le_refl _)) ⟨?_, upd_same, List.nodup_nil, fun x hx => nomatch hx⟩⟩
  exact beq_eq_false_iff_ne.mpr (Ne.symm (Nat.ne_of_lt hb))⟩
end
end Ct
namespace Ct
theorem chk_at {n : Nat} (hn : n < 11) {p k : List Int} (hp : p ∈ K n) (hk : k ∈ K n) : chk1 n p k = true := by
  have h := chk_all n hn
  unfold chkN at h
  rw [K_eq n hn] at hp hk
  have h' := List.all_eq_true.mp h p hp
  unfold chkP at h'
  exact List.all_eq_true.mp h' k hk
theorem rims_in {n : Nat} (hn : n < 11) {p r : List Int} {a : Int} (hp : p ∈ K n) (hk : a :: r ∈ K n) :
    0 < a ∧ a ≤ n ∧ r ∈ K (n - a.toNat) ∧ (∀ q ∈ rimsL p a, q.1 ∈ K (n - a.toNat)) ∧ tabAt n p (a :: r) = ((rimsL p a).map fun (q : List Int × Int) => sgn q.2 * tabAt (n - a.toNat) q.1 r).sum := by
  have h := chk_at hn hp hk
  unfold chk1 at h
  simp only [Bool.and_eq_true, decide_eq_true_eq, List.all_eq_true] at h
  obtain ⟨⟨⟨⟨h1, h2⟩, h3⟩, h4⟩, h5⟩ := h
  rw [← K_eq _ (by omega)] at h3 h4
  exact ⟨h1, h2, h3, h4, h5⟩
theorem chi_tab : ∀ (k : List Int) (n : Nat) (p : List Int), n < 11 → p ∈ K n → k ∈ K n → chi p k = tabAt n p k
  | [], n, p, hn, hp, hk => by
    have h := chk_at hn hp hk
    unfold chk1 at h
    rw [of_decide_eq_true h, chi]
  | a :: r, n, p, hn, hp, hk => by
    obtain ⟨h1, h2, h3, h4, h5⟩ := rims_in hn hp hk
    rw [chi, h5]
    congr 1
    exact List.map_congr_left fun q hq => by rw [chi_tab r _ q.1 (by omega) (h4 q hq) h3]
end Ct
namespace Ct
open PySem PySem.Spec PyProof.Rows L2
theorem perm_sum {l m : List Int} (p : l.Perm m) : l.sum = m.sum := by
  induction p with
  | nil => rfl
  | cons x _ ih => rw [List.sum_cons, List.sum_cons, ih]
  | swap x y l =>
    simp only [List.sum_cons]
    omega
  | trans _ _ h1 h2 => exact h1.trans h2
abbrev sNI : Stmt := inClass (topS 25) 0
abbrev sAt : Stmt := inClass (topS 25) 1
theorem scNI : FnScope ["self"] ["self"] (defScope sNI) := ⟨rfl, rfl, rfl, by decide +kernel, rfl, by decide +kernel, by decide +kernel⟩
theorem scAt : FnScope ["self", "picture", "kind", "key", "found", "left", "steps"] ["self", "picture", "kind"] (defScope sAt) := ⟨rfl, rfl, rfl, by decide +kernel, rfl, by decide +kernel, by decide +kernel⟩
/-- the class as the top has made it -/
structure Nm (K : PySem.W.Frag) (mg : Str → Option Value) (C : Addr) : Prop where
  cl : Cls K C
  nK : NoAttr K C "known"
  mgC : mg "Numbers" = some (.ref C)
structure NumAt (P : Program) (w : World) (C : Addr) (H : Hp) (x d : Addr) (xs : List Ent) : Prop where
  ob : ∃ dx, H x = some (.ins C dx [(("known" : Str), V.ref d)])
  me : Memo P w H d xs
def spNI (P : Program) (w : World) (C : Addr) : Sp := fun vs H Q _ => ∃ (p dx : Addr), vs = [.ref p] ∧ H p = some (.ins C dx []) ∧ ∀ (d : Addr) (H' : Hp), H d = none → NumAt P w C H' p d [] → (∀ b o, H b = some o → b ≠ p → H' b = some o) → Q .non H'
def spAt (P : Program) (w : World) (C : Addr) (dep : Nat) : Sp := fun vs H Q _ => ∃ (x d : Addr) (vp vk : V) (p k : List Int) (n : Nat) (xs : List Ent), vs = [.ref x, vp, vk] ∧ NumAt P w C H x d xs ∧ RL RI anyA H vp p ∧ RL RI anyA H vk k ∧
  n ≤ 10 ∧ p ∈ K n ∧ k ∈ K n ∧ k.length ≤ dep ∧ ∀ H' ys, (∀ b o, b ≠ d → H b = some o → H' b = some o) → Memo P w H' d ys → Q (.int (chi p k)) H'
section
variable {P : Program} {w : World} {K : PySem.W.Frag} {mg : Str → Option Value} {base : Heap} {f g C : Addr} {fd gd : FuncData}
theorem ok_ni (F : Fun K "__init__" "Numbers.__init__" sNI f fd) (N : Nm K mg C) : FnOk P w K mg base CX0 1 f fd ["self"] (spNI P w C) := by
  refine F.ok scNI (fun vs H Q E h => ?_) (fun cdv A outer s H vs Q E hr h => ?_)
  · obtain ⟨p, dx, rfl, _⟩ := h
    rfl
  · obtain ⟨p, dx, rfl, hp, q⟩ := h
    refine ⟨_, pss_one (ps_fld (pv 0) pe_mnew rfl), ?_⟩
    intro d nd m
    have npd : p ≠ d := ne_of_none hp nd
    refine ⟨_, rfl, p, C, dx, [], rfl, (by rw [upd_ne npd]; exact hp), N.cl, N.nK, (by show 0 < 1000; decide), ?_⟩
    refine q d _ nd ⟨⟨dx, upd_same⟩, m.ns, by rw [upd_ne npd.symm]; exact m.ob, m.nd, fun x hx => nomatch hx⟩ fun b o e hb => ?_
    rw [upd_ne hb, upd_ne (ne_of_none e nd)]
    exact e
theorem ok_at (F : Fun K "at" "Numbers.at" sAt f fd) (bF : Binds K fd ["self", "picture", "kind"] []) (mA : Meth K C "at" f) (N : Nm K mg C) (B : Bn mg)
    (GR : FnOk P w K mg base CX0 2 g gd ["picture", "k"] spRi) (kR : PySem.W.keepIn K (.ref g) = true) (bR : Binds K gd ["picture", "k"] []) (gR : mg "rims" = some (.ref g)) :
    ∀ dep, FnOk P w K mg base CX0 (dep + 3) f fd ["self", "picture", "kind"] (spAt P w C dep) := by
  intro dep
  induction dep with
  | zero =>
    refine F.ok scAt (fun vs H Q E h => ?_) (fun cdv A outer s H vs Q E hr h => ?_)
    · obtain ⟨x, d, vp, vk, p, k, n, xs, rfl, _⟩ := h
      rfl
    · obtain ⟨x, d, vp, vk, p, k, n, xs, rfl, na, rp, rk, hn, hp, hk, hl, q⟩ := h
      obtain rfl : k = [] := List.eq_nil_of_length_eq_zero (by omega)
      refine ⟨_, pss_cons (ps_if (pt_cmpR (op_eqD hr.units) (pv 2) (pe_lst pa_nil) (nomark _)) (pss_one (ps_ret pe_int)) pss_nil) pss_never, ?_⟩
      refine ⟨_, rfl, Nat.zero_le _, fun l nl => ⟨dLI [], dLI [], dp_LI (keeps_LI.same rk (same_new nl)), dp_LI (S := anyA) (int_rl trivial upd_same), shaped_LI _, shaped_LI _, _, rfl, ?_⟩⟩
      rw [eqv_LI, decide_eq_true rfl]
      refine iteT ?_
      exact q _ xs (fun b o _ e => same_new nl _ _ e) (na.me.same (same_new nl))
  | succ dep ih =>
    refine F.ok scAt (fun vs H Q E h => ?_) (fun cdv A outer s H vs Q E hr h => ?_)
    · obtain ⟨x, d, vp, vk, p, k, n, xs, rfl, _⟩ := h
      rfl
    · obtain ⟨x, d, vp, vk, p, k, n, xs, rfl, na, rp, rk, hn, hp, hk, hl, q⟩ := h
      have hr2 : Room 2 _ := hr.mono (by omega)
      have hu20 : _ + 20 < cLine := Nat.lt_of_le_of_lt (Nat.add_le_add_left (by omega : 20 ≤ 16 * (dep + 3) + 200) _) (by have := hr.un; omega)
      refine ⟨_, pss_cons (ps_if (pt_cmpR (op_eqD hr.units) (pv 2) (pe_lst pa_nil) (nomark _)) (pss_one (ps_ret pe_int)) pss_nil)
        (pss_cons (ps_set (i := 3) scAt.nd rfl (.inl rfl) (pe_tup (pa_cons (pe_callTy c_tup (by rfl) B.tuple (by decide +kernel) (pa_cons (pv 1) pa_nil)) (pa_cons (pe_callTy c_tup (by rfl) B.tuple (by decide +kernel) (pa_cons (pv 2) pa_nil)) pa_nil))))
        (pss_cons (ps_if (pt_cmp (pc_mnot hu20 (pv 3) (pe_fld (pv 0) rfl)))
          (pss_cons (ps_set (i := 4) scAt.nd rfl (.inl rfl) pe_int)
          (pss_cons (ps_for PassesOwn.never rfl (pi_list (pe_call GR hr2 (by rfl) gR kR bR .nil pass0 (pa_cons (pv 1) (pa_cons (pe_ix ix_list (pv 2) pe_int (fun _ _ => rfl)) pa_nil))))
              (pg_tup rfl (pgs_cons (pg_name (i := 5) scAt.nd rfl (.inl rfl)) (pgs_cons (pg_name (i := 6) scAt.nd rfl (.inl rfl)) pgs_nil)))
            (pss_one (ps_aug (i := 4) scAt.nd rfl (.inl rfl) (pe_op op_mul (pe_op op_sub pe_int (pe_op op_mul pe_int (pe_op op_mod (pv 6) pe_int)))
              (pe_meth (pv 0) N.cl mA ih hr bF .nil pass0 (pa_cons (pv 5) (pa_cons (pe_slice sl_list (pv 2) (po_some pe_int) po_none) pa_nil)))) ip_add)))
          (pss_one (ps_mput hu20 (pe_fld (pv 0) rfl) (pv 3) (pv 4) rfl))))
          pss_nil)
        (pss_one (ps_ret (pe_mget hu20 (pe_fld (pv 0) rfl) (pv 3) (fun _ _ => rfl)))))), ?_⟩
      obtain ⟨⟨dx, hx⟩, me⟩ := na
      obtain ⟨bp, rfl, _, hbp⟩ := rl_int rp
      obtain ⟨bk, rfl, _, hbk⟩ := rl_int rk
      refine ⟨_, rfl, Nat.zero_le _, fun l nl => ⟨dLI k, dLI [], dp_LI (keeps_LI.same rk (same_new nl)), dp_LI (S := anyA) (int_rl trivial upd_same), shaped_LI _, shaped_LI _, _, rfl, ?_⟩⟩
      rw [eqv_LI]
      have s1 : Same H (upd H l (.lst [])) := same_new nl
      refine ite2 (fun c => ?_) (fun c => ?_)
      · obtain rfl : k = [] := of_decide_eq_true c
        have e : chi p [] = 1 := by rw [chi]
        rw [e] at q
        exact q _ xs (fun b o _ e => s1 _ _ e) (me.same s1)
      · obtain ⟨a, r, rfl⟩ : ∃ a r, k = a :: r := by
          cases k with
          | nil => exact absurd (decide_eq_true rfl) c
          | cons a r => exact ⟨a, r, rfl⟩
        generalize upd H l (.lst []) = H1 at s1 ⊢
        obtain ⟨f1, f2, f3, f4, _⟩ := rims_in (by omega) hp hk
        have kp := (K_fit n (by omega)).2.2 p hp
        refine ⟨_, rfl, bp, _, rfl, .inl ⟨SqL.of (s1 _ _ hbp), fun t1 n1 => ?_⟩⟩
        have s2 := s1.trans (same_new (o := .tup (p.map V.int)) n1)
        refine ⟨_, rfl, bk, _, rfl, .inl ⟨SqL.of (s2 _ _ hbk), fun t2 n2 => ?_⟩⟩
        have s3 := s2.trans (same_new (o := .tup ((a :: r).map V.int)) n2)
        refine ⟨(by show 2 ≤ sizeLine; decide), fun t3 n3 => ?_⟩
        have s4 := s3.trans (same_new (o := .tup [.ref t1, .ref t2]) n3)
        have nk4 : NK (upd (upd (upd H1 t1 (.tup (p.map V.int))) t2 (.tup ((a :: r).map V.int))) t3 (.tup [.ref t1, .ref t2])) t3 (p, a :: r) :=
          ⟨t1, t2, upd_same, same_new n3 _ _ (same_new n2 _ _ upd_same), same_new n3 _ _ upd_same⟩
        generalize upd (upd (upd H1 t1 (.tup (p.map V.int))) t2 (.tup ((a :: r).map V.int))) t3 (.tup [.ref t1, .ref t2]) = H4 at s4 nk4 ⊢
        have me4 := me.same s4
        have inr : InR (p, a :: r) := ⟨n, hn, hp, hk⟩
        refine ⟨_, rfl, _, rfl, x, C, dx, _, _, rfl, s4 _ _ hx, N.cl, N.nK, rfl, d, t3, (p, a :: r), xs, rfl, rfl, me4, nk4, _, rfl, ?_⟩
        cases hc : has xs (p, a :: r) with
        | true =>
          refine iteF ?_
          exact ⟨_, rfl, x, C, dx, _, _, rfl, s4 _ _ hx, N.cl, N.nK, rfl, _, rfl, d, t3, (p, a :: r), xs, rfl, rfl, me4, nk4, hc, q _ xs (fun b o _ e => s4 _ _ e) me4⟩
        | false =>
          refine iteT ?_
          refine ⟨_, rfl, _, rfl, bk, _, _, _, rfl, rfl, SqL.of (s4 _ _ hbk), atI_nat (j := 0) rfl, .ref bp, p, a, rfl, int_rl trivial (s4 _ _ hbp), kp.1, fun rs pm H5 v5 s5 r5 => ?_⟩
          obtain ⟨l5, vs5, rfl, sl5, h5, p5⟩ := r5
          have nd : ∀ b, H4 b = none → b ≠ d := fun b hb z => by
            rw [z, me4.ob] at hb
            cases hb
          have s05 := s4.trans s5
          let val : List Int × Int → Int := fun q => sgn q.2 * chi q.1 r
          refine ⟨l5, rfl, ⟨_, SqL.of h5⟩, ?_⟩
          have hxd : x ≠ d := ne_of hx me.ob (fun z => nomatch z)
          have hkd : bk ≠ d := ne_of hbk me.ob (fun z => nomatch z)
          refine for_it (walk_listR (K := K) (a := l5) p5) (fun i σ H6 => ∃ y5 y6 ys, σ = [some (.ref x), some (.ref bp), some (.ref bk), some (.ref t3), some (.int ((rs.take i).map val).sum), y5, y6] ∧ (∀ b o, b ≠ d → H5 b = some o → H6 b = some o) ∧ Memo P w H6 d ys)
            ⟨none, none, xs, rfl, fun b o _ e => e, me4.same s5⟩ (fun i σ H6 _ ⟨_, _, _, _, kp, _⟩ => SqL.of (kp _ _ (nd _ sl5) h5)) ?_ ?_
          · rintro i v σ _ H6 hi ⟨y5, y6, ys, rfl, kp6, me6⟩ ⟨rfl, z, ez, rz⟩
            obtain ⟨t, u, w', rfl, st, ht, ru, rw'⟩ := rz
            obtain rfl : w' = V.int z.2 := rw'
            have zin : z ∈ rimsL p a := pm.mem_iff.mp (List.mem_of_getElem? ez)
            refine ⟨t, _, rfl, SqT.of (kp6 _ _ (nd _ st) ht), rfl, _, _, rfl, _, _, rfl, rfl, ?_⟩
            have hx6 := kp6 _ _ hxd (s05 _ _ hx)
            have hbk6 := kp6 _ _ hkd (s05 _ _ hbk)
            refine ⟨_, rfl, _, rfl, _, _, rfl, rfl, (by show (0 : Int) < 2; decide), _, _, rfl, rfl, .inl ⟨by decide, by decide⟩, _, _, rfl, rfl, ?_⟩
            refine ⟨_, rfl, x, dx, _, rfl, hx6, rfl, _, rfl, _, rfl, 1, rfl, bk, _, rfl, SqL.of hbk6, fun c nc => ?_⟩
            have ec : cutV ((a :: r).map V.int) (some 1) none = r.map V.int := cut_from _ 1 (by rw [List.length_map, List.length_cons]; omega)
            rw [ec]
            have ru6 : RL RI anyA (upd H6 c (.lst (r.map V.int))) u z.1 := keeps_LI (newA H4) anyA H5 _ u z.1 (fun _ _ => trivial) (fun b o hb e => same_new nc _ _ (kp6 b o (nd b hb) e)) ru
            refine ⟨x, d, u, .ref c, z.1, r, n - a.toNat, ys, rfl, ⟨⟨dx, same_new nc _ _ hx6⟩, me6.same (same_new nc)⟩, ru6, int_rl trivial upd_same, by omega, f4 z zin, f3, by rw [List.length_cons] at hl; omega, fun H7 ys7 k7 m7 => ?_⟩
            refine ⟨_, _, rfl, rfl, .inl ⟨by omega, by omega⟩, _, _, rfl, rfl, some u, some (.int z.2), ys7, ?_, fun b o hb e => k7 b o hb (same_new nc _ _ (kp6 b o hb e)), m7⟩
            have es : ((rs.take (i + 1)).map val).sum = ((rs.take i).map val).sum + (1 - 2 * (z.2 % 2)) * chi z.1 r := by
              rw [List.take_add_one, ez, List.map_append, List.sum_append]
              congr 1
              simp [val, sgn]
            rw [es]
            rfl
          · rintro σ H6 ⟨y5, y6, ys, rfl, kp6, me6⟩
            rw [List.take_length]
            have hx6 := kp6 _ _ hxd (s05 _ _ hx)
            have nk6 : NK H6 t3 (p, a :: r) := nk4.stay fun c ys e => kp6 _ _ (ne_of e me4.ob (fun z => nomatch z)) (s5 _ _ e)
            refine ⟨_, rfl, _, rfl, x, C, dx, _, _, rfl, hx6, N.cl, N.nK, rfl, _, rfl, d, t3, (p, a :: r), ys, rfl, rfl, me6, nk6, inr, ?_, fun H8 ys8 k8 m8 h8 => ?_⟩
            · show V.int _ = V.int _
              congr 1
              show (rs.map val).sum = chi p (a :: r)
              rw [perm_sum (pm.map val), chi]
            · have nk8 : NK H8 t3 (p, a :: r) := nk6.stay fun c ys e => k8 _ _ (ne_of e me6.ob (fun z => nomatch z)) e
              exact ⟨_, rfl, x, C, dx, _, _, rfl, k8 _ _ hxd hx6, N.cl, N.nK, rfl, _, rfl, d, t3, (p, a :: r), ys8, rfl, rfl, m8, nk8, h8, q _ ys8 (fun b o hb e => k8 _ _ hb (kp6 _ _ hb (s05 _ _ e))) m8⟩
end
end Ct
namespace Ct
open PySem PySem.Spec PyProof.Rows L2
theorem tab_bd : ∀ n, n < 11 → ∀ r ∈ tabN n, ∀ x ∈ r, -1000 ≤ x ∧ x ≤ 1000 := by decide +kernel
theorem con_bd : ∀ n, n < 11 → ∀ p ∈ K n, -1000 ≤ contentsL p ∧ contentsL p ≤ 1000 := by decide +kernel
theorem ones_in : ∀ n, n < 11 → List.replicate n (1 : Int) ∈ K n := by decide +kernel
theorem fct_bd : ∀ n, n < 11 → 0 < fct (n - 1) ∧ fct (n - 1) < 1073741824 := by decide +kernel
theorem getD_all {α : Type} {l : List α} {i : Nat} {d : α} {Pr : α → Prop} (h : ∀ x ∈ l, Pr x) (hd : Pr d) : Pr (l.getD i d) := by
  rw [List.getD_eq_getElem?_getD]
  cases e : l[i]? with
  | none => exact hd
  | some x => exact h x (List.mem_of_getElem? e)
theorem chi_bd {n : Nat} (hn : n < 11) {p k : List Int} (hp : p ∈ K n) (hk : k ∈ K n) : -1000 ≤ chi p k ∧ chi p k ≤ 1000 := by
  rw [chi_tab k n p hn hp hk]
  unfold tabAt
  refine getD_all (Pr := fun x => -1000 ≤ x ∧ x ≤ 1000) ?_ (by omega)
  exact getD_all (Pr := fun r => ∀ x ∈ r, -1000 ≤ x ∧ x ≤ 1000) (tab_bd n hn) (fun x hx => nomatch hx)
theorem mul_bd {a b : Int} (ha : -1000 ≤ a ∧ a ≤ 1000) (hb : -1000 ≤ b ∧ b ≤ 1000) : -(2 ^ 64) < a * b ∧ a * b < 2 ^ 64 := by
  have h1 : (a * b).natAbs ≤ 1000 * 1000 := by
    rw [Int.natAbs_mul]
    exact Nat.mul_le_mul (by omega) (by omega)
  omega
def byP (n : Nat) (k : List Int) (m : Nat) : Int := ((K n).map fun p => chi p (List.replicate n 1) * chi p k * contentsL p ^ m).sum / fct (n - 1)
abbrev sBy : Stmt := topS 26
theorem scBy : FnScope ["kind", "m", "n", "numbers", "ones", "total", "picture", "share"] ["kind", "m"] (defScope sBy) := ⟨rfl, rfl, rfl, by decide +kernel, rfl, by decide +kernel, by decide +kernel⟩
def spBy : Sp := fun vs H Q _ => ∃ (v : V) (n m : Nat) (k : List Int), vs = [v, .int m] ∧ RL RI anyA H v k ∧ k ∈ K n ∧ 1 ≤ n ∧ n ≤ 10 ∧ m ≤ 20 ∧ Ret RI H Q (byP n k m)
theorem rep_one (n : Nat) : (List.replicate n [V.int 1]).flatten = (List.replicate n (1 : Int)).map V.int := by
  induction n with
  | zero => rfl
  | succ n ih => rw [List.replicate_succ, List.replicate_succ, List.flatten_cons, ih]; rfl
section
variable {P : Program} {w : World} {K : PySem.W.Frag} {mg : Str → Option Value} {base : Heap} {f C fI fA gL gK gC gW gP : Addr} {fd fdI fdA ldd kdd cdd wdd pdd : FuncData}
theorem ok_by (F : Fun K "by_pictures" "by_pictures" sBy f fd) (B : Bn mg) (N : Nm K mg C) (M : Mk K C fI)
    (GI : FnOk P w K mg base CX0 1 fI fdI ["self"] (spNI P w C)) (bI : Binds K fdI ["self"] [])
    (GA : FnOk P w K mg base CX0 13 fA fdA ["self", "picture", "kind"] (spAt P w C 10)) (bA : Binds K fdA ["self", "picture", "kind"] []) (mA : Meth K C "at" fA)
    (GL : FnOk P w K mg base CX0 1 gL ldd ["n", "m"] spLb) (kL : PySem.W.keepIn K (.ref gL) = true) (bL : Binds K ldd ["n", "m"] []) (eL : mg "look_bounds" = some (.ref gL))
    (GK : FnOk P w K mg base CX0 12 gK kdd ["n"] spKi) (kK : PySem.W.keepIn K (.ref gK) = true) (bK : Binds K kdd ["n"] []) (eK : mg "kinds" = some (.ref gK))
    (GC : FnOk P w K mg base CX0 1 gC cdd ["picture"] spCn) (kC : PySem.W.keepIn K (.ref gC) = true) (bC : Binds K cdd ["picture"] []) (eC : mg "contents" = some (.ref gC))
    (GW : FnOk P w K mg base CX0 1 gW wdd ["number", "m"] spPw) (kW : PySem.W.keepIn K (.ref gW) = true) (bW : Binds K wdd ["number", "m"] []) (eW : mg "power" = some (.ref gW))
    (GP : FnOk P w K mg base CX0 1 gP pdd ["n"] spPr) (kP : PySem.W.keepIn K (.ref gP) = true) (bP : Binds K pdd ["n"] []) (eP : mg "product_to" = some (.ref gP)) :
    FnOk P w K mg base CX0 14 f fd ["kind", "m"] spBy := by
  refine F.ok scBy (fun vs H Q E h => ?_) (fun cdv A outer s H vs Q E hr h => ?_)
  · obtain ⟨v, n, m, k, rfl, _⟩ := h
    rfl
  · obtain ⟨v, n, m, k, rfl, r, hk, h1, hn, hm, q⟩ := h
    obtain ⟨a, rfl, _, ha⟩ := rl_int r
    have hr1 : Room 1 _ := hr.mono (by decide)
    have hr2 : Room 2 _ := hr.mono (by decide)
    have hr12 : Room 12 _ := hr.mono (by decide)
    have kf := (K_fit n (by omega)).2.2 k hk
    refine ⟨_, pss_cons (ps_set (i := 2) scBy.nd rfl (.inl rfl) (pe_callB (cr_sum rfl) (by rfl) B.sum (by decide +kernel) (pa_cons (pv 0) pa_nil)))
      (pss_cons (ps_expr (pe_call GL hr1 (by rfl) eL kL bL .nil pass0 (pa_cons (pv 2) (pa_cons (pv 1) pa_nil))))
      (pss_cons (ps_set (i := 3) scBy.nd rfl (.inl rfl) (pe_make0 M GI hr2 rfl N.mgC bI .nil pass0))
      (pss_cons (ps_set (i := 4) scBy.nd rfl (.inl rfl) (pe_op op_rep (pe_lst (pa_cons pe_int pa_nil)) (pv 2)))
      (pss_cons (ps_set (i := 5) scBy.nd rfl (.inl rfl) pe_int)
      (pss_cons (ps_for PassesOwn.never rfl (pi_list (pe_call GK hr12 (by rfl) eK kK bK .nil pass0 (pa_cons (pv 2) pa_nil))) (pg_name (i := 6) scBy.nd rfl (.inl rfl))
        (pss_cons (ps_set (i := 7) scBy.nd rfl (.inl rfl) (pe_op op_mul (pe_meth (pv 3) N.cl mA GA hr bA .nil pass0 (pa_cons (pv 6) (pa_cons (pv 4) pa_nil)))
            (pe_meth (pv 3) N.cl mA GA hr bA .nil pass0 (pa_cons (pv 6) (pa_cons (pe_callTy c_lst (by rfl) B.list (by decide +kernel) (pa_cons (pv 0) pa_nil)) pa_nil)))))
        (pss_one (ps_aug (i := 5) scBy.nd rfl (.inl rfl) (pe_op op_mul (pv 7) (pe_call GW hr1 (by rfl) eW kW bW .nil pass0 (pa_cons (pe_call GC hr1 (by rfl) eC kC bC .nil pass0 (pa_cons (pv 6) pa_nil)) (pa_cons (pv 1) pa_nil)))) ip_add))))
      (pss_one (ps_ret (pe_op op_fdiv (pv 5) (pe_call GP hr1 (by rfl) eP kP bP .nil pass0 (pa_cons (pv 2) pa_nil)))))))))), ?_⟩
    refine ⟨_, rfl, a, k, rfl, SqL.of ha, ?_⟩
    rw [kf.2.2]
    refine ⟨_, rfl, _, rfl, n, m, rfl, h1, hn, hm, ?_⟩
    intro x dx nx ndx nex
    refine ⟨x, dx, rfl, upd_same, fun d H1 nd NA kp => ⟨rfl, ?_⟩⟩
    obtain ⟨⟨dx', hx⟩, me⟩ := NA
    have sH1 : Same H H1 := Same.made nx ndx kp
    have hxd : x ≠ d := ne_of hx me.ob (fun z => nomatch z)
    have nd0 : H d = none := (Same.trans (same_new (o := .own x) ndx) (same_new (p := x) (o := .ins C dx []) (by rw [upd_ne (Ne.symm nex)]; exact nx))).free nd
    refine ⟨(by show 1 ≤ sizeLine; decide), fun p1 n1 => ⟨_, rfl, p1, _, _, rfl, rfl, upd_same, by omega, by omega, ?_, fun lo nlo => ?_⟩⟩
    · show 1 * ((n : Int)).toNat ≤ sizeLine
      exact Nat.le_of_lt (small1000 (by omega))
    rw [show ((n : Int)).toNat = n by omega, rep_one]
    have s12 := (same_new (o := .lst [V.int 1]) n1).trans (same_new (o := .lst ((List.replicate n (1 : Int)).map V.int)) nlo)
    have hlo : (upd (upd H1 p1 (.lst [V.int 1])) lo (.lst ((List.replicate n (1 : Int)).map V.int))) lo = some (.lst ((List.replicate n (1 : Int)).map V.int)) := upd_same
    generalize upd (upd H1 p1 (.lst [V.int 1])) lo (.lst ((List.replicate n (1 : Int)).map V.int)) = H2 at s12 hlo ⊢
    have me2 := me.same s12
    refine ⟨_, rfl, n, rfl, hn, fun H3 v3 s3 r3 => ?_⟩
    obtain ⟨l3, vs3, rfl, sl3, h3, p3⟩ := r3
    have ndd : ∀ b, H2 b = none → b ≠ d := fun b hb z => by
      rw [z, me2.ob] at hb
      cases hb
    have nld : lo ≠ d := ne_of hlo me2.ob (fun z => nomatch z)
    have had : a ≠ d := ne_of_none ha nd0
    have s03 := (sH1.trans s12).trans s3
    have on := ones_in n (by omega)
    have kl : k.length ≤ 10 := kf.1
    let val : List Int → Int := fun p => chi p (List.replicate n 1) * chi p k * contentsL p ^ m
    refine ⟨l3, rfl, ⟨_, SqL.of h3⟩, ?_⟩
    refine for_it (walk_listR (K := K) (a := l3) p3) (fun i σ H4 => ∃ y6 y7 ys, σ = [some (.ref a), some (.int m), some (.int n), some (.ref x), some (.ref lo), some (.int (((Ct.K n).take i).map val).sum), y6, y7] ∧ (∀ b o, b ≠ d → H3 b = some o → H4 b = some o) ∧ Memo P w H4 d ys)
      ⟨none, none, [], rfl, fun b o _ e => e, me2.same s3⟩ (fun i σ H4 _ ⟨_, _, _, _, kp, _⟩ => SqL.of (kp _ _ (ndd _ sl3) h3)) ?_ ?_
    · rintro i v σ _ H4 hi ⟨y6, y7, ys, rfl, kp4, me4⟩ ⟨rfl, p, ep, rp⟩
      obtain ⟨b, rfl, sb, hb⟩ := rl_int rp
      have pK : p ∈ Ct.K n := List.mem_of_getElem? ep
      have pf := fit_of hn pK
      have c1 := chi_bd (by omega) pK on
      have c2 := chi_bd (by omega) pK hk
      have c3 := con_bd n (by omega) p pK
      have hx4 := kp4 _ _ hxd (s3 _ _ (s12 _ _ hx))
      have hlo4 := kp4 _ _ nld (s3 _ _ hlo)
      have hb4 := kp4 _ _ (ndd _ sb) hb
      have ha4 := kp4 _ _ had (s03 _ _ ha)
      have hbd : b ≠ d := ndd _ sb
      -- numbers.at(picture, ones)
      refine ⟨_, rfl, x, dx', _, rfl, hx4, rfl, _, rfl, _, rfl, x, d, .ref b, .ref lo, p, List.replicate n 1, n, ys, rfl, ⟨⟨dx', hx4⟩, me4⟩, int_rl trivial hb4, int_rl trivial hlo4, hn, pK, on, by rw [List.length_replicate]; exact hn, fun H5 ys5 k5 m5 => ?_⟩
      -- numbers.at(picture, list(kind))
      refine ⟨_, rfl, x, dx', _, rfl, k5 _ _ hxd hx4, rfl, _, rfl, _, rfl, a, _, rfl, .inl (SqL.of (k5 _ _ had ha4)), fun l nl => ?_⟩
      refine ⟨x, d, .ref b, .ref l, p, k, n, ys5, rfl, ⟨⟨dx', same_new nl _ _ (k5 _ _ hxd hx4)⟩, m5.same (same_new nl)⟩, int_rl trivial (same_new nl _ _ (k5 _ _ hbd hb4)), int_rl trivial upd_same, hn, pK, hk, kl, fun H6 ys6 k6 m6 => ?_⟩
      have k36 : ∀ b o, b ≠ d → H3 b = some o → H6 b = some o := fun b o hb e => k6 _ _ hb (same_new nl _ _ (k5 _ _ hb (kp4 _ _ hb e)))
      refine ⟨_, _, rfl, rfl, .inl ⟨by omega, by omega⟩, ?_⟩
      -- total += share * power(contents(picture), m)
      refine ⟨_, rfl, _, rfl, _, rfl, .ref b, p, rfl, int_rl trivial (k36 _ _ hbd hb), pf, fun H7 v7 s7 e7 => ?_⟩
      obtain rfl : v7 = V.int (contentsL p) := e7
      refine ⟨_, rfl, contentsL p, m, rfl, hm, ⟨by omega, by omega⟩, ?_⟩
      refine ⟨_, _, rfl, rfl, .inl (mul_bd c1 c2), _, _, rfl, rfl, some (.ref b), some (.int (chi p (List.replicate n 1) * chi p k)), ys6, ?_, fun b o hb e => s7 _ _ (k36 b o hb e), m6.same s7⟩
      have es : (((Ct.K n).take (i + 1)).map val).sum = (((Ct.K n).take i).map val).sum + chi p (List.replicate n 1) * chi p k * contentsL p ^ m := by
        rw [List.take_add_one, ep, List.map_append, List.sum_append]
        congr 1
        simp [val]
      rw [es]
      rfl
    · rintro σ H4 ⟨y6, y7, ys, rfl, kp4, me4⟩
      rw [List.take_length]
      have fb := fct_bd n (by omega)
      refine ⟨_, rfl, _, rfl, n, rfl, hn, _, _, rfl, rfl, ⟨fb.1, fb.2⟩, q H4 _ (fun b o e => kp4 _ _ (ne_of_none e nd0) (s03 _ _ e)) rfl⟩
end
end Ct
namespace Ct
open PySem PySem.Spec PyProof.Rows L2
/-! ### set(xs) of a list of tuples, of any length, where few of them are unlike -/
abbrev TL := List (Addr × List Int)
/-- the loop of set.update, from the iterator at I into the set at S -/
abbrev loopOf (S I : Addr) : Code := .builtin "set.update.loop" ⟨[.ref S, .ref I], []⟩
/-- no more than 62 unlike keys can be taken from ks -/
def Few (ks : TL) : Prop := ∀ L : TL, (∀ p ∈ L, p ∈ ks) → (L.map (·.2)).Nodup → L.length < 63
/-- behind the first i of ks: what stood in h0 stands, and the set at S holds what was met -/
structure Filled (P : Program) (w : World) (h0 : Heap) (S : Addr) (ks : TL) (i : Nat) (h : Heap) : Prop where
  old : ∀ b u, h0.get? b = some u → h.get? b = some u
  st : ∃ L es ep t, SetTR P w h S L es ep t ∧ Got ks i L
section
variable {P : Program} {w : World} {A : Around} {h0 h h' : Heap} {S I : Addr} {ks : TL} {i : Nat}
theorem Filled.keys (hk : ∀ p ∈ ks, IsT P w h0 p.2 p.1) (f : ∀ b u, h0.get? b = some u → h.get? b = some u) {L : TL} (g : Got ks i L) : ∀ p ∈ L, IsT P w h p.2 p.1 :=
  fun p hp => isT_keep (hk p (List.mem_of_mem_take (g.sub p hp))) f
theorem Filled.moved (f : Filled P w h0 S ks i h) (hk : ∀ p ∈ ks, IsT P w h0 p.2 p.1) (ho : ∀ b u, h0.get? b = some u → h.get? b = some u → h'.get? b = some u) (hS : ∀ u, h.get? S = some u → h'.get? S = some u) : Filled P w h0 S ks i h' := by
  have fo : ∀ b u, h0.get? b = some u → h'.get? b = some u := fun b u e => ho b u e (f.old b u e)
  obtain ⟨L, es, ep, t, r, g⟩ := f.st
  exact ⟨fo, L, es, ep, t, r.keep hS (Filled.keys hk fo g), g⟩
variable {fp wr : List Addr} {G : Array GenState → Array GenState → Prop} {Pv : Nat → Value → Prop} {Wt : Nat → Shared → Prop} {R : Result → Shared → Prop}
theorem fill_turns (W : WalksS P w A.in1 I fp wr G ks.length Pv Wt) (nS : S ∉ fp) (few : Few ks) (pv : ∀ i v, Pv i v → ∃ p, ks[i]? = some p ∧ v = .ref p.1) (hk : ∀ p ∈ ks, IsT P w h0 p.2 p.1) (zS : h0.get? S = none) (zw : ∀ b ∈ wr, h0.get? b = none) (hu : A.in1.units < cLine) :
    ∀ (m i : Nat) (s : Shared), i + m = ks.length → Wt i s → Filled P w h0 S ks i s.heap → (∀ s', Moved (S :: wr) G s s' → Filled P w h0 S ks ks.length s'.heap → R (.ok (.ret .none)) s') →
      codeAny (model P w) A (loopOf S I) R s := by
  have nSw : S ∉ wr := fun z => nS (W.sub S z)
  have stay : ∀ {i : Nat} {s s' : Shared}, Moved wr G s s' → Filled P w h0 S ks i s.heap → Filled P w h0 S ks i s'.heap := fun mv f =>
    f.moved hk (fun b u e0 e => mv.heap b u (fun z => by rw [zw b z] at e0; cases e0) e) fun u e => mv.heap S u nSw e
  have wide : ∀ {s s' : Shared}, Moved wr G s s' → Moved (S :: wr) G s s' := fun mv => mv.mono fun b z => List.mem_cons_of_mem S z
  intro m
  induction m with
  | zero =>
    intro i s em wt f q
    obtain rfl : i = ks.length := em
    exact codeAny_builtin F.entry_set_update_loop (by
      rw [Around.under_plainId F.plain_set_update_loop]
      exact wpAny_bind (W.done s _ _ wt fun s' mv => wpAny_pure (q s' (wide mv) (stay mv f))))
  | succ m ih =>
    intro i s em wt f q
    refine codeAny_builtin F.entry_set_update_loop (by
      rw [Around.under_plainId F.plain_set_update_loop]
      refine wpAny_bind (W.item i s _ _ (by omega) wt fun v s' hv wt' mv => ?_)
      obtain ⟨p, ep, rfl⟩ := pv i v hv
      have f' := stay mv f
      obtain ⟨L, es, ep', t, r, g⟩ := f'.st
      have hx : IsT P w s'.heap p.2 p.1 := isT_keep (hk p (List.mem_of_getElem? ep)) f'.old
      have fL : L.length < 63 := few L (fun x hx => List.mem_of_mem_take (g.sub x hx)) r.nd
      refine wpAny_bind (wpAny_holding ?_)
      show wpAny _ _ (setAdd S (.ref p.1)) _ _ _
      unfold setAdd
      refine wpAny_holding (wpAny_bind (wpAny_pyHash_tuple hu hx (add_at (s := { s' with toks := s'.toks + (p.2.length + 1) }) r hx hu (by omega) fun b h2 L' es' ep2 t' sb r' c1 c2 => ?_)))
      have got : Got ks (i + 1) L' := by
        by_cases c : p.2 ∈ L.map (·.2)
        · rw [c1 c]
          exact g.same ep c
        · exact g.more ep (c2 c)
      have f2 : Filled P w h0 S ks (i + 1) h2 := ⟨fun b u e => (sb.2 b fun z => by rw [z, zS] at e; cases e).trans (f'.old b u e), L', es', ep2, t', r', got⟩
      have tl : s'.toks ≤ s'.toks + (p.2.length + 1) := Nat.le_add_right _ _
      refine wpAny_pure ⟨plainId_quiet F.plain_set_update_loop _, ih (i + 1) _ (by omega) (W.frame _ s' h2 _ wt' tl fun b hb u e => ?_) f2 fun s3 mv3 f3 => q s3 (Moved.trans W.gtrans ((wide mv).then_heap tl fun b u hb e => ?_) mv3) f3⟩
      · exact (sb.2 b fun z => nS (z ▸ hb)).trans e
      · exact (sb.2 b fun z => hb (z ▸ List.mem_cons_self)).trans e)
/-- an empty set, as set(..) makes it -/
abbrev noneYet (w : World) : Obj := { cls := .type "set", dict := none, data := .set #[] 0 (.fresh 0 0 (!w.params.followText "set-order")) }
/-- what set.__init__ leaves -/
def Made (P : Program) (w : World) (ks : TL) (s : Shared) (r : Value) (s2 : Shared) : Prop := r = .none ∧ ∃ h' tk, s2 = { s with heap := h', toks := tk } ∧ Filled P w s.heap s.heap.objs.size ks ks.length h'
theorem none_above {h : Heap} {b : Addr} (hb : h.objs.size ≤ b) : h.get? b = none := by
  cases e : h.get? b with
  | none => rfl
  | some u => exact absurd (Nat.lt_of_lt_of_le (Heap.lt_size e) hb) (Nat.lt_irrefl _)
variable {E : Value → Shared → Prop} {s : Shared}
/-- the loop over the list l, from the empty set on -/
theorem fill_list {l it : Addr} {items : Array Value} {R : Result → Shared → Prop} {s1 : Shared} (hh : A.in1.handled = none) (hl : s.heap.IsList l items) (hi : items.toList = ks.map fun p => Value.ref p.1) (hk : ∀ p ∈ ks, IsT P w s.heap p.2 p.1) (few : Few ks) (hu : A.in1.units < cLine)
    (e1 : s1 = { s with heap := (s.heap.push (noneYet w)).push { cls := .type "list_iterator", data := .fields #[.ref l, .int 0 0] } }) (eit : it = (s.heap.push (noneYet w)).objs.size)
    (q : ∀ h' tk, Filled P w s.heap s.heap.objs.size ks ks.length h' → R (.ok (.ret .none)) { s with heap := h', toks := tk }) :
    codeAny (model P w) A (loopOf s.heap.objs.size it) R s1 := by
  have sz : (s.heap.push (noneYet w)).objs.size = s.heap.objs.size + 1 := Heap.size_push ..
  rw [sz] at eit
  subst eit
  subst e1
  have ls : l < s.heap.objs.size := let ⟨_, e, _⟩ := hl; Heap.lt_size e
  have lit : l ≠ s.heap.objs.size + 1 := Nat.ne_of_lt (Nat.lt_succ_of_lt ls)
  have isz : items.size = ks.length := by
    have z := congrArg List.length hi
    rwa [Array.length_toList, List.length_map] at z
  have two : ∀ b u, s.heap.get? b = some u → ((s.heap.push (noneYet w)).push { cls := .type "list_iterator", data := .fields #[.ref l, .int 0 0] }).get? b = some u := fun b u e => Heap.get?_push_of_some _ (Heap.get?_push_of_some _ e)
  have WL := (Walks.list (prog := P) (w := w) hh (s.heap.objs.size + 1) l lit items).toS
  rw [isz] at WL
  refine fill_turns (h0 := s.heap) WL ?_ few (fun i v hv => ?_) hk (none_above (Nat.le_refl _)) (fun b hb => ?_) hu ks.length 0 _ (Nat.zero_add _) ?_ ⟨two, [], #[], 0, _, setTR_fresh (w := w) (Heap.get?_push_of_some _ (Heap.get?_push_size _ rfl)), Got.zero ks⟩ fun s' mv f => ?_
  · intro z
    rcases List.mem_cons.mp z with z | z
    · exact absurd z (Nat.ne_of_lt (Nat.lt_succ_self _))
    · exact absurd (List.mem_singleton.mp z) (Nat.ne_of_gt ls)
  · have z : items.toList[i]? = some v := by
      rw [Array.getElem?_toList]
      exact hv
    rw [hi, List.getElem?_map] at z
    obtain ⟨p, e, rfl⟩ := Option.map_eq_some_iff.mp z
    exact ⟨p, e, rfl⟩
  · have ew := List.mem_singleton.mp hb
    rw [ew]
    exact none_above (Nat.le_succ _)
  · refine ⟨⟨{ cls := .type "list_iterator", data := .fields #[.ref l, .int 0 0] }, ?_, rfl, rfl⟩, (hl.push _).push _⟩
    rw [← sz]
    exact Heap.get?_push_size _ rfl
  · obtain ⟨h', gn', d', tk', os'⟩ := s'
    obtain rfl : gn' = s.gens := mv.gens
    obtain rfl : d' = s.drawn := mv.drawn
    obtain rfl : os' = s.os := mv.os
    exact q h' tk' f
/-- set(l) -/
theorem call_set_many {l : Addr} {items : Array Value} {Q : Value → Shared → Prop} (hh : A.handled = none) (hl : s.heap.IsList l items) (hi : items.toList = ks.map fun p => Value.ref p.1) (hk : ∀ p ∈ ks, IsT P w s.heap p.2 p.1) (few : Few ks) (hu : A.units + 3 < cLine)
    (q : ∀ h' tk, Filled P w s.heap s.heap.objs.size ks ks.length h' → Q (.ref s.heap.objs.size) { s with heap := h', toks := tk }) : wpAny (model P w) A (call (.type "set") [.ref l]) Q E s := by
  have m0 := F.called_set.mro
  obtain ⟨c0, t0, m1⟩ := m0
  have m2 := F.called_set.made
  have m3 := F.called_set.sub
  have m4 := F.called_set.notType
  have m5 := F.called_set.canCreate
  have m6 := F.typeCall_set_1 (.ref l)
  refine wpAny_call (codeAny_of_tree (show wpAny _ _ (callAny (.type "set") _) _ _ _ from wpAny_pure ⟨Code.quiet_builtin _ (by decide +kernel), codeAny_builtin F.entry_type_call ?_⟩))
  have wt := weight_type_call_type "set" [.ref l] []
  rw [Around.under_plain wt rfl]
  clear wt
  repeat any_goals first | assumption | wp_step
  refine codeAny_mono (code_set_led1 (.ref l) (E := E) (Q₁ := fun u s1 => u = .ref s.heap.objs.size ∧ s1 = { s with heap := s.heap.push (noneYet w) }) ⟨rfl, rfl⟩) fun r s1 hr => ?_
  match r, hr with
  | .ok (.ret u), hr =>
    obtain ⟨rfl, rfl⟩ := hr
    have gS : (s.heap.push (noneYet w)).get? s.heap.objs.size = some (noneYet w) := Heap.get?_push_size _ rfl
    have ty : Shared.TypeIs { s with heap := s.heap.push (noneYet w) } (.ref s.heap.objs.size) "set" := ⟨_, gS, rfl⟩
    have m7 := F.called_set.init.lookup
    have m8 := F.called_set.init.bind (.ref s.heap.objs.size)
    repeat any_goals first | assumption | wp_step
    refine codeAny_mono (codeAny_call_builtin (R := wants (Made P w ks s) E) F.called_set.init.plain F.entry_set_init (check_set_init_1 ty ?_)) fun r2 s2 hr2 => ?_
    · obtain ⟨⟨cl, dc, dt, sl⟩, g0, g1, nl, g2⟩ := id hl
      obtain rfl : cl = .type "list" := g1
      obtain rfl : dt = .seq items nl := g2
      have gl := Heap.get?_push_of_some (noneYet w) g0
      have u1 := F.sub_list_set
      have u2 := F.sub_list_frozenset
      have u3 : (Value.type "list" == Value.type "dict") = false := by decide
      unfold Builtin.«set.__init__»
      unfold noKeywords Builtin.Frozenset.updateFrom
      generalize ePI : pyIter = PI
      wp_walk
      subst ePI
      refine wpAny_pyIter_list (hl.push (noneYet w)) (wpAny_bind (wpAny_runValue (fill_list (s := s) (it := (s.heap.push (noneYet w)).objs.size) ?_ hl hi hk few ?_ rfl rfl fun h' tk f => ?_)))
      · simp [hh]
      · simp
        omega
      · exact wpAny_pure (wpAny_pure ⟨rfl, h', tk, rfl, f⟩)
    · match r2, hr2 with
      | .ok (.ret v), hr2 =>
        obtain ⟨rfl, h', tk, rfl, f⟩ := hr2
        repeat any_goals first | assumption | wp_step
        exact q _ _ f
      | .error e, hr2 => exact hr2
  | .error e, hr => exact hr
end
end Ct
namespace Ct
open PySem PySem.Spec PyProof.Rows L2
section
variable {P : Program} {w : World} {A : Around} {E : Value → Shared → Prop} {s : Shared} {h : Heap}
theorem reads_items {ns : List Int} {vs : List Value} (e : ItemsAre (intKind P w) ns vs) : ReadsAll h vs (ns.map .int) [] := by
  induction e with
  | nil => exact .nil
  | cons q _ ih =>
    obtain ⟨t, rfl⟩ := Value.isInt_shape q
    exact .cons (as := []) (bs := []) (.int _ t) ih
def encT (q : Addr × List Int) : PyData := .tuple (q.2.map .int)
theorem reads_tup {q : Addr × List Int} (e : IsT P w h q.2 q.1) : Reads h (.ref q.1) (encT q) [] := by
  obtain ⟨o, items, n, h1, h2, h3, h4⟩ := e
  exact .tuple h1 h2 h3 (reads_items h4)
theorem alike_T (a b : Addr × List Int) : PySem.W.alike (encT a) (encT b) = true := by
  have h := PySem.W.alike_ints a.2 b.2
  simp [encT, PySem.W.alike, h]
theorem depth_T (a : Addr × List Int) : (encT a).depth = 1 := by
  have h := dep_ints a.2
  simp [encT, PyData.depth, h]
theorem refs_pair : ∀ L : TL, Paired (fun (v : Value) (q : Addr × List Int) => v = .ref q.1) (L.map fun q => Value.ref q.1) L
  | [] => .nil
  | q :: r => .cons rfl (refs_pair r)
theorem each_of : ∀ {vs : List Value} {L : TL} {R : Value → Addr × List Int → Prop}, Paired (fun (v : Value) (q : Addr × List Int) => v = .ref q.1) vs L → (∀ q ∈ L, R (.ref q.1) q) → PySem.W.EachIs R vs L
  | _, _, _, .nil, _ => .nil
  | _, q :: r, _, .cons e t, f => .cons (by rw [e]; exact f q List.mem_cons_self) (each_of t fun x hx => f x (List.mem_cons_of_mem _ hx))
theorem of_each : ∀ {vs : List Value} {L : TL}, PySem.W.EachIs (fun (v : Value) (q : Addr × List Int) => v = .ref q.1) vs L → vs = L.map fun q => Value.ref q.1
  | _, _, .nil => rfl
  | _, _, .cons e t => by rw [List.map_cons, ← of_each t, e]
/-- sorted(S), S a set of tuples that are not empty: some arrangement of them -/
theorem call_sort_many {a : Addr} {L : TL} {es : Array (Int × Value)} {ep : Nat} {t : SetTable} {Q : Value → Shared → Prop} (R : SetTR P w s.heap a L es ep t) (hh : A.handled = none) (ne : ∀ q ∈ L, q.2 ≠ []) (hu : A.units + 20 < cLine)
    (q : ∀ s' p (out : Array Value) (c : Nat) (L' : TL), (∀ b o, s.heap.get? b = some o → s'.heap.get? b = some o) → s'.gens = s.gens → s'.os = s.os → s.heap.objs.size ≤ p → s'.heap.get? p = some (seqObj "list" out c) → out.toList = L'.map (fun q => Value.ref q.1) → L'.Perm L → Q (.ref p) s') :
    wpAny (model P w) A (call (Value.builtin "sorted") [Value.ref a]) Q E s := by
  obtain ⟨so, ho, hex, hd⟩ := R.ob
  have few := R.few
  have sz := R.size
  refine Calls.call_function_entry kind_sorted plain_sorted entry_sorted (args_sorted1 (.ref a)) ?_
  unfold Builtin.«sorted»
  refine wpAny_bind (m := checkCount "sorted" 1 1 _) (wpAny_pure (wpAny_bind (collect_set (A := A.in1) hh ⟨so, ho, hex.1, hd⟩ R.fits (by unfold scanBound; omega) R.tab.ris R.led fun s1 vs k1 hz g1 o1 pm => ?_)))
  have em : es.toList.map (·.2) = L.map fun q => Value.ref q.1 := by
    rw [R.rows]
    unfold rowsOf
    rw [List.map_map]
    rfl
  rw [em] at pm
  obtain ⟨L1, p1, pp⟩ := paired_perm pm (refs_pair L)
  have vl : vs.length = L1.length := paired_len pp
  have ll := p1.length_eq
  have Lz : L1.length ≤ sizeLine := by
    rw [sizeLine_eq]
    omega
  refine wpAny_bind (wpAny_newList ?_ (by rw [vl]; exact Lz))
  have ho2 : (s1.heap.push (seqObj "list" vs.toArray 0)).get? s1.heap.objs.size = some (seqObj "list" vs.toArray 0) := Heap.get?_push_size _ rfl
  have rd : ∀ x ∈ L1, Reads (s1.heap.push (seqObj "list" vs.toArray 0)) (.ref x.1) (encT x) [] := fun x hx => reads_tup (P := P) (w := w) (isT_keep (R.tup x (p1.mem_iff.mp hx)) fun b u e => Heap.get?_push_of_some _ (k1 b u e))
  refine wpAny_bind (wpAny_holding (PySem.W.list_sort_data (s := { s1 with heap := s1.heap.push (seqObj "list" vs.toArray 0) }) (bs := L1) (enc := encT) (R := fun v x => v = .ref x.1) (vs := vs) ho2 (each_of pp fun _ _ => rfl) (each_of pp fun x hx => ⟨[], rd x hx, List.not_mem_nil⟩)
    (PySem.W.AllAlike.of alike_T) (.inl fun d hd => ?_) Lz (fun x _ => by rw [depth_T]; show A.units + 1 + 1 + 1 < cLine; omega) fun out lo eo => ?_))
  · obtain ⟨x, hx, rfl⟩ := List.mem_map.mp hd
    have nx := ne x (p1.mem_iff.mp hx)
    unfold encT
    cases e : x.2 with
    | nil => exact absurd e nx
    | cons y r => exact ⟨_, _, rfl⟩
  · obtain ⟨c, hc⟩ := sortedHeap_at (vs := vs) (out := out.toArray) ho2
    refine wpAny_pure ⟨_, rfl, q _ s1.heap.objs.size out.toArray c (L1.mergeSort (PySem.W.dataLe false encT)) (fun b u e => ?_) g1 o1 hz hc (of_each eo) ((List.mergeSort_perm L1 _).trans p1)⟩
    have e2 := k1 b u e
    have lt := Heap.lt_size e2
    show (sortedHeap (s1.heap.push (seqObj "list" vs.toArray 0)) s1.heap.objs.size vs out.toArray).get? b = some u
    rw [sortedHeap_old (Nat.ne_of_lt lt) (by rw [size_push']; exact Nat.lt_succ_of_lt lt)]
    exact Heap.get?_push_of_some _ e2
end
/-! ### the two as rules of the layer -/
section
variable {X : Cx}
def rSetMany (K : PySem.W.Frag) (P : Program) (w : World) : List V → Hp → VK → Prop := fun xs H Q => ∃ (l : Addr) (ks : TL), xs = [V.ref l] ∧ SqL K H l (ks.map fun p => V.ref p.1) ∧ (∀ p ∈ ks, SqT K H p.1 (p.2.map V.int)) ∧ Few ks ∧
  ∀ (S : Addr) (got : TL), H S = none → (∀ p ∈ got, p ∈ ks) → (∀ p ∈ ks, p.2 ∈ got.map (·.2)) → Q (.ref S) (upd H S (SetTO P w S got))
theorem cr_setMany (hc : X.calm = true) (hu : X.A.units + 64 < cLine) : CallR X (.type "set") (rSetMany X.K X.prog X.w) := by
  intro _ s σ H _ _ Q I r ask
  obtain ⟨l, ks, rfl, hl, hk, few, q⟩ := ask
  obtain ⟨its, rv, pl, _⟩ := Inv.list I hl
  rw [Vals.ref1 r]
  have nS : H s.heap.objs.size = none := I.hok.fresh (Nat.le_refl _)
  refine call_set_many (P := X.prog) (w := X.w) (ks := ks) (I.ok.hd hc) pl.isList (by simpa using refs_of_vals rv) (fun p hp => I.isT (hk p hp)) few (by omega) fun h' tk f => ?_
  obtain ⟨L, es, ep, t, st, g⟩ := f.st
  refine ⟨V.ref s.heap.objs.size, upd H s.heap.objs.size (SetTO X.prog X.w s.heap.objs.size L), I.laid (t' := tk) f.old (Nat.le_refl _) (setTO_new st.t0), rfl, q _ L nS (fun p hp => List.mem_of_mem_take (g.sub p hp)) fun p hp => g.all p ?_⟩
  rw [List.take_length]
  exact hp
def rSortMany (K : PySem.W.Frag) (P : Program) (w : World) : List V → Hp → VK → Prop := fun vs H Q => ∃ (a : Addr) (L : TL), vs = [V.ref a] ∧ H a = some (SetTO P w a L) ∧ (∀ p ∈ L, SqT K H p.1 (p.2.map V.int)) ∧ (∀ p ∈ L, p.2 ≠ []) ∧
  ∀ (L' : TL) (p : Addr), L'.Perm L → L'.length < 64 → H p = none → Q (.ref p) (upd H p (.lst (L'.map fun q => V.ref q.1)))
theorem cr_sortMany (hc : X.calm = true) (hu : X.A.units + 20 < cLine) : CallR X (.builtin "sorted") (rSortMany X.K X.prog X.w) := by
  intro pins s σ H _ _ Q I r ask
  obtain ⟨a, L, rfl, ha, hk, ne, q⟩ := ask
  have bare : SetT0 X.prog X.w s.heap a L := (I.hok a _ ha).1
  obtain ⟨es, ep, t, R⟩ := bare.full fun x hx => I.isT (hk x hx)
  rw [Vals.ref1 r]
  refine call_sort_many R (I.ok.hd hc) ne hu fun s' p out c L' k g o hp hg ho pm => ?_
  have lt : L'.length < 64 := by
    rw [pm.length_eq]
    exact R.few
  have np : H p = none := I.hok.fresh hp
  have lz : (L'.map fun q => V.ref q.1).length ≤ sizeLine := by
    rw [List.length_map, sizeLine_eq]
    omega
  have I' : Inv X pins σ (upd H p (.lst (L'.map fun x => V.ref x.1))) { s with heap := s'.heap, gens := s'.gens, drawn := s'.drawn, toks := s'.toks } :=
    I.call (ch := []) (Un.laid k hp np) (I.hok.laid k hp ⟨lz, out.toList, c, by rw [ho]; exact vals_of_refs L', hg⟩) (by rw [g]; exact I.bare) (fun _ z => nomatch z)
  have es' : s' = { s with heap := s'.heap, gens := s'.gens, drawn := s'.drawn, toks := s'.toks } := by
    obtain ⟨_, _, _, _, os'⟩ := s'
    obtain rfl : os' = s.os := o
    rfl
  rw [es']
  exact ⟨V.ref p, _, I', rfl, q L' p pm lt np⟩
end
end Ct
namespace Ct
open PySem PySem.Spec PyProof.Rows L2
/-! ### every falling list of positive numbers is a kind -/
theorem sum_pos : ∀ l : List Int, (∀ x ∈ l, 0 < x) → 0 ≤ l.sum ∧ (l.length : Int) ≤ l.sum ∧ ∀ x ∈ l, x ≤ l.sum
  | [], _ => ⟨by simp, by simp, fun x hx => nomatch hx⟩
  | y :: r, h => by
    obtain ⟨h1, h2, h3⟩ := sum_pos r fun x hx => h x (List.mem_cons_of_mem _ hx)
    have hy := h y List.mem_cons_self
    rw [List.sum_cons, List.length_cons]
    refine ⟨by omega, by omega, fun x hx => ?_⟩
    rcases List.mem_cons.mp hx with rfl | hx
    · omega
    · have := h3 x hx
      omega
theorem kinds_mem : ∀ (d n most : Nat) (l : List Int), l.Pairwise (· ≥ ·) → (∀ x ∈ l, 0 < x ∧ x ≤ most) → l.sum = n → n ≤ d → l ∈ kindsF d n most
  | d, n, most, [], _, _, hs, hn => by
    have n0 : n = 0 := by
      simp at hs
      omega
    subst n0
    cases d with
    | zero => exact List.mem_singleton.mpr rfl
    | succ d => exact List.mem_singleton.mpr rfl
  | 0, n, most, y :: r, hp, hx, hs, hn => by
    have h := sum_pos (y :: r) fun x hx' => (hx x hx').1
    rw [List.length_cons] at h
    omega
  | d + 1, n, most, y :: r, hp, hx, hs, hn => by
    have h := sum_pos (y :: r) fun x hx' => (hx x hx').1
    have hy := hx y List.mem_cons_self
    have hp' := List.pairwise_cons.mp hp
    have hyn : y ≤ n := by
      rw [← hs]
      exact h.2.2 y List.mem_cons_self
    rw [List.sum_cons] at hs
    have n0 : n ≠ 0 := by
      rw [List.length_cons, List.sum_cons] at h
      omega
    have ih := kinds_mem d (n - (y.toNat - 1 + 1)) (y.toNat - 1 + 1) r hp'.2 (fun x hx' => ⟨(hx x (List.mem_cons_of_mem _ hx')).1, by
      have := hp'.1 x hx'
      omega⟩) (by omega) (by omega)
    show y :: r ∈ if n = 0 then [[]] else _
    rw [if_neg n0]
    refine List.mem_flatMap.mpr ⟨y.toNat - 1, List.mem_range.mpr ?_, List.mem_map.mpr ⟨r, ih, ?_⟩⟩
    · omega
    · rw [show (((y.toNat - 1 + 1 : Nat)) : Int) = y by omega]
theorem fall_kind {n : Nat} (hn : n ≤ 10) {l : List Int} (hp : ∀ x ∈ l, 0 < x) (hs : l.sum = n) : fall l ∈ K n := by
  have pm := fall_perm l
  have h := sum_pos l hp
  refine kinds_mem 10 n n (fall l) (fall_sorted l) (fun x hx => ?_) ((perm_sum pm).trans hs) hn
  have hx' := pm.mem_iff.mp hx
  have := h.2.2 x hx'
  exact ⟨hp x hx', by omega⟩
theorem few_kinds {n : Nat} (hn : n ≤ 10) {ks : TL} (h : ∀ p ∈ ks, p.2 ∈ K n) : Few ks := fun L hL nd => by
  have l1 : (L.map (·.2)).length ≤ (K n).length := len_sub nd fun y hy => by
    obtain ⟨p, hp, rfl⟩ := List.mem_map.mp hy
    exact h p (hL p hp)
  have := (K_fit n (by omega)).1
  rw [List.length_map] at l1
  omega
theorem keys_of {S : Addr → Prop} {H : Hp} : ∀ {vs : List V} {xs : List (List Int)}, Paired (RTI S H) vs xs → ∃ ks : TL, vs = ks.map (fun p => V.ref p.1) ∧ ks.map (·.2) = xs ∧ ∀ p ∈ ks, H p.1 = some (.tup (p.2.map V.int))
  | _, _, .nil => ⟨[], rfl, rfl, fun p hp => nomatch hp⟩
  | _, x :: _, .cons ⟨a, e, _, ha⟩ t => by
    obtain ⟨ks, h1, h2, h3⟩ := keys_of t
    refine ⟨(a, x) :: ks, by rw [e, h1]; rfl, by rw [← h2]; rfl, fun p hp => ?_⟩
    rcases List.mem_cons.mp hp with rfl | hp
    · exact ha
    · exact h3 p hp
theorem refs_V : ∀ L : TL, Paired (fun (v : V) (q : Addr × List Int) => v = .ref q.1) (L.map fun q => V.ref q.1) L
  | [] => .nil
  | q :: r => .cons rfl (refs_V r)
theorem ix_neg {n : Nat} (h : 0 < n) : ixN n (-1) = some (n - 1) := by
  unfold ixN
  rw [if_neg (by omega), if_pos (by omega), show ((-1 : Int) + (n : Int)).toNat = n - 1 by omega]
theorem set_last_sum : ∀ (l : List Int) (x : Int), l[l.length - 1]? = some x → (l.set (l.length - 1) (x + 1)).sum = l.sum + 1 := fun l x h => by
  rw [sum_set h]
  omega
abbrev sLk : Stmt := topS 31
theorem scLk : FnScope ["_law_n", "_law_found", "_law_cutting", "_law_runs", "_law_k", "_law_some"] ["_law_n"] (defScope sLk) := ⟨rfl, rfl, rfl, by decide +kernel, rfl, by decide +kernel, by decide +kernel⟩
def spLk : Sp := fun vs H Q _ => ∃ n : Nat, vs = [.int n] ∧ 1 ≤ n ∧ n ≤ 10 ∧ ∀ xs : List (List Int), (∀ k ∈ xs, k ∈ K n) → 0 < xs.length → xs.length < 64 → Ret (RL (RL RI)) H Q xs
section
variable {P : Program} {w : World} {K : PySem.W.Frag} {mg : Str → Option Value} {base : Heap} {f : Addr} {fd : FuncData}
theorem ok_lk (F : Fun K "_law_kinds" "_law_kinds" sLk f fd) (B : Bn mg) : FnOk P w K mg base CX0 1 f fd ["_law_n"] spLk := by
  refine F.ok scLk (fun vs H Q E h => ?_) (fun cdv A outer s H vs Q E hr h => ?_)
  · obtain ⟨n, rfl, _⟩ := h
    rfl
  · obtain ⟨n, rfl, h1, hn, q⟩ := h
    have hu20 : _ + 20 < cLine := Nat.lt_of_le_of_lt (Nat.add_le_add_left (by decide : 20 ≤ 64) _) hr.units
    refine ⟨_, pss_cons (ps_set (i := 1) scLk.nd rfl (.inl rfl) (pe_lst pa_nil))
      (pss_cons (ps_for PassesOwn.never rfl (pi_range1 (by rfl) B.range (pa_cons (pe_op op_shl pe_int (pe_op op_sub (pv 0) pe_int)) pa_nil)) (pg_name (i := 2) scLk.nd rfl (.inl rfl))
        (pss_cons (ps_set (i := 3) scLk.nd rfl (.inl rfl) (pe_lst (pa_cons pe_int pa_nil)))
        (pss_cons (ps_for PassesOwn.never rfl (pi_range1 (by rfl) B.range (pa_cons (pe_op op_sub (pv 0) pe_int) pa_nil)) (pg_name (i := 4) scLk.nd rfl (.inl rfl))
          (pss_one (ps_if (pt_cmpR op_eq (pe_op op_and (pe_op op_shr (pv 2) (pv 4)) pe_int) pe_int (nomark _))
            (pss_one (ps_expr (pe_bm PySem.F.plainAttrs_list PySem.F.slot_list_append PySem.F.type_list_append mt_append (pv 3) (pa_cons pe_int pa_nil))))
            (pss_one (ps_asg (pe_op op_add (pe_ix ix_list (pv 3) (pe_un un_neg pe_int) (fun _ _ => rfl)) pe_int) (pg_sub (pv 3) (pe_un un_neg pe_int) set_list))))))
        (pss_one (ps_expr (pe_bm PySem.F.plainAttrs_list PySem.F.slot_list_append PySem.F.type_list_append mt_append (pv 1)
          (pa_cons (pe_callTy c_tup (by rfl) B.tuple (by decide +kernel) (pa_cons (pe_callBK (cr_sortedRev (b := true)) (by rfl) B.sorted (by decide +kernel) (pa_cons (pv 3) pa_nil) (pk_cons pe_bl pk_nil)) pa_nil)) pa_nil)))))))
      (pss_one (ps_ret (pe_lc (own := [("_law_some", 5)]) (g := gName 5) (tt := tYes) (te := tCB (rLstOf K) (tCons (tVar 5) tNil)) rfl scLk.nd
        (pi_list (pe_callB (cr_sortMany rfl hu20) (by rfl) B.sorted (by decide +kernel) (pa_cons (pe_callTy (cr_setMany rfl hr.units) (by rfl) B.set (by decide +kernel) (pa_cons (pv 1) pa_nil)) pa_nil)))
        (blkOk_by (own := [("_law_some", 5)]) (N := ["_law_n", "_law_found", "_law_cutting", "_law_runs", "_law_k", "_law_some"]) (sc := defScope sLk) (by decide +kernel))
        (fun _ _ _ _ _ => pg_name (i := 5) scLk.nd rfl (.inl rfl)) (fun _ _ _ _ _ => pts_nil)
        (fun _ _ _ _ _ => pe_callTy c_lst (by rfl) B.list (by decide +kernel) (pa_cons (pv 5) pa_nil)))))), ?_⟩
    refine ⟨Nat.zero_le _, fun o no => ?_⟩
    have e0 : ((n : Int) - 1).toNat = n - 1 := by omega
    have ej : (1 : Int) * 2 ^ ((n : Int) - 1).toNat = ((2 ^ (n - 1) : Nat) : Int) := by
      rw [e0, Int.one_mul, Int.natCast_pow]
      rfl
    have hN : 2 ^ (n - 1) ≤ 512 := Nat.pow_le_pow_right (n := 2) (by decide) (show n - 1 ≤ 9 by omega)
    have hN0 : 0 < 2 ^ (n - 1) := Nat.pow_pos (by decide)
    refine ⟨_, rfl, _, _, rfl, rfl, _, _, rfl, rfl, ⟨by omega, by omega, by decide⟩, _, rfl, ?_⟩
    rw [ej]
    generalize hNe : 2 ^ (n - 1) = N at hN hN0 ⊢
    refine ⟨by omega, by omega, ?_⟩
    rw [show ((N : Int)).toNat = N by omega]
    refine for_range (lo := 0) (n := N) (fun i σ H2 => ∃ y2 y3 y4, σ = [some (.int n), some (.ref o), y2, y3, y4, none] ∧ ∃ xs, Acc RTI H o H2 xs ∧ xs.length = i ∧ ∀ k ∈ xs, k ∈ Ct.K n) ⟨none, none, none, rfl, [], Acc.start no, rfl, fun k hk => nomatch hk⟩ ?_ ?_
    · rintro i σ H2 hi ⟨y2, y3, y4, rfl, xs, A2, xl, xk⟩
      refine ⟨(by show 1 ≤ sizeLine; decide), fun rn nrn => ?_⟩
      have s23 : Same H2 (upd H2 rn (.lst [.int 1])) := same_new nrn
      refine ⟨_, rfl, _, _, rfl, rfl, _, rfl, by omega, by omega, ?_⟩
      rw [e0]
      refine for_range (lo := 0) (n := n - 1) (fun j σ H4 => ∃ y4 rs, σ = [some (.int n), some (.ref o), some (.int (0 + (i : Int))), some (.ref rn), y4, none] ∧ H4 rn = some (.lst (rs.map V.int)) ∧ (∀ x ∈ rs, 0 < x) ∧ rs.sum = (j : Int) + 1 ∧ rs ≠ [] ∧ Same H2 H4)
        ⟨y4, [1], rfl, upd_same, fun x hx => by rw [List.mem_singleton.mp hx]; decide, rfl, by simp, s23⟩ ?_ ?_
      · rintro j σ H4 hj ⟨y4, rs, rfl, hrn, rp, rsum, rne, s24⟩
        have sp := sum_pos rs rp
        refine ⟨_, rfl, _, rfl, _, _, rfl, rfl, (by show (0 : Int) ≤ 0 + (j : Int); omega), _, _, rfl, rfl, rfl, _, rfl, ite2 (fun _ => ?_) (fun _ => ?_)⟩
        · refine ⟨.ref rn, rfl, .inl ⟨rfl, _, SqL.of hrn⟩, rn, _, .int 1, rfl, rfl, hrn, ?_, _, rs ++ [1], rfl, ?_, fun x hx => ?_, ?_, by simp, same_but s24 nrn⟩
          · rw [List.length_map]
            exact small1000 (by omega)
          · rw [upd_same, List.map_append]
            rfl
          · rcases List.mem_append.mp hx with hx | hx
            · exact rp x hx
            · rw [List.mem_singleton.mp hx]
              decide
          · rw [List.sum_append, rsum]
            simp
        · have l0 : 0 < rs.length := List.length_pos_iff.mpr rne
          obtain ⟨x, ex⟩ : ∃ x, rs[rs.length - 1]? = some x := ⟨_, List.getElem?_eq_getElem (show rs.length - 1 < rs.length by omega)⟩
          have ex' : (rs.map V.int)[rs.length - 1]? = some (.int x) := by
            rw [List.getElem?_map, ex]
            rfl
          have hx0 := rp x (List.mem_of_getElem? ex)
          refine ⟨_, rfl, 1, rfl, rn, _, _, _, rfl, rfl, SqL.of hrn, at_last (n := rs.length - 1) (by rw [List.length_map]; omega) ex', _, _, rfl, rfl, ?_⟩
          refine ⟨_, rfl, 1, rfl, rn, _, _, _, rfl, rfl, hrn, ix_neg (by rw [List.length_map]; exact l0), some (.int (0 + (j : Int))), rs.set (rs.length - 1) (x + 1), rfl, ?_, fun y hy => ?_, ?_, ?_, same_but s24 nrn⟩
          · rw [upd_same, List.length_map, List.map_set]
          · rcases List.mem_or_eq_of_mem_set hy with hy | rfl
            · exact rp y hy
            · omega
          · rw [set_last_sum rs x ex, rsum]
            omega
          · intro z
            have := congrArg List.length z
            rw [List.length_set, List.length_nil] at this
            omega
      · rintro σ H4 ⟨y4, rs, rfl, hrn, rp, rsum, rne, s24⟩
        have A4 := A2.step keeps_TI s24
        obtain ⟨acc, eo⟩ := A4.at
        have fk : fall rs ∈ Ct.K n := fall_kind hn rp (by rw [rsum]; omega)
        refine ⟨.ref o, rfl, .inl ⟨rfl, _, SqL.of eo⟩, ?_⟩
        refine ⟨_, rfl, rn, rs, rfl, rfl, SqL.of hrn, fun ns' p pm od np => ?_⟩
        obtain rfl : ns' = fall rs := fall_eq pm od
        refine ⟨p, _, rfl, .inl ⟨SqL.of upd_same, fun t nt => ?_⟩⟩
        dsimp only [tNil]
        refine A4.append (x := fall rs) keeps_TI no ((same_new np).trans (same_new nt)) ⟨t, rfl, (same_new np).free nt, upd_same⟩ ?_ fun H6 A6 _ => ⟨_, _, _, rfl, xs ++ [fall rs], A6, ?_, fun k hk => ?_⟩
        · exact small1000 (by omega)
        · rw [List.length_append, xl]
          rfl
        · rcases List.mem_append.mp hk with hk | hk
          · exact xk k hk
          · rw [List.mem_singleton.mp hk]
            exact fk
    · rintro σ H2 ⟨y2, y3, y4, rfl, xs, A2, xl, xk⟩
      obtain ⟨s02, acc, eo, pa⟩ := A2
      obtain ⟨ks, rfl, e2, hks⟩ := keys_of pa
      have kK : ∀ p ∈ ks, p.2 ∈ Ct.K n := fun p hp => xk p.2 (by rw [← e2]; exact List.mem_map.mpr ⟨p, hp, rfl⟩)
      refine ⟨_, rfl, o, ks, rfl, SqL.of eo, fun p hp => SqT.of (hks p hp), few_kinds hn kK, fun a L na hL hc => ?_⟩
      have s3 := same_new (o := SetTO P w a L) na
      refine ⟨a, L, rfl, upd_same, fun p hp => SqT.of (s3 _ _ (hks p (hL p hp))), fun p hp z => ?_, fun L' p pm lt np => ?_⟩
      · have kf := ((K_fit n (by omega)).2.2 p.2 (kK p (hL p hp))).2.2
        rw [z] at kf
        simp at kf
        omega
      refine ⟨p, rfl, ⟨_, SqL.of upd_same⟩, fun D nD => ?_⟩
      have s24 := s3.trans (same_new (o := .lst (L'.map fun q => V.ref q.1)) np)
      have mL : ∀ q ∈ L', q ∈ ks := fun q hq => hL q (pm.mem_iff.mp hq)
      refine lc_rep keeps_LI (walk_listR (K := K) (a := p) (refs_V L')) nD (fun j => (L'.take j).map (·.2)) rfl (fun j hj => ?_) (fun H' s' => s'.seq (SqL.of upd_same)) ?_ ?_
      · rw [List.length_map, List.length_take]
        exact small1000 (by omega)
      · rintro j x _ H5 hj s5 ⟨rfl, z, ez, rfl⟩ Kn Ky kn ky
        have hz := s5 _ _ (s24 _ _ (hks z (mL z (List.mem_of_getElem? ez))))
        refine ⟨rfl, lc_yes ⟨_, rfl, z.1, _, rfl, .inr (SqT.of hz), fun l nl => ky _ z.2 _ (same_new nl) (int_rl nl upd_same) ?_⟩⟩
        rw [List.take_add_one, ez, List.map_append]
        rfl
      · intro H5 s5 r5
        rw [List.take_length] at r5
        have s04 := s02.trans s24
        refine q (L'.map (·.2)) (fun k hk => ?_) ?_ (by rw [List.length_map]; exact lt) H5 _ (s04.trans s5) (keeps_LLI.older r5 s04)
        · obtain ⟨z, hz, rfl⟩ := List.mem_map.mp hk
          exact kK z (mL z hz)
        · have kl : ks.length = N := by
            rw [← xl, ← e2, List.length_map]
          cases ks with
          | nil =>
            simp at kl
            omega
          | cons k0 kr =>
            obtain ⟨y, hy, _⟩ := List.mem_map.mp (hc k0 List.mem_cons_self)
            have : 0 < L.length := List.length_pos_of_mem hy
            rw [List.length_map, pm.length_eq]
            exact this
end
end Ct
namespace Ct
open PySem PySem.Spec PyProof.Rows L2
abbrev sLp : Stmt := topS 28
abbrev sLt : Stmt := topS 29
abbrev sLw : Stmt := topS 30
abbrev sLb2 : Stmt := topS 32
theorem scLp : FnScope ["_law_script", "_law_at", "_law_cell", "_law_far", "_law_primes"] ["_law_script", "_law_at"] (defScope sLp) := ⟨rfl, rfl, rfl, by decide +kernel, rfl, by decide +kernel, by decide +kernel⟩
theorem scLt : FnScope ["_law_pool_here", "_law_many", "_law_found"] ["_law_pool_here", "_law_many"] (defScope sLt) := ⟨rfl, rfl, rfl, by decide +kernel, rfl, by decide +kernel, by decide +kernel⟩
theorem scLw : FnScope ["_law_thing"] ["_law_thing"] (defScope sLw) := ⟨rfl, rfl, rfl, by decide +kernel, rfl, by decide +kernel, by decide +kernel⟩
theorem scLb2 : FnScope ["_law_pool_here", "_law_most", "_law_some"] ["_law_pool_here", "_law_most"] (defScope sLb2) := ⟨rfl, rfl, rfl, by decide +kernel, rfl, by decide +kernel, by decide +kernel⟩
/-- the pool at p -/
def Pool (H : Hp) (p : Addr) : Prop := ∃ f x : Int, H p = some (.lst [.int f, .int x]) ∧ 0 ≤ f ∧ 0 ≤ x ∧ x < 2147483647
def spLp (K : PySem.W.Frag) : Sp := fun vs H Q _ => ∃ (a : Addr) (ns : List Int), vs = [.ref a, .int 0] ∧ SqL K H a (ns.map V.int) ∧ ns.length ≤ 63 ∧ ∀ H' p, Same H H' → H p = none → Pool H' p → Q (.ref p) H'
def spLt : Sp := fun vs H Q _ => ∃ (p : Addr) (many : Int), vs = [.ref p, .int many] ∧ Pool H p ∧ 0 < many ∧ many < 1073741824 ∧ ∀ H' r, (∀ b o, b ≠ p → H b = some o → H' b = some o) → Pool H' p → 0 ≤ r → r < many → Q (.int r) H'
def spLw : Sp := fun vs H Q _ => ∃ i : Int, vs = [.int i] ∧ Q (.bl true) H
def spLb2 : Sp := fun vs H Q _ => ∃ (p : Addr), vs = [.ref p, .int 10] ∧ Pool H p ∧ ∀ H' v (n : Nat) k, (∀ b o, b ≠ p → H b = some o → H' b = some o) → Pool H' p → 1 ≤ n → n ≤ 10 → k ∈ K n → RL RI (newA H) H' v k → Q v H'
section
variable {P : Program} {w : World} {K : PySem.W.Frag} {mg : Str → Option Value} {base : Heap} {f gk gt : Addr} {fd gkd gtd : FuncData}
theorem ok_lp (F : Fun K "_law_pool" "_law_pool" sLp f fd) (B : Bn mg) : FnOk P w K mg base CX0 1 f fd ["_law_script", "_law_at"] (spLp K) := by
  refine F.ok scLp (fun vs H Q E h => ?_) (fun cdv A outer s H vs Q E hr h => ?_)
  · obtain ⟨a, ns, rfl, _⟩ := h
    rfl
  · obtain ⟨a, ns, rfl, hS, hl, q⟩ := h
    refine ⟨_, pss_cons (ps_set (i := 2) scLp.nd rfl (.inl rfl) (pe_op op_add (pe_op op_mul pe_int (pv 1)) pe_int))
      (pss_cons (ps_if (pt_cmpR op_lt (pv 1) (pe_callB c_len (by rfl) B.len PySem.boot_len (pa_cons (pv 0) pa_nil)) (nomark _))
        (pss_one (ps_set (i := 2) scLp.nd rfl (.inl rfl) (pe_ix ix_list (pv 0) (pv 1) (fun _ _ => rfl)))) pss_nil)
      (pss_cons (ps_set (i := 3) scLp.nd rfl (.inl rfl) (pe_callB call_abs (by rfl) B.abs (by decide +kernel) (pa_cons (pv 2) pa_nil)))
      (pss_cons (ps_if (pt_cmpR op_lt (pv 3) (pe_op op_pow pe_int pe_int) (nomark _)) (pss_one (ps_set (i := 3) scLp.nd rfl (.inl rfl) pe_int)) pss_nil)
      (pss_cons (ps_set (i := 4) scLp.nd rfl (.inl rfl) (pe_tup (pa_cons pe_int (pa_cons pe_int (pa_cons pe_int (pa_cons pe_int (pa_cons pe_int (pa_cons pe_int (pa_cons pe_int (pa_cons pe_int pa_nil))))))))))
      (pss_one (ps_ret (pe_lst (pa_cons (pv 3) (pa_cons (pe_op op_mod (pe_op op_add (pe_op op_add (pe_op op_mul (pe_op op_mod (pv 2) (pe_ix ix_tup (pv 4) (pe_op op_mod (pv 1) pe_int) (fun _ _ => rfl))) pe_int) (pe_op op_mul pe_int (pv 1))) pe_int) pe_int) pa_nil))))))))), ?_⟩
    refine ⟨_, rfl, _, _, rfl, rfl, .inl ⟨by decide, by decide⟩, _, _, rfl, rfl, ?_⟩
    refine ⟨_, rfl, _, rfl, a, _, rfl, .inl hS, _, _, rfl, rfl, _, rfl, ite2 (fun c => ?_) (fun c => ?_)⟩
    · have l0 : 0 < ns.length := by
        have z : (0 : Int) < ((ns.map V.int).length : Int) := of_decide_eq_true c
        rw [List.length_map] at z
        omega
      refine ⟨_, rfl, _, rfl, a, _, _, _, rfl, rfl, hS, at_int (ns := ns) (i := 0) l0, ?_⟩
      generalize ns.getD 0 0 = cell
      refine ⟨_, rfl, _, rfl, _, rfl, _, _, rfl, rfl, ⟨by decide, by decide, by decide⟩, _, _, rfl, rfl, _, rfl, ite2 (fun _ => ?_) (fun _ => ?_)⟩
      all_goals
        refine ⟨(by show 8 ≤ sizeLine; decide), fun t nt => ?_⟩
        refine ⟨_, rfl, _, rfl, _, rfl, _, rfl, _, _, rfl, rfl, (by show (0 : Int) < 8; decide), t, _, _, .int 2147483629, rfl, rfl, SqT.of upd_same, rfl, _, _, rfl, rfl, (by show (0 : Int) < 2147483629; decide), _, _, rfl, rfl, .inr ⟨by decide, by decide⟩, _, rfl, _, _, rfl, rfl, .inl ⟨by decide, by decide⟩, _, _, rfl, rfl, _, _, rfl, rfl, _, _, rfl, rfl, (by show (0 : Int) < 2147483647; decide), (by show 2 ≤ sizeLine; decide), fun p np => ?_⟩
        refine q _ p ((same_new nt).trans (same_new np)) ((same_new nt).free np) ⟨_, _, upd_same, ?_, Int.emod_nonneg _ (by decide), Int.emod_lt_of_pos _ (by decide)⟩
      · exact Int.le_refl 0
      · split <;> omega
    · refine ⟨_, rfl, _, rfl, _, rfl, _, _, rfl, rfl, ⟨by decide, by decide, by decide⟩, _, _, rfl, rfl, _, rfl, ite2 (fun _ => ?_) (fun _ => ?_)⟩
      all_goals
        refine ⟨(by show 8 ≤ sizeLine; decide), fun t nt => ?_⟩
        refine ⟨_, rfl, _, rfl, _, rfl, _, rfl, _, _, rfl, rfl, (by show (0 : Int) < 8; decide), t, _, _, .int 2147483629, rfl, rfl, SqT.of upd_same, rfl, _, _, rfl, rfl, (by show (0 : Int) < 2147483629; decide), _, _, rfl, rfl, .inr ⟨by decide, by decide⟩, _, rfl, _, _, rfl, rfl, .inl ⟨by decide, by decide⟩, _, _, rfl, rfl, _, _, rfl, rfl, _, _, rfl, rfl, (by show (0 : Int) < 2147483647; decide), (by show 2 ≤ sizeLine; decide), fun p np => ?_⟩
        refine q _ p ((same_new nt).trans (same_new np)) ((same_new nt).free np) ⟨_, _, upd_same, ?_, Int.emod_nonneg _ (by decide), Int.emod_lt_of_pos _ (by decide)⟩
      · exact Int.le_refl 0
      · show (0 : Int) ≤ if (3 * 0 + 1 : Int) < 0 then -(3 * 0 + 1) else 3 * 0 + 1
        decide
theorem ok_lt (F : Fun K "_law_take" "_law_take" sLt f fd) (B : Bn mg) : FnOk P w K mg base CX0 1 f fd ["_law_pool_here", "_law_many"] spLt := by
  refine F.ok scLt (fun vs H Q E h => ?_) (fun cdv A outer s H vs Q E hr h => ?_)
  · obtain ⟨p, m, rfl, _⟩ := h
    rfl
  · obtain ⟨p, m, rfl, hp, m1, m2, q⟩ := h
    refine ⟨_, pss_cons (ps_if (pt_cmpR op_gt (pe_ix ix_list (pv 0) pe_int (fun _ _ => rfl)) pe_int (nomark _))
        (pss_cons (ps_set (i := 2) scLt.nd rfl (.inl rfl) (pe_op op_mod (pe_ix ix_list (pv 0) pe_int (fun _ _ => rfl)) (pv 1)))
        (pss_cons (ps_asg (pe_op op_fdiv (pe_ix ix_list (pv 0) pe_int (fun _ _ => rfl)) (pv 1)) (pg_sub (pv 0) pe_int set_list))
        (pss_one (ps_ret (pv 2))))) pss_nil)
      (pss_cons (ps_asg (pe_op op_mod (pe_op op_add (pe_op op_mul (pe_ix ix_list (pv 0) pe_int (fun _ _ => rfl)) pe_int) pe_int) pe_int) (pg_sub (pv 0) pe_int set_list))
      (pss_one (ps_ret (pe_op op_mod (pe_op op_fdiv (pe_op op_mod (pe_op op_pow (pe_ix ix_list (pv 0) pe_int (fun _ _ => rfl)) pe_int) pe_int) pe_int) (pv 1))))), ?_⟩
    obtain ⟨fa, x, hp, f0, x0, x1⟩ := hp
    refine ⟨_, rfl, p, _, _, _, rfl, rfl, SqL.of hp, atI_nat (j := 0) rfl, _, _, rfl, rfl, _, rfl, ite2 (fun c => ?_) (fun c => ?_)⟩
    · refine ⟨_, rfl, p, _, _, _, rfl, rfl, SqL.of hp, atI_nat (j := 0) rfl, _, rfl, _, _, rfl, rfl, m1, ?_⟩
      refine ⟨_, rfl, p, _, _, _, rfl, rfl, SqL.of hp, atI_nat (j := 0) rfl, _, rfl, _, _, rfl, rfl, ⟨m1, m2⟩, ?_⟩
      refine ⟨_, rfl, p, _, _, 0, rfl, rfl, hp, rfl, _, rfl, q _ _ (fun b o hb e => by rw [upd_ne hb]; exact e) ⟨fa / m, x, upd_same, Int.ediv_nonneg f0 (by omega), x0, x1⟩ (Int.emod_nonneg _ (by omega)) (Int.emod_lt_of_pos _ m1)⟩
    · refine ⟨_, rfl, p, _, _, _, rfl, rfl, SqL.of hp, atI_nat (j := 1) rfl, _, _, rfl, rfl, .inr ⟨by decide, by decide⟩, _, _, rfl, rfl, _, _, rfl, rfl, (by show (0 : Int) < 2147483647; decide), ?_⟩
      have y0 : 0 ≤ (x * 48271 + 11) % 2147483647 := Int.emod_nonneg _ (by decide)
      have y1 : (x * 48271 + 11) % 2147483647 < 2147483647 := Int.emod_lt_of_pos _ (by decide)
      refine ⟨_, rfl, p, _, _, 1, rfl, rfl, hp, rfl, ?_⟩
      refine ⟨_, rfl, p, _, _, .int ((x * 48271 + 11) % 2147483647), rfl, rfl, SqL.of upd_same, atI_nat (j := 1) rfl, _, _, rfl, rfl, ⟨by decide, by decide, by omega⟩, _, _, rfl, rfl, (by show (0 : Int) < 2147483629; decide), _, _, rfl, rfl, ⟨by decide, by decide⟩, _, rfl, _, _, rfl, rfl, m1, ?_⟩
      exact q _ _ (fun b o hb e => by rw [upd_ne hb]; exact e) ⟨fa, _, upd_same, f0, y0, y1⟩ (Int.emod_nonneg _ (by omega)) (Int.emod_lt_of_pos _ m1)
theorem ok_lw (F : Fun K "_law_whole" "_law_whole" sLw f fd) (B : Bn mg) : FnOk P w K mg base CX0 1 f fd ["_law_thing"] spLw := by
  refine F.ok scLw (fun vs H Q E h => ?_) (fun cdv A outer s H vs Q E hr h => ?_)
  · obtain ⟨i, rfl, _⟩ := h
    rfl
  · obtain ⟨i, rfl, q⟩ := h
    refine ⟨_, pss_one (ps_ret (pe_and (pe_callB call_isi (by rfl) B.isinstance (by decide +kernel) (pa_cons (pv 0) (pa_cons (pe_bltn (v := .ty "int") (by rfl) B.int (by decide +kernel) rfl) pa_nil)))
      (pe_one (pe_not (pe_callB call_isi (by rfl) B.isinstance (by decide +kernel) (pa_cons (pv 0) (pa_cons (pe_bltn (v := .ty "bool") (by rfl) B.bool (by decide +kernel) rfl) pa_nil))))))), ?_⟩
    refine ⟨_, rfl, .int i, .ty "int", .type "int", .type "int", true, rfl, .ty _, .base (.int i), kit_ty (by decide +kernel), true, rfl, iteT ?_⟩
    exact ⟨_, rfl, .int i, .ty "bool", .type "int", .type "bool", false, rfl, .ty _, .base (.int i), kit_ty (by decide +kernel), false, rfl, q⟩
theorem ok_lb2 (F : Fun K "_law_kind_by" "_law_kind_by" sLb2 f fd) (B : Bn mg)
    (GK : FnOk P w K mg base CX0 1 gk gkd ["_law_n"] spLk) (kK : PySem.W.keepIn K (.ref gk) = true) (bK : Binds K gkd ["_law_n"] []) (eK : mg "_law_kinds" = some (.ref gk))
    (GT : FnOk P w K mg base CX0 1 gt gtd ["_law_pool_here", "_law_many"] spLt) (kT : PySem.W.keepIn K (.ref gt) = true) (bT : Binds K gtd ["_law_pool_here", "_law_many"] []) (eT : mg "_law_take" = some (.ref gt)) : FnOk P w K mg base CX0 2 f fd ["_law_pool_here", "_law_most"] spLb2 := by
  refine F.ok scLb2 (fun vs H Q E h => ?_) (fun cdv A outer s H vs Q E hr h => ?_)
  · obtain ⟨p, rfl, _⟩ := h
    rfl
  · obtain ⟨p, rfl, hp, q⟩ := h
    refine ⟨_, pss_cons (ps_set (i := 2) scLb2.nd rfl (.inl rfl) (pe_call GK hr (by rfl) eK kK bK .nil pass0 (pa_cons (pe_op op_add pe_int (pe_call GT hr (by rfl) eT kT bT .nil pass0 (pa_cons (pv 0) (pa_cons (pv 1) pa_nil)))) pa_nil)))
      (pss_one (ps_ret (pe_ix ix_list (pv 2) (pe_call GT hr (by rfl) eT kT bT .nil pass0 (pa_cons (pv 0) (pa_cons (pe_callB c_len (by rfl) B.len PySem.boot_len (pa_cons (pv 2) pa_nil)) pa_nil))) (fun _ _ => rfl)))), ?_⟩
    refine ⟨_, rfl, _, rfl, p, 10, rfl, hp, by decide, by decide, fun H1 r k1 p1 r0 r1 => ?_⟩
    obtain ⟨n, rfl⟩ : ∃ n : Nat, r = n := ⟨r.toNat, by omega⟩
    refine ⟨_, _, rfl, rfl, n + 1, ?_, by omega, by omega, fun xs hk l0 l1 H2 v s2 r2 => ?_⟩
    · show [V.int (1 + (n : Int))] = _
      rw [show (1 + (n : Int)) = ((n + 1 : Nat) : Int) by omega]
    obtain ⟨a, vs, rfl, sa, ha, pv⟩ := r2
    obtain ⟨f1, x1, e1, z1⟩ := id p1
    have p2 : Pool H2 p := ⟨f1, x1, s2 _ _ e1, z1⟩
    have nap : ∀ b, H1 b = none → b ≠ p := fun b hb z => by
      rw [z, e1] at hb
      cases hb
    refine ⟨_, rfl, _, rfl, _, rfl, a, _, rfl, .inl (SqL.of ha), p, (vs.length : Int), rfl, p2, by rw [paired_len pv]; omega, by rw [paired_len pv]; omega, fun H3 r' k3 p3 q0 q1 => ?_⟩
    obtain ⟨j, rfl⟩ : ∃ j : Nat, r' = j := ⟨r'.toNat, by omega⟩
    have jl : j < vs.length := by omega
    obtain ⟨y, ey⟩ : ∃ y, vs[j]? = some y := ⟨_, List.getElem?_eq_getElem jl⟩
    obtain ⟨k, ek, rk⟩ := paired_get pv ey
    refine ⟨a, vs, _, y, rfl, rfl, SqL.of (k3 _ _ (nap _ sa) ha), atI_nat ey, q H3 y (n + 1) k (fun b o hb e => k3 _ _ hb (s2 _ _ (k1 _ _ hb e))) p3 (by omega) (by omega) (hk k (List.mem_of_getElem? ek)) ?_⟩
    obtain ⟨b, rfl, sb, hb⟩ := rl_int rk
    have hbp := nap _ sb
    refine int_rl ?_ (k3 _ _ hbp hb)
    cases e : H b with
    | none => exact e
    | some u =>
      have := k1 b u hbp e
      rw [sb] at this
      cases this
end
end Ct
namespace Ct
/-! ### the plain law: the numbers of a picture at the kinds are an eigenvector of joining and cutting -/
def rowAt (n : Nat) (p : List Int) : List Int := (tabN n).getD (ixOf (kinN n) p) []
theorem tab_row (n : Nat) (p k : List Int) : tabAt n p k = (rowAt n p).getD (ixOf (kinN n) k) 0 := rfl
def eigN (n : Nat) : Bool := (kinN n).all fun p => decide (moreL (stpN n) (rowAt n p) = (rowAt n p).map fun x => contentsL p * x) && decide ((rowAt n p).length = (kinN n).length)
theorem eig_lo : ∀ n, n < 9 → 0 < n → eigN n = true := by decide +kernel
theorem eig_9 : eigN 9 = true := by decide +kernel
theorem eig_10 : eigN 10 = true := by decide +kernel
theorem eig_all : ∀ n, n < 11 → 0 < n → eigN n = true := fun n h h0 => by
  by_cases h9 : n < 9
  · exact eig_lo n h9 h0
  · rcases (show n = 9 ∨ n = 10 by omega) with rfl | rfl
    · exact eig_9
    · exact eig_10
def basN (n : Nat) : Bool := (List.range (kinN n).length).all fun j => decide (((kinN n).map fun p => (rowAt n p).getD (ixOf (kinN n) (List.replicate n 1)) 0 * (rowAt n p).getD j 0).sum = fct (n - 1) * (firstL n).getD j 0)
theorem bas_lo : ∀ n, n < 9 → 0 < n → basN n = true := by decide +kernel
theorem bas_9 : basN 9 = true := by decide +kernel
theorem bas_10 : basN 10 = true := by decide +kernel
theorem bas_all : ∀ n, n < 11 → 0 < n → basN n = true := fun n h h0 => by
  by_cases h9 : n < 9
  · exact bas_lo n h9 h0
  · rcases (show n = 9 ∨ n = 10 by omega) with rfl | rfl
    · exact bas_9
    · exact bas_10
section
variable {α β : Type}
theorem sum_mul (c : Int) (f : α → Int) : ∀ l : List α, (l.map fun x => c * f x).sum = c * (l.map f).sum
  | [] => by simp
  | x :: r => by
    rw [List.map_cons, List.map_cons, List.sum_cons, List.sum_cons, sum_mul c f r, Int.mul_add]
theorem sum_add (f g : α → Int) : ∀ l : List α, (l.map fun x => f x + g x).sum = (l.map f).sum + (l.map g).sum
  | [] => by simp
  | x :: r => by
    rw [List.map_cons, List.map_cons, List.map_cons, List.sum_cons, List.sum_cons, List.sum_cons, sum_add f g r]
    omega
theorem sum_zero : ∀ l : List α, (l.map fun _ => (0 : Int)).sum = 0
  | [] => rfl
  | x :: r => by
    rw [List.map_cons, List.sum_cons, sum_zero r]
    rfl
theorem sum_swap (f : α → β → Int) (m : List β) : ∀ l : List α, (l.map fun x => (m.map fun y => f x y).sum).sum = (m.map fun y => (l.map fun x => f x y).sum).sum
  | [] => by
    simp only [List.map_nil, List.sum_nil]
    exact (sum_zero m).symm
  | x :: r => by
    rw [List.map_cons, List.sum_cons, sum_swap f m r, ← sum_add]
    rfl
end
theorem more_at (steps : List (List (Int × Int))) (v : List Int) (j : Nat) : (moreL steps v).getD j 0 = match steps[j]? with
    | none => 0
    | some s => (s.map fun (q : Int × Int) => q.2 * v.getD q.1.toNat 0).sum := by
  unfold moreL
  rw [List.getD_eq_getElem?_getD, List.getElem?_map]
  cases steps[j]? <;> rfl
theorem scale_at (c : Int) (v : List Int) (j : Nat) : (v.map fun x => c * x).getD j 0 = c * v.getD j 0 := by
  rw [List.getD_eq_getElem?_getD, List.getElem?_map, List.getD_eq_getElem?_getD]
  cases v[j]? with
  | none => simp
  | some x => rfl
theorem getD_none {v : List Int} {j : Nat} (h : v.length ≤ j) : v.getD j 0 = 0 := by
  rw [List.getD_eq_getElem?_getD, List.getElem?_eq_none h]
  rfl
/-- the sum over all pictures -/
def pic (n : Nat) (m j : Nat) : Int := ((kinN n).map fun p => (rowAt n p).getD (ixOf (kinN n) (List.replicate n 1)) 0 * contentsL p ^ m * (rowAt n p).getD j 0).sum
theorem eig_at {n : Nat} (h0 : 0 < n) (hn : n < 11) {p : List Int} (hp : p ∈ kinN n) : moreL (stpN n) (rowAt n p) = ((rowAt n p).map fun x => contentsL p * x) ∧ (rowAt n p).length = (kinN n).length := by
  have h := eig_all n hn h0
  unfold eigN at h
  have h' := List.all_eq_true.mp h p hp
  simpa using h'
theorem pic_step {n : Nat} (h0 : 0 < n) (hn : n < 11) (m j : Nat) : pic n (m + 1) j = match (stpN n)[j]? with
    | none => 0
    | some s => (s.map fun (q : Int × Int) => q.2 * pic n m q.1.toNat).sum := by
  have e1 : pic n (m + 1) j = ((kinN n).map fun p => (rowAt n p).getD (ixOf (kinN n) (List.replicate n 1)) 0 * contentsL p ^ m * (moreL (stpN n) (rowAt n p)).getD j 0).sum := by
    unfold pic
    congr 1
    refine List.map_congr_left fun p hp => ?_
    rw [(eig_at h0 hn hp).1, scale_at, Int.pow_succ, ← Int.mul_assoc, ← Int.mul_assoc]
  rw [e1]
  simp only [more_at]
  cases (stpN n)[j]? with
  | none =>
    simp only [Int.mul_zero]
    exact sum_zero _
  | some s =>
    have e2 : ∀ p : List Int, (rowAt n p).getD (ixOf (kinN n) (List.replicate n 1)) 0 * contentsL p ^ m * (s.map fun (q : Int × Int) => q.2 * (rowAt n p).getD q.1.toNat 0).sum =
        (s.map fun (q : Int × Int) => q.2 * ((rowAt n p).getD (ixOf (kinN n) (List.replicate n 1)) 0 * contentsL p ^ m * (rowAt n p).getD q.1.toNat 0)).sum := fun p => by
      rw [← sum_mul]
      congr 1
      refine List.map_congr_left fun q _ => ?_
      rw [Int.mul_left_comm]
    simp only [e2]
    rw [sum_swap]
    congr 1
    refine List.map_congr_left fun q _ => ?_
    rw [sum_mul]
    rfl
theorem K_pos : ∀ n, n < 11 → 0 < n → (K n).length = (kinN n).length ∧ (stpN n).length = (kinN n).length := by decide +kernel
theorem vec_len' (n : Nat) (h0 : 0 < n) (hn : n < 11) : ∀ m, (vecL n m).length = (kinN n).length
  | 0 => by
    show (firstL n).length = _
    unfold firstL
    rw [List.length_map, (K_pos n hn h0).1]
  | m + 1 => by
    show (moreL _ _).length = _
    unfold moreL
    rw [List.length_map, stepsL_eq n hn h0, (K_pos n hn h0).2]
theorem pic_vec {n : Nat} (h0 : 0 < n) (hn : n < 11) : ∀ m j, pic n m j = fct (n - 1) * (vecL n m).getD j 0
  | 0, j => by
    by_cases hj : j < (kinN n).length
    · have h := bas_all n hn h0
      unfold basN at h
      have h' := of_decide_eq_true (List.all_eq_true.mp h j (List.mem_range.mpr hj))
      show pic n 0 j = fct (n - 1) * (firstL n).getD j 0
      rw [← h']
      unfold pic
      congr 1
      refine List.map_congr_left fun p _ => ?_
      rw [Int.pow_zero, Int.mul_one]
    · rw [getD_none (by rw [vec_len' n h0 hn]; omega), Int.mul_zero]
      unfold pic
      rw [show ((kinN n).map fun p => (rowAt n p).getD (ixOf (kinN n) (List.replicate n 1)) 0 * contentsL p ^ 0 * (rowAt n p).getD j 0) = (kinN n).map fun _ => (0 : Int) from List.map_congr_left fun p hp => by
        rw [getD_none (v := rowAt n p) (j := j) (by rw [(eig_at h0 hn hp).2]; omega), Int.mul_zero]]
      exact sum_zero _
  | m + 1, j => by
    rw [pic_step h0 hn]
    show _ = fct (n - 1) * (moreL (stepsL n) (vecL n m)).getD j 0
    rw [stepsL_eq n hn h0, more_at]
    cases (stpN n)[j]? with
    | none => simp
    | some s =>
      show (s.map fun (q : Int × Int) => q.2 * pic n m q.1.toNat).sum = fct (n - 1) * (s.map fun (q : Int × Int) => q.2 * (vecL n m).getD q.1.toNat 0).sum
      rw [← sum_mul]
      congr 1
      refine List.map_congr_left fun q _ => ?_
      rw [pic_vec h0 hn m q.1.toNat, Int.mul_left_comm]
theorem by_eq {n : Nat} (h0 : 0 < n) (hn : n < 11) (h1 : List.replicate n (1 : Int) ∈ K n) {k : List Int} (hk : k ∈ K n) (m : Nat) :
    ((K n).map fun p => chi p (List.replicate n 1) * chi p k * contentsL p ^ m).sum = fct (n - 1) * (vecL n m).getD (ixOf (K n) k) 0 := by
  rw [K_eq n hn, ← pic_vec h0 hn m]
  unfold pic
  congr 1
  refine List.map_congr_left fun p hp => ?_
  rw [← K_eq n hn] at hp
  rw [chi_tab _ n p hn hp h1, chi_tab _ n p hn hp hk, tab_row, tab_row, Int.mul_assoc, Int.mul_assoc, Int.mul_comm (contentsL p ^ m)]
end Ct
namespace Ct
open PySem PySem.Spec PyProof.Rows L2
theorem by_cnt {n : Nat} (h0 : 1 ≤ n) (hn : n ≤ 10) {k : List Int} (hk : k ∈ K n) (m : Nat) : byP n k m = (vecL n m).getD (ixOf (K n) k) 0 := by
  unfold byP
  rw [by_eq h0 (by omega) (ones_in n (by omega)) hk m]
  have := (fct_bd n (by omega)).1
  exact Int.mul_ediv_cancel_left _ (by omega)
theorem all_one : ∀ l : List Int, (∀ x ∈ l, 0 < x) → l.sum = l.length → ∀ x ∈ l, x = 1
  | [], _, _, x, hx => nomatch hx
  | y :: r, h, e, x, hx => by
    have h1 := sum_pos r fun x hx => h x (List.mem_cons_of_mem _ hx)
    have hy := h y List.mem_cons_self
    rw [List.sum_cons, List.length_cons] at e
    rcases List.mem_cons.mp hx with rfl | hx
    · omega
    · exact all_one r (fun x hx => h x (List.mem_cons_of_mem _ hx)) (by omega) x hx
theorem one_all : ∀ l : List Int, (∀ x ∈ l, 0 < x) → (∀ x ∈ l, x ≤ 1) → l.sum = l.length
  | [], _, _ => rfl
  | y :: r, h, e => by
    have hy := h y List.mem_cons_self
    have ey := e y List.mem_cons_self
    have ih := one_all r (fun x hx => h x (List.mem_cons_of_mem _ hx)) fun x hx => e x (List.mem_cons_of_mem _ hx)
    rw [List.sum_cons, List.length_cons]
    omega
theorem by_zero {n : Nat} (h0 : 1 ≤ n) (hn : n ≤ 10) {k : List Int} (hk : k ∈ K n) {m : Int} (hm : m ∈ k) (hx : ∀ y ∈ k, y ≤ m) : byP n k 0 = if m = 1 then 1 else 0 := by
  rw [by_cnt h0 hn hk]
  have kf := (K_fit n (by omega)).2.2 k hk
  have at_ := ix_at k (K n) hk
  show (firstL n).getD (ixOf (K n) k) 0 = _
  unfold firstL
  rw [List.getD_eq_getElem?_getD, List.getElem?_map, at_]
  show (if k.length = n then (1 : Int) else 0) = _
  by_cases h : k.length = n
  · have := all_one k (fun x hx => (kf.2.1 x hx).1) (by rw [kf.2.2, h]) m hm
    rw [if_pos h, if_pos this]
  · have : ¬ m = 1 := fun e => h (by
      have := one_all k (fun x hx => (kf.2.1 x hx).1) (fun x hx' => by rw [← e]; exact hx x hx')
      rw [kf.2.2] at this
      omega)
    rw [if_neg h, if_neg this]
abbrev sLaw : Stmt := topS 33
theorem scLaw : FnScope ["_law_script", "_law_pool_here", "_law_form", "_law_handed", "_law_turn", "_law_m", "_law_found"] ["_law_script"] (defScope sLaw) := ⟨rfl, rfl, rfl, by decide +kernel, rfl, by decide +kernel, by decide +kernel⟩
def spLaw (K : PySem.W.Frag) : Sp := fun vs H Q _ => ∃ (a : Addr) (ns : List Int), vs = [.ref a] ∧ SqL K H a (ns.map V.int) ∧ ns.length ≤ 63 ∧ ∀ H', Q (.bl true) H'
section
variable {P : Program} {w : World} {K : PySem.W.Frag} {mg : Str → Option Value} {base : Heap} {f fP fB fT fY fW fC : Addr} {fd pd bd td yd wd cd : FuncData}
theorem ok_law (F : Fun K "law" "law" sLaw f fd) (B : Bn mg)
    (GP : FnOk P w K mg base CX0 1 fP pd ["_law_script", "_law_at"] (spLp K)) (kP : PySem.W.keepIn K (.ref fP) = true) (bP : Binds K pd ["_law_script", "_law_at"] []) (eP : mg "_law_pool" = some (.ref fP))
    (GB : FnOk P w K mg base CX0 2 fB bd ["_law_pool_here", "_law_most"] spLb2) (kB : PySem.W.keepIn K (.ref fB) = true) (bB : Binds K bd ["_law_pool_here", "_law_most"] []) (eB : mg "_law_kind_by" = some (.ref fB))
    (GT : FnOk P w K mg base CX0 1 fT td ["_law_pool_here", "_law_many"] spLt) (kT : PySem.W.keepIn K (.ref fT) = true) (bT : Binds K td ["_law_pool_here", "_law_many"] []) (eT : mg "_law_take" = some (.ref fT))
    (GY : FnOk P w K mg base CX0 14 fY yd ["kind", "m"] spBy) (kY : PySem.W.keepIn K (.ref fY) = true) (bY : Binds K yd ["kind", "m"] []) (eY : mg "by_pictures" = some (.ref fY))
    (GW : FnOk P w K mg base CX0 1 fW wd ["_law_thing"] spLw) (kW : PySem.W.keepIn K (.ref fW) = true) (bW : Binds K wd ["_law_thing"] []) (eW : mg "_law_whole" = some (.ref fW))
    (GC : FnOk P w K mg base CX0 15 fC cd ["kind", "m"] spCo) (kC : PySem.W.keepIn K (.ref fC) = true) (bC : Binds K cd ["kind", "m"] []) (eC : mg "counted" = some (.ref fC)) :
    FnOk P w K mg base CX0 16 f fd ["_law_script"] (spLaw K) := by
  refine F.ok scLaw (fun vs H Q E h => ?_) (fun cdv A outer s H vs Q E hr h => ?_)
  · obtain ⟨a, ns, rfl, _⟩ := h
    rfl
  · obtain ⟨a, ns, rfl, hS, hl, q⟩ := h
    have hr1 : Room 1 _ := hr.mono (by decide)
    have hr2 : Room 2 _ := hr.mono (by decide)
    have hr14 : Room 14 _ := hr.mono (by decide)
    refine ⟨_, pss_cons (ps_set (i := 1) scLaw.nd rfl (.inl rfl) (pe_call GP hr1 (by rfl) eP kP bP .nil pass0 (pa_cons (pv 0) (pa_cons pe_int pa_nil))))
      (pss_cons (ps_set (i := 2) scLaw.nd rfl (.inl rfl) (pe_call GB hr2 (by rfl) eB kB bB .nil pass0 (pa_cons (pv 1) (pa_cons pe_int pa_nil))))
      (pss_cons (ps_set (i := 3) scLaw.nd rfl (.inl rfl) (pe_callTy c_lst (by rfl) B.list (by decide +kernel) (pa_cons (pv 2) pa_nil)))
      (pss_cons (ps_for PassesOwn.never rfl (pi_range1 (by rfl) B.range (pa_cons pe_int pa_nil)) (pg_name (i := 4) scLaw.nd rfl (.inl rfl))
        (pss_cons (ps_set (i := 5) scLaw.nd rfl (.inl rfl) (pe_call GT hr1 (by rfl) eT kT bT .nil pass0 (pa_cons (pv 1) (pa_cons pe_int pa_nil))))
        (pss_cons (ps_set (i := 6) scLaw.nd rfl (.inl rfl) (pe_call GY hr14 (by rfl) eY kY bY .nil pass0 (pa_cons (pv 3) (pa_cons (pv 5) pa_nil))))
        (pss_one (ps_if (PW.pt (pw_or (pt_not (pt_val (pe_call GW hr1 (by rfl) eW kW bW .nil pass0 (pa_cons (pv 6) pa_nil))))
            (pw_or (pt_cmpR op_ne (pv 6) (pe_call GC hr (by rfl) eC kC bC .nil pass0 (pa_cons (pe_callTy c_lst (by rfl) B.list (by decide +kernel) (pa_cons (pv 2) pa_nil)) (pa_cons (pv 5) pa_nil))) (nomark _))
            (pw_or1 (pt_cmpR (op_neD hr.units) (pv 3) (pv 2) (nomark _))))))
          (pss_one (ps_ret pe_bl)) pss_nil)))))
      (pss_cons (ps_expr (pe_bm PySem.F.plainAttrs_list PySem.F.slot_list_append PySem.F.type_list_append mt_append (pv 3) (pa_cons pe_int pa_nil)))
      (pss_one (ps_ret (pe_cmpR op_eq (pe_call GY hr14 (by rfl) eY kY bY .nil pass0 (pa_cons (pv 2) (pa_cons pe_int pa_nil)))
        (pe_callTy call_int1 (by rfl) B.int (by decide +kernel) (pa_cons (pe_cmpR op_eq (pe_callB (cr_max rfl) (by rfl) B.max (by decide +kernel) (pa_cons (pv 2) pa_nil)) pe_int (nomark _)) pa_nil)) (nomark _)))))))), ?_⟩
    refine ⟨_, rfl, a, ns, rfl, hS, hl, fun H1 p s1 np P1 => ?_⟩
    refine ⟨_, rfl, p, rfl, P1, fun H2 v n k k2 P2 h1 hn hk r2 => ?_⟩
    obtain ⟨b, rfl, sb, hb⟩ := rl_int r2
    have bp : b ≠ p := fun z => by
      obtain ⟨_, _, e, _⟩ := P1
      have sb' : H1 b = none := sb
      rw [z, e] at sb'
      cases sb'
    have kf := (K_fit n (by omega)).2.2 k hk
    refine ⟨_, rfl, b, _, rfl, .inl (SqL.of hb), fun hd nhd => ?_⟩
    have bhd : b ≠ hd := ne_of_none hb nhd
    have phd : hd ≠ p := fun z => by
      obtain ⟨_, _, e, _⟩ := P2
      rw [z, e] at nhd
      cases nhd
    have P3 : Pool (upd H2 hd (.lst (k.map V.int))) p := by
      obtain ⟨f1, x1, e, z⟩ := P2
      exact ⟨f1, x1, same_new nhd _ _ e, z⟩
    refine ⟨2, rfl, by decide, by decide, ?_⟩
    refine for_range (lo := 0) (n := 2) (fun i σ H4 => ∃ y4 y5 y6, σ = [some (.ref a), some (.ref p), some (.ref b), some (.ref hd), y4, y5, y6] ∧ Pool H4 p ∧ H4 b = some (.lst (k.map V.int)) ∧ H4 hd = some (.lst (k.map V.int)))
      ⟨none, none, none, rfl, P3, same_new nhd _ _ hb, upd_same⟩ ?_ ?_
    · rintro i σ H4 hi ⟨y4, y5, y6, rfl, P4, hb4, hd4⟩
      refine ⟨_, rfl, p, 21, rfl, P4, by decide, by decide, fun H5 r k5 P5 r0 r1 => ?_⟩
      obtain ⟨m, rfl⟩ : ∃ m : Nat, r = m := ⟨r.toNat, by omega⟩
      have hb5 := k5 _ _ bp hb4
      have hd5 := k5 _ _ phd hd4
      refine ⟨_, rfl, _, rfl, .ref hd, n, m, k, rfl, int_rl trivial hd5, hk, h1, hn, by omega, fun H6 v6 s6 e6 => ?_⟩
      obtain rfl : v6 = V.int (byP n k m) := e6
      refine ⟨_, rfl, _, rfl, true, rfl, iteF ?_⟩
      refine ⟨_, rfl, _, rfl, b, _, rfl, .inl (SqL.of (s6 _ _ hb5)), fun l nl => ⟨_, rfl, .ref l, n, m, k, rfl, int_rl trivial upd_same, hk, h1, hn, by omega, fun H8 v8 s8 e8 => ?_⟩⟩
      obtain rfl : v8 = V.int ((vecL n m).getD (ixOf (Ct.K n) k) 0) := e8
      refine ⟨rfl, _, rfl, iteNS (congrArg V.int (by_cnt h1 hn hk m)) ?_⟩
      have s58 := (s6.trans (same_new (o := .lst (k.map V.int)) nl)).trans s8
      refine ⟨_, rfl, _, rfl, dLI k, dLI k, dp_LI (S := anyA) (int_rl trivial (s58 _ _ hd5)), dp_LI (S := anyA) (int_rl trivial (s58 _ _ hb5)), shaped_LI _, shaped_LI _, _, rfl, ?_⟩
      rw [eqv_LI, decide_eq_true rfl]
      refine iteF ⟨_, _, _, rfl, ?_, s58 _ _ hb5, s58 _ _ hd5⟩
      obtain ⟨f1, x1, e, z⟩ := P5
      exact ⟨f1, x1, s58 _ _ e, z⟩
    · rintro σ H4 ⟨y4, y5, y6, rfl, P4, hb4, hd4⟩
      refine ⟨.ref hd, rfl, .inl ⟨rfl, _, SqL.of hd4⟩, hd, _, .int 1, rfl, rfl, hd4, ?_, ?_⟩
      · rw [List.length_map]
        exact small1000 (by omega)
      have hb5 : (upd H4 hd (.lst (k.map V.int ++ [.int 1]))) b = some (.lst (k.map V.int)) := by
        rw [upd_ne bhd]
        exact hb4
      refine ⟨_, rfl, .ref b, n, 0, k, rfl, int_rl trivial hb5, hk, h1, hn, by decide, fun H6 v6 s6 e6 => ?_⟩
      obtain rfl : v6 = V.int (byP n k 0) := e6
      have kl : 0 < k.length := by
        cases k with
        | nil =>
          have := kf.2.2
          simp at this
          omega
        | cons x r => exact Nat.succ_pos _
      refine ⟨_, rfl, b, k, rfl, SqL.of (s6 _ _ hb5), kl, fun mx hmx hle => ?_⟩
      refine ⟨rfl, .inr ⟨_, rfl, rfl, ?_⟩⟩
      have e := by_zero h1 hn hk hmx hle
      have e2 : decide (V.int (byP n k 0) = V.int (if decide (V.int mx = V.int 1) = true then 1 else 0)) = true := by
        refine decide_eq_true (congrArg V.int ?_)
        rw [e]
        by_cases h : mx = 1
        · rw [if_pos h, if_pos (decide_eq_true (congrArg V.int h))]
        · rw [if_neg h, if_neg (fun z => h (V.int.inj (of_decide_eq_true z)))]
      rw [e2]
      exact q _
end
end Ct
namespace Ct
open PySem PySem.Spec PyProof.Rows L2
/-! ### what the top has left -/
theorem all_mk {l : PySem.W.OpenLaw} {w : World} {K : PySem.W.Frag} {h : Heap} {mg : Str → Option Value} {fa C f1 f2 f3 f4 f5 f6 f7 f8 f9 f10 f11 f12 f13 f14 f15 f16 f17 f18 f19 f20 f21 f22 f23 f24 f25 f26 f27 : Addr} (X : K.In h) (G : h.Ns mainGlobals mg) (hfa : mg "law" = some (.ref fa))
    {od1 an1 od2 an2 od3 an3 od4 an4 od5 an5 od6 an6 od7 an7 od8 an8 od9 an9 od10 an10 od11 an11 od12 an12 od13 an13 od14 an14 od15 an15 od16 an16 od17 an17 od18 an18 od19 an19 od20 an20 od21 an21 od22 an22 od23 an23 od24 an24 od25 an25 od26 an26 od27 an27 : Option Addr} {sl1 sl2 sl3 sl4 sl5 sl6 sl7 sl8 sl9 sl10 sl11 sl12 sl13 sl14 sl15 sl16 sl17 sl18 sl19 sl20 sl21 sl22 sl23 sl24 sl25 sl26 sl27 : Array (Option Value)} {oc1 kV1 dc1 pm1 cd1 ct1 oc2 kV2 dc2 pm2 cd2 ct2 oc3 kV3 dc3 pm3 cd3 ct3 oc4 kV4 dc4 pm4 cd4 ct4 oc5 kV5 dc5 pm5 cd5 ct5 oc6 kV6 dc6 pm6 cd6 ct6 oc7 kV7 dc7 pm7 cd7 ct7 oc8 kV8 dc8 pm8 cd8 ct8 oc9 kV9 dc9 pm9 cd9 ct9 oc10 kV10 dc10 pm10 cd10 ct10 oc11 kV11 dc11 pm11 cd11 ct11 oc12 kV12 dc12 pm12 cd12 ct12 oc13 kV13 dc13 pm13 cd13 ct13 oc14 kV14 dc14 pm14 cd14 ct14 oc15 kV15 dc15 pm15 cd15 ct15 oc16 kV16 dc16 pm16 cd16 ct16 oc17 kV17 dc17 pm17 cd17 ct17 oc18 kV18 dc18 pm18 cd18 ct18 oc19 kV19 dc19 pm19 cd19 ct19 oc20 kV20 dc20 pm20 cd20 ct20 oc21 kV21 dc21 pm21 cd21 ct21 oc22 kV22 dc22 pm22 cd22 ct22 oc23 kV23 dc23 pm23 cd23 ct23 oc24 kV24 dc24 pm24 cd24 ct24 oc25 kV25 dc25 pm25 cd25 ct25 oc26 kV26 dc26 pm26 cd26 ct26 oc27 kV27 dc27 pm27 cd27 ct27 : Value} {tk1 tk2 : Tok}
    (a1 : PySem.W.nsIn K mainGlobals "kinds_below" = some (some (.ref f1))) (l1 : K.lookup f1 = some ⟨oc1, od1, .func (PySem.W.fnOf "kinds_below" "kinds_below" (defArgs sKB) (defBody sKB) (defScope sKB) .none kV1 dc1 pm1 an1 cd1 ct1), sl1⟩) (c1 : PySem.W.codeIn K cd1 "kinds_below" = true) (k1 : PySem.W.keepIn K (.ref f1) = true)
    (a2 : PySem.W.nsIn K mainGlobals "kinds" = some (some (.ref f2))) (l2 : K.lookup f2 = some ⟨oc2, od2, .func (PySem.W.fnOf "kinds" "kinds" (defArgs sKi) (defBody sKi) (defScope sKi) .none kV2 dc2 pm2 an2 cd2 ct2), sl2⟩) (c2 : PySem.W.codeIn K cd2 "kinds" = true) (k2 : PySem.W.keepIn K (.ref f2) = true)
    (a3 : PySem.W.nsIn K mainGlobals "product_to" = some (some (.ref f3))) (l3 : K.lookup f3 = some ⟨oc3, od3, .func (PySem.W.fnOf "product_to" "product_to" (defArgs sPr) (defBody sPr) (defScope sPr) .none kV3 dc3 pm3 an3 cd3 ct3), sl3⟩) (c3 : PySem.W.codeIn K cd3 "product_to" = true) (k3 : PySem.W.keepIn K (.ref f3) = true)
    (a4 : PySem.W.nsIn K mainGlobals "power" = some (some (.ref f4))) (l4 : K.lookup f4 = some ⟨oc4, od4, .func (PySem.W.fnOf "power" "power" (defArgs sPw) (defBody sPw) (defScope sPw) .none kV4 dc4 pm4 an4 cd4 ct4), sl4⟩) (c4 : PySem.W.codeIn K cd4 "power" = true) (k4 : PySem.W.keepIn K (.ref f4) = true)
    (a5 : PySem.W.nsIn K mainGlobals "falling" = some (some (.ref f5))) (l5 : K.lookup f5 = some ⟨oc5, od5, .func (PySem.W.fnOf "falling" "falling" (defArgs sFa) (defBody sFa) (defScope sFa) .none kV5 dc5 pm5 an5 cd5 ct5), sl5⟩) (c5 : PySem.W.codeIn K cd5 "falling" = true) (k5 : PySem.W.keepIn K (.ref f5) = true)
    (a6 : PySem.W.nsIn K mainGlobals "without" = some (some (.ref f6))) (l6 : K.lookup f6 = some ⟨oc6, od6, .func (PySem.W.fnOf "without" "without" (defArgs sWi) (defBody sWi) (defScope sWi) .none kV6 dc6 pm6 an6 cd6 ct6), sl6⟩) (c6 : PySem.W.codeIn K cd6 "without" = true) (k6 : PySem.W.keepIn K (.ref f6) = true)
    (a7 : PySem.W.nsIn K mainGlobals "joins" = some (some (.ref f7))) (l7 : K.lookup f7 = some ⟨oc7, od7, .func (PySem.W.fnOf "joins" "joins" (defArgs sJo) (defBody sJo) (defScope sJo) .none kV7 dc7 pm7 an7 cd7 ct7), sl7⟩) (c7 : PySem.W.codeIn K cd7 "joins" = true) (k7 : PySem.W.keepIn K (.ref f7) = true)
    (a8 : PySem.W.nsIn K mainGlobals "cuts" = some (some (.ref f8))) (l8 : K.lookup f8 = some ⟨oc8, od8, .func (PySem.W.fnOf "cuts" "cuts" (defArgs sCu) (defBody sCu) (defScope sCu) .none kV8 dc8 pm8 an8 cd8 ct8), sl8⟩) (c8 : PySem.W.codeIn K cd8 "cuts" = true) (k8 : PySem.W.keepIn K (.ref f8) = true)
    (a9 : PySem.W.nsIn K mainGlobals "first_counts" = some (some (.ref f9))) (l9 : K.lookup f9 = some ⟨oc9, od9, .func (PySem.W.fnOf "first_counts" "first_counts" (defArgs sFi) (defBody sFi) (defScope sFi) .none kV9 dc9 pm9 an9 cd9 ct9), sl9⟩) (c9 : PySem.W.codeIn K cd9 "first_counts" = true) (k9 : PySem.W.keepIn K (.ref f9) = true)
    (a10 : PySem.W.nsIn K mainGlobals "steps_of" = some (some (.ref f10))) (l10 : K.lookup f10 = some ⟨oc10, od10, .func (PySem.W.fnOf "steps_of" "steps_of" (defArgs sSt) (defBody sSt) (defScope sSt) .none kV10 dc10 pm10 an10 cd10 ct10), sl10⟩) (c10 : PySem.W.codeIn K cd10 "steps_of" = true) (k10 : PySem.W.keepIn K (.ref f10) = true)
    (a11 : PySem.W.nsIn K mainGlobals "more_counts" = some (some (.ref f11))) (l11 : K.lookup f11 = some ⟨oc11, od11, .func (PySem.W.fnOf "more_counts" "more_counts" (defArgs sMo) (defBody sMo) (defScope sMo) .none kV11 dc11 pm11 an11 cd11 ct11), sl11⟩) (c11 : PySem.W.codeIn K cd11 "more_counts" = true) (k11 : PySem.W.keepIn K (.ref f11) = true)
    (a12 : PySem.W.nsIn K mainGlobals "look_bounds" = some (some (.ref f12))) (l12 : K.lookup f12 = some ⟨oc12, od12, .func (PySem.W.fnOf "look_bounds" "look_bounds" (defArgs sLb) (defBody sLb) (defScope sLb) .none kV12 dc12 pm12 an12 cd12 ct12), sl12⟩) (c12 : PySem.W.codeIn K cd12 "look_bounds" = true) (k12 : PySem.W.keepIn K (.ref f12) = true)
    (a13 : PySem.W.nsIn K mainGlobals "count_table" = some (some (.ref f13))) (l13 : K.lookup f13 = some ⟨oc13, od13, .func (PySem.W.fnOf "count_table" "count_table" (defArgs sCt) (defBody sCt) (defScope sCt) .none kV13 dc13 pm13 an13 cd13 ct13), sl13⟩) (c13 : PySem.W.codeIn K cd13 "count_table" = true) (k13 : PySem.W.keepIn K (.ref f13) = true)
    (a14 : PySem.W.nsIn K mainGlobals "counted" = some (some (.ref f14))) (l14 : K.lookup f14 = some ⟨oc14, od14, .func (PySem.W.fnOf "counted" "counted" (defArgs sCo) (defBody sCo) (defScope sCo) .none kV14 dc14 pm14 an14 cd14 ct14), sl14⟩) (c14 : PySem.W.codeIn K cd14 "counted" = true) (k14 : PySem.W.keepIn K (.ref f14) = true)
    (a15 : PySem.W.nsIn K mainGlobals "contents" = some (some (.ref f15))) (l15 : K.lookup f15 = some ⟨oc15, od15, .func (PySem.W.fnOf "contents" "contents" (defArgs sCn) (defBody sCn) (defScope sCn) .none kV15 dc15 pm15 an15 cd15 ct15), sl15⟩) (c15 : PySem.W.codeIn K cd15 "contents" = true) (k15 : PySem.W.keepIn K (.ref f15) = true)
    (a16 : PySem.W.nsIn K mainGlobals "pegs_of" = some (some (.ref f16))) (l16 : K.lookup f16 = some ⟨oc16, od16, .func (PySem.W.fnOf "pegs_of" "pegs_of" (defArgs sPe) (defBody sPe) (defScope sPe) .none kV16 dc16 pm16 an16 cd16 ct16), sl16⟩) (c16 : PySem.W.codeIn K cd16 "pegs_of" = true) (k16 : PySem.W.keepIn K (.ref f16) = true)
    (a17 : PySem.W.nsIn K mainGlobals "picture_of" = some (some (.ref f17))) (l17 : K.lookup f17 = some ⟨oc17, od17, .func (PySem.W.fnOf "picture_of" "picture_of" (defArgs sPi) (defBody sPi) (defScope sPi) .none kV17 dc17 pm17 an17 cd17 ct17), sl17⟩) (c17 : PySem.W.codeIn K cd17 "picture_of" = true) (k17 : PySem.W.keepIn K (.ref f17) = true)
    (a18 : PySem.W.nsIn K mainGlobals "rims" = some (some (.ref f18))) (l18 : K.lookup f18 = some ⟨oc18, od18, .func (PySem.W.fnOf "rims" "rims" (defArgs sRi) (defBody sRi) (defScope sRi) .none kV18 dc18 pm18 an18 cd18 ct18), sl18⟩) (c18 : PySem.W.codeIn K cd18 "rims" = true) (k18 : PySem.W.keepIn K (.ref f18) = true)
    (a19 : PySem.W.nsIn K mainGlobals "by_pictures" = some (some (.ref f19))) (l19 : K.lookup f19 = some ⟨oc19, od19, .func (PySem.W.fnOf "by_pictures" "by_pictures" (defArgs sBy) (defBody sBy) (defScope sBy) .none kV19 dc19 pm19 an19 cd19 ct19), sl19⟩) (c19 : PySem.W.codeIn K cd19 "by_pictures" = true) (k19 : PySem.W.keepIn K (.ref f19) = true)
    (a20 : PySem.W.nsIn K mainGlobals "_law_pool" = some (some (.ref f20))) (l20 : K.lookup f20 = some ⟨oc20, od20, .func (PySem.W.fnOf "_law_pool" "_law_pool" (defArgs sLp) (defBody sLp) (defScope sLp) .none kV20 dc20 pm20 an20 cd20 ct20), sl20⟩) (c20 : PySem.W.codeIn K cd20 "_law_pool" = true) (k20 : PySem.W.keepIn K (.ref f20) = true)
    (a21 : PySem.W.nsIn K mainGlobals "_law_take" = some (some (.ref f21))) (l21 : K.lookup f21 = some ⟨oc21, od21, .func (PySem.W.fnOf "_law_take" "_law_take" (defArgs sLt) (defBody sLt) (defScope sLt) .none kV21 dc21 pm21 an21 cd21 ct21), sl21⟩) (c21 : PySem.W.codeIn K cd21 "_law_take" = true) (k21 : PySem.W.keepIn K (.ref f21) = true)
    (a22 : PySem.W.nsIn K mainGlobals "_law_whole" = some (some (.ref f22))) (l22 : K.lookup f22 = some ⟨oc22, od22, .func (PySem.W.fnOf "_law_whole" "_law_whole" (defArgs sLw) (defBody sLw) (defScope sLw) .none kV22 dc22 pm22 an22 cd22 ct22), sl22⟩) (c22 : PySem.W.codeIn K cd22 "_law_whole" = true) (k22 : PySem.W.keepIn K (.ref f22) = true)
    (a23 : PySem.W.nsIn K mainGlobals "_law_kinds" = some (some (.ref f23))) (l23 : K.lookup f23 = some ⟨oc23, od23, .func (PySem.W.fnOf "_law_kinds" "_law_kinds" (defArgs sLk) (defBody sLk) (defScope sLk) .none kV23 dc23 pm23 an23 cd23 ct23), sl23⟩) (c23 : PySem.W.codeIn K cd23 "_law_kinds" = true) (k23 : PySem.W.keepIn K (.ref f23) = true)
    (a24 : PySem.W.nsIn K mainGlobals "_law_kind_by" = some (some (.ref f24))) (l24 : K.lookup f24 = some ⟨oc24, od24, .func (PySem.W.fnOf "_law_kind_by" "_law_kind_by" (defArgs sLb2) (defBody sLb2) (defScope sLb2) .none kV24 dc24 pm24 an24 cd24 ct24), sl24⟩) (c24 : PySem.W.codeIn K cd24 "_law_kind_by" = true) (k24 : PySem.W.keepIn K (.ref f24) = true)
    (a25 : PySem.W.nsIn K mainGlobals "law" = some (some (.ref f25))) (l25 : K.lookup f25 = some ⟨oc25, od25, .func (PySem.W.fnOf "law" "law" (defArgs sLaw) (defBody sLaw) (defScope sLaw) .none kV25 dc25 pm25 an25 cd25 ct25), sl25⟩) (c25 : PySem.W.codeIn K cd25 "law" = true) (k25 : PySem.W.keepIn K (.ref f25) = true)
    (aC : PySem.W.nsIn K mainGlobals "Numbers" = some (some (.ref C)))
    (a26 : PySem.W.findIn K (.ref C) "__init__" = some (some (.ref f26))) (i26 : PySem.W.isFn K (.ref f26) = true) (l26 : K.lookup f26 = some ⟨oc26, od26, .func (PySem.W.fnOf "__init__" "Numbers.__init__" (defArgs sNI) (defBody sNI) (defScope sNI) .none kV26 dc26 pm26 an26 cd26 ct26), sl26⟩) (c26 : PySem.W.codeIn K cd26 "Numbers.__init__" = true) (k26 : PySem.W.keepIn K (.ref f26) = true)
    (a27 : PySem.W.findIn K (.ref C) "at" = some (some (.ref f27))) (i27 : PySem.W.isFn K (.ref f27) = true) (l27 : K.lookup f27 = some ⟨oc27, od27, .func (PySem.W.fnOf "at" "Numbers.at" (defArgs sAt) (defBody sAt) (defScope sAt) .none kV27 dc27 pm27 an27 cd27 ct27), sl27⟩) (c27 : PySem.W.codeIn K cd27 "Numbers.at" = true) (k27 : PySem.W.keepIn K (.ref f27) = true)
    (pg : PySem.W.plainGet K C Str.empty = true) (hd : PySem.W.hasDictIn K C = true) (po : PySem.W.plainOver K C = true) (sa : PySem.W.findIn K (.ref C) "__setattr__" = some (some (.builtin "object.__setattr__"))) (mk : PySem.W.makesIn K C = true) (kc : PySem.W.keepIn K (.ref C) = true) (nK : PySem.W.findIn K (.ref C) "known" = some none)
    (g1 : PySem.W.nsIn K mainGlobals "MOST_THINGS" = some (some (.int 10 tk1))) (g2 : PySem.W.nsIn K mainGlobals "MOST_EXCHANGES" = some (some (.int 20 tk2)))
    (z1 : PySem.W.nsIn K mainGlobals "range" = some none)
    (z2 : PySem.W.nsIn K mainGlobals "min" = some none)
    (z3 : PySem.W.nsIn K mainGlobals "len" = some none)
    (z4 : PySem.W.nsIn K mainGlobals "sorted" = some none)
    (z5 : PySem.W.nsIn K mainGlobals "enumerate" = some none)
    (z6 : PySem.W.nsIn K mainGlobals "int" = some none)
    (z7 : PySem.W.nsIn K mainGlobals "tuple" = some none)
    (z8 : PySem.W.nsIn K mainGlobals "sum" = some none)
    (z9 : PySem.W.nsIn K mainGlobals "list" = some none)
    (z10 : PySem.W.nsIn K mainGlobals "abs" = some none)
    (z11 : PySem.W.nsIn K mainGlobals "isinstance" = some none)
    (z12 : PySem.W.nsIn K mainGlobals "bool" = some none)
    (z13 : PySem.W.nsIn K mainGlobals "set" = some none)
    (z14 : PySem.W.nsIn K mainGlobals "max" = some none) :
    ∃ fd : FuncData, (∀ (s : Shared) (v : Value), BindsTo s fd ⟨[v], []⟩ [("_law_script", v)]) ∧ ∀ base : Heap, K.In base → base.Ns mainGlobals mg → FnOk l.prog w K mg base CX0 16 fa fd ["_law_script"] (spLaw K) := by
  have e := hfa.symm.trans (PySem.W.mg_of X G a25)
  cases e
  have B : Bn mg := ⟨PySem.W.mg_none_of X G z1, PySem.W.mg_none_of X G z2, PySem.W.mg_none_of X G z3, PySem.W.mg_none_of X G z4, PySem.W.mg_none_of X G z5, PySem.W.mg_none_of X G z6, PySem.W.mg_none_of X G z7, PySem.W.mg_none_of X G z8, PySem.W.mg_none_of X G z9, PySem.W.mg_none_of X G z10, PySem.W.mg_none_of X G z11, PySem.W.mg_none_of X G z12, PySem.W.mg_none_of X G z13, PySem.W.mg_none_of X G z14⟩
  have Cc : Cn mg := ⟨⟨tk1, PySem.W.mg_of X G g1⟩, tk2, PySem.W.mg_of X G g2⟩
  have N : Nm K mg C := ⟨⟨pg, hd, po, sa⟩, nK, PySem.W.mg_of X G aC⟩
  have F1 := fun_mk (st := sKB) l1 c1 k1
  have b1 := F1.binds (ps := ["n", "most"]) fun _ _ _ _ _ _ us hl => match us, hl with | [_, _], _ => rfl
  have e1 := PySem.W.mg_of X G a1
  have F2 := fun_mk (st := sKi) l2 c2 k2
  have b2 := F2.binds (ps := ["n"]) fun _ _ _ _ _ _ us hl => match us, hl with | [_], _ => rfl
  have e2 := PySem.W.mg_of X G a2
  have F3 := fun_mk (st := sPr) l3 c3 k3
  have b3 := F3.binds (ps := ["n"]) fun _ _ _ _ _ _ us hl => match us, hl with | [_], _ => rfl
  have e3 := PySem.W.mg_of X G a3
  have F4 := fun_mk (st := sPw) l4 c4 k4
  have b4 := F4.binds (ps := ["number", "m"]) fun _ _ _ _ _ _ us hl => match us, hl with | [_, _], _ => rfl
  have e4 := PySem.W.mg_of X G a4
  have F5 := fun_mk (st := sFa) l5 c5 k5
  have b5 := F5.binds (ps := ["numbers"]) fun _ _ _ _ _ _ us hl => match us, hl with | [_], _ => rfl
  have e5 := PySem.W.mg_of X G a5
  have F6 := fun_mk (st := sWi) l6 c6 k6
  have b6 := F6.binds (ps := ["kind", "places"]) fun _ _ _ _ _ _ us hl => match us, hl with | [_, _], _ => rfl
  have e6 := PySem.W.mg_of X G a6
  have F7 := fun_mk (st := sJo) l7 c7 k7
  have b7 := F7.binds (ps := ["kind"]) fun _ _ _ _ _ _ us hl => match us, hl with | [_], _ => rfl
  have e7 := PySem.W.mg_of X G a7
  have F8 := fun_mk (st := sCu) l8 c8 k8
  have b8 := F8.binds (ps := ["kind"]) fun _ _ _ _ _ _ us hl => match us, hl with | [_], _ => rfl
  have e8 := PySem.W.mg_of X G a8
  have F9 := fun_mk (st := sFi) l9 c9 k9
  have b9 := F9.binds (ps := ["n"]) fun _ _ _ _ _ _ us hl => match us, hl with | [_], _ => rfl
  have e9 := PySem.W.mg_of X G a9
  have F10 := fun_mk (st := sSt) l10 c10 k10
  have b10 := F10.binds (ps := ["n"]) fun _ _ _ _ _ _ us hl => match us, hl with | [_], _ => rfl
  have e10 := PySem.W.mg_of X G a10
  have F11 := fun_mk (st := sMo) l11 c11 k11
  have b11 := F11.binds (ps := ["steps", "counts"]) fun _ _ _ _ _ _ us hl => match us, hl with | [_, _], _ => rfl
  have e11 := PySem.W.mg_of X G a11
  have F12 := fun_mk (st := sLb) l12 c12 k12
  have b12 := F12.binds (ps := ["n", "m"]) fun _ _ _ _ _ _ us hl => match us, hl with | [_, _], _ => rfl
  have e12 := PySem.W.mg_of X G a12
  have F13 := fun_mk (st := sCt) l13 c13 k13
  have b13 := F13.binds (ps := ["n", "m"]) fun _ _ _ _ _ _ us hl => match us, hl with | [_, _], _ => rfl
  have e13 := PySem.W.mg_of X G a13
  have F14 := fun_mk (st := sCo) l14 c14 k14
  have b14 := F14.binds (ps := ["kind", "m"]) fun _ _ _ _ _ _ us hl => match us, hl with | [_, _], _ => rfl
  have e14 := PySem.W.mg_of X G a14
  have F15 := fun_mk (st := sCn) l15 c15 k15
  have b15 := F15.binds (ps := ["picture"]) fun _ _ _ _ _ _ us hl => match us, hl with | [_], _ => rfl
  have e15 := PySem.W.mg_of X G a15
  have F16 := fun_mk (st := sPe) l16 c16 k16
  have b16 := F16.binds (ps := ["picture"]) fun _ _ _ _ _ _ us hl => match us, hl with | [_], _ => rfl
  have e16 := PySem.W.mg_of X G a16
  have F17 := fun_mk (st := sPi) l17 c17 k17
  have b17 := F17.binds (ps := ["pegs"]) fun _ _ _ _ _ _ us hl => match us, hl with | [_], _ => rfl
  have e17 := PySem.W.mg_of X G a17
  have F18 := fun_mk (st := sRi) l18 c18 k18
  have b18 := F18.binds (ps := ["picture", "k"]) fun _ _ _ _ _ _ us hl => match us, hl with | [_, _], _ => rfl
  have e18 := PySem.W.mg_of X G a18
  have F19 := fun_mk (st := sBy) l19 c19 k19
  have b19 := F19.binds (ps := ["kind", "m"]) fun _ _ _ _ _ _ us hl => match us, hl with | [_, _], _ => rfl
  have e19 := PySem.W.mg_of X G a19
  have F20 := fun_mk (st := sLp) l20 c20 k20
  have b20 := F20.binds (ps := ["_law_script", "_law_at"]) fun _ _ _ _ _ _ us hl => match us, hl with | [_, _], _ => rfl
  have e20 := PySem.W.mg_of X G a20
  have F21 := fun_mk (st := sLt) l21 c21 k21
  have b21 := F21.binds (ps := ["_law_pool_here", "_law_many"]) fun _ _ _ _ _ _ us hl => match us, hl with | [_, _], _ => rfl
  have e21 := PySem.W.mg_of X G a21
  have F22 := fun_mk (st := sLw) l22 c22 k22
  have b22 := F22.binds (ps := ["_law_thing"]) fun _ _ _ _ _ _ us hl => match us, hl with | [_], _ => rfl
  have e22 := PySem.W.mg_of X G a22
  have F23 := fun_mk (st := sLk) l23 c23 k23
  have b23 := F23.binds (ps := ["_law_n"]) fun _ _ _ _ _ _ us hl => match us, hl with | [_], _ => rfl
  have e23 := PySem.W.mg_of X G a23
  have F24 := fun_mk (st := sLb2) l24 c24 k24
  have b24 := F24.binds (ps := ["_law_pool_here", "_law_most"]) fun _ _ _ _ _ _ us hl => match us, hl with | [_, _], _ => rfl
  have e24 := PySem.W.mg_of X G a24
  have F25 := fun_mk (st := sLaw) l25 c25 k25
  have b25 := F25.binds (ps := ["_law_script"]) fun _ _ _ _ _ _ us hl => match us, hl with | [_], _ => rfl
  have e25 := PySem.W.mg_of X G a25
  have F26 := fun_mk (st := sNI) l26 c26 k26
  have b26 := F26.binds (ps := ["self"]) fun _ _ _ _ _ _ us hl => match us, hl with | [_], _ => rfl
  have F27 := fun_mk (st := sAt) l27 c27 k27
  have b27 := F27.binds (ps := ["self", "picture", "kind"]) fun _ _ _ _ _ _ us hl => match us, hl with | [_, _, _], _ => rfl
  have G2 : ∀ (w : World) (base : Heap), FnOk l.prog w K mg base CX0 12 f2 _ ["n"] spKi := fun w base => ok_ki F2 B F1 b1 e1
  have G3 : ∀ (w : World) (base : Heap), FnOk l.prog w K mg base CX0 1 f3 _ ["n"] spPr := fun w base => ok_pr F3 B
  have G4 : ∀ (w : World) (base : Heap), FnOk l.prog w K mg base CX0 1 f4 _ ["number", "m"] spPw := fun w base => ok_pw F4 B
  have G7 : ∀ (w : World) (base : Heap), FnOk l.prog w K mg base CX0 2 f7 _ ["kind"] spJo := fun w base => ok_jo F7 B F5 b5 e5 F6 b6 e6
  have G8 : ∀ (w : World) (base : Heap), FnOk l.prog w K mg base CX0 2 f8 _ ["kind"] spCu := fun w base => ok_cu F8 B F5 b5 e5 F6 b6 e6
  have G9 : ∀ (w : World) (base : Heap), FnOk l.prog w K mg base CX0 13 f9 _ ["n"] spFi := fun w base => ok_fi F9 B (G2 w base) k2 b2 e2
  have G10 : ∀ (w : World) (base : Heap), FnOk l.prog w K mg base CX0 13 f10 _ ["n"] spSt := fun w base => ok_st F10 B (G2 w base) k2 b2 e2 (G7 w base) k7 b7 e7 (G8 w base) k8 b8 e8
  have G11 : ∀ (w : World) (base : Heap), FnOk l.prog w K mg base CX0 1 f11 _ ["steps", "counts"] spMo := fun w base => ok_mo F11 B
  have G12 : ∀ (w : World) (base : Heap), FnOk l.prog w K mg base CX0 1 f12 _ ["n", "m"] spLb := fun w base => ok_lb F12 Cc
  have G13 : ∀ (w : World) (base : Heap), FnOk l.prog w K mg base CX0 14 f13 _ ["n", "m"] spCt := fun w base => ok_ct F13 B (G12 w base) k12 b12 e12 (G10 w base) k10 b10 e10 (G9 w base) k9 b9 e9 (G11 w base) k11 b11 e11
  have G14 : ∀ (w : World) (base : Heap), FnOk l.prog w K mg base CX0 15 f14 _ ["kind", "m"] spCo := fun w base => ok_co F14 B (G13 w base) k13 b13 e13 (G2 w base) k2 b2 e2
  have G15 : ∀ (w : World) (base : Heap), FnOk l.prog w K mg base CX0 1 f15 _ ["picture"] spCn := fun w base => ok_cn F15 B
  have G16 : ∀ (w : World) (base : Heap), FnOk l.prog w K mg base CX0 1 f16 _ ["picture"] spPe := fun w base => ok_pe F16 B
  have G17 : ∀ (w : World) (base : Heap), FnOk l.prog w K mg base CX0 1 f17 _ ["pegs"] spPi := fun w base => ok_pi F17 B
  have G18 : ∀ (w : World) (base : Heap), FnOk l.prog w K mg base CX0 2 f18 _ ["picture", "k"] spRi := fun w base => ok_ri F18 B (G16 w base) k16 b16 e16 (G17 w base) k17 b17 e17
  have mA : Meth K C "at" f27 := ⟨a27, i27, k27⟩
  have Mm : Mk K C f26 := ⟨mk, a26, i26, kc⟩
  have GI : ∀ (w : World) (base : Heap), FnOk l.prog w K mg base CX0 1 f26 _ ["self"] (spNI l.prog w C) := fun w base => ok_ni F26 N
  have GA : ∀ (w : World) (base : Heap), FnOk l.prog w K mg base CX0 13 f27 _ ["self", "picture", "kind"] (spAt l.prog w C 10) := fun w base => ok_at F27 b27 mA N B (G18 w base) k18 b18 e18 10
  have G19 : ∀ (w : World) (base : Heap), FnOk l.prog w K mg base CX0 14 f19 _ ["kind", "m"] spBy := fun w base => ok_by F19 B N Mm (GI w base) b26 (GA w base) b27 mA (G12 w base) k12 b12 e12 (G2 w base) k2 b2 e2 (G15 w base) k15 b15 e15 (G4 w base) k4 b4 e4 (G3 w base) k3 b3 e3
  have G20 : ∀ (w : World) (base : Heap), FnOk l.prog w K mg base CX0 1 f20 _ ["_law_script", "_law_at"] (spLp K) := fun w base => ok_lp F20 B
  have G21 : ∀ (w : World) (base : Heap), FnOk l.prog w K mg base CX0 1 f21 _ ["_law_pool_here", "_law_many"] spLt := fun w base => ok_lt F21 B
  have G22 : ∀ (w : World) (base : Heap), FnOk l.prog w K mg base CX0 1 f22 _ ["_law_thing"] spLw := fun w base => ok_lw F22 B
  have G23 : ∀ (w : World) (base : Heap), FnOk l.prog w K mg base CX0 1 f23 _ ["_law_n"] spLk := fun w base => ok_lk F23 B
  have G24 : ∀ (w : World) (base : Heap), FnOk l.prog w K mg base CX0 2 f24 _ ["_law_pool_here", "_law_most"] spLb2 := fun w base => ok_lb2 F24 B (G23 w base) k23 b23 e23 (G21 w base) k21 b21 e21
  exact ⟨_, fun s v => .of_eq rfl, fun base _ _ => ok_law F25 B (G20 w base) k20 b20 e20 (G24 w base) k24 b24 e24 (G21 w base) k21 b21 e21 (G19 w base) k19 b19 e19 (G22 w base) k22 b22 e22 (G14 w base) k14 b14 e14⟩
end Ct
open PySem PySem.W PyProof.Rows
set_option maxHeartbeats 0 in
theorem PySem.Challenge.cw_swapstars_k55_whole_counts_by_pictures_holds : PySem.Challenge.rw_swapstars_k55_whole_counts_by_pictures.Holds := by
  w_on; o_law; k_head; (case hw => w_witness2)
  k_fill
  refine L2.walk_of (l := PySem.Challenge.rw_swapstars_k55_whole_counts_by_pictures) (n := 63) (k := 16) (x := "_law_script") (CX := fun _ => L2.CX0) (sp := fun w => Ct.spLaw _) rfl (by decide) rfl ⟨rfl, by decide, by decide⟩ (fun w h Y => PySem.W.kIn_of Y) ?F (fun _ _ a ns hl _ hS => ⟨a, ns, rfl, hS, hl, fun _ => rfl⟩) (fun _ _ _ _ _ h => h)
  case F =>
    intro w mg fa h KX G hmg
    refine' Ct.all_mk KX G hmg ?a1 ?l1 ?c1 ?k1 ?a2 ?l2 ?c2 ?k2 ?a3 ?l3 ?c3 ?k3 ?a4 ?l4 ?c4 ?k4 ?a5 ?l5 ?c5 ?k5 ?a6 ?l6 ?c6 ?k6 ?a7 ?l7 ?c7 ?k7 ?a8 ?l8 ?c8 ?k8 ?a9 ?l9 ?c9 ?k9 ?a10 ?l10 ?c10 ?k10 ?a11 ?l11 ?c11 ?k11 ?a12 ?l12 ?c12 ?k12 ?a13 ?l13 ?c13 ?k13 ?a14 ?l14 ?c14 ?k14 ?a15 ?l15 ?c15 ?k15 ?a16 ?l16 ?c16 ?k16 ?a17 ?l17 ?c17 ?k17 ?a18 ?l18 ?c18 ?k18 ?a19 ?l19 ?c19 ?k19 ?a20 ?l20 ?c20 ?k20 ?a21 ?l21 ?c21 ?k21 ?a22 ?l22 ?c22 ?k22 ?a23 ?l23 ?c23 ?k23 ?a24 ?l24 ?c24 ?k24 ?a25 ?l25 ?c25 ?k25 ?aC ?a26 ?i26 ?l26 ?c26 ?k26 ?a27 ?i27 ?l27 ?c27 ?k27 ?pg ?hd ?po ?sa ?mk ?kc ?nK ?g1 ?g2 ?z1 ?z2 ?z3 ?z4 ?z5 ?z6 ?z7 ?z8 ?z9 ?z10 ?z11 ?z12 ?z13 ?z14
    (case a1 => k_is); (case l1 => k_is); (case c1 => k_is); (case k1 => k_is); (case a2 => k_is); (case l2 => k_is)
    (case c2 => k_is); (case k2 => k_is); (case a3 => k_is); (case l3 => k_is); (case c3 => k_is); (case k3 => k_is)
    (case a4 => k_is); (case l4 => k_is); (case c4 => k_is); (case k4 => k_is); (case a5 => k_is); (case l5 => k_is)
    (case c5 => k_is); (case k5 => k_is); (case a6 => k_is); (case l6 => k_is); (case c6 => k_is); (case k6 => k_is)
    (case a7 => k_is); (case l7 => k_is); (case c7 => k_is); (case k7 => k_is); (case a8 => k_is); (case l8 => k_is)
    (case c8 => k_is); (case k8 => k_is); (case a9 => k_is); (case l9 => k_is); (case c9 => k_is); (case k9 => k_is)
    (case a10 => k_is); (case l10 => k_is); (case c10 => k_is); (case k10 => k_is); (case a11 => k_is); (case l11 => k_is)
    (case c11 => k_is); (case k11 => k_is); (case a12 => k_is); (case l12 => k_is); (case c12 => k_is); (case k12 => k_is)
    (case a13 => k_is); (case l13 => k_is); (case c13 => k_is); (case k13 => k_is); (case a14 => k_is); (case l14 => k_is)
    (case c14 => k_is); (case k14 => k_is); (case a15 => k_is); (case l15 => k_is); (case c15 => k_is); (case k15 => k_is)
    (case a16 => k_is); (case l16 => k_is); (case c16 => k_is); (case k16 => k_is); (case a17 => k_is); (case l17 => k_is)
    (case c17 => k_is); (case k17 => k_is); (case a18 => k_is); (case l18 => k_is); (case c18 => k_is); (case k18 => k_is)
    (case a19 => k_is); (case l19 => k_is); (case c19 => k_is); (case k19 => k_is); (case a20 => k_is); (case l20 => k_is)
    (case c20 => k_is); (case k20 => k_is); (case a21 => k_is); (case l21 => k_is); (case c21 => k_is); (case k21 => k_is)
    (case a22 => k_is); (case l22 => k_is); (case c22 => k_is); (case k22 => k_is); (case a23 => k_is); (case l23 => k_is)
    (case c23 => k_is); (case k23 => k_is); (case a24 => k_is); (case l24 => k_is); (case c24 => k_is); (case k24 => k_is)
    (case a25 => k_is); (case l25 => k_is); (case c25 => k_is); (case k25 => k_is); (case aC => k_is); (case a26 => k_is)
    (case i26 => k_is); (case l26 => k_is); (case c26 => k_is); (case k26 => k_is); (case a27 => k_is); (case i27 => k_is)
    (case l27 => k_is); (case c27 => k_is); (case k27 => k_is); (case pg => k_is); (case hd => k_is); (case po => k_is)
    (case sa => k_is); (case mk => k_is); (case kc => k_is); (case nK => k_is); (case g1 => k_is); (case g2 => k_is)
    (case z1 => k_is); (case z2 => k_is); (case z3 => k_is); (case z4 => k_is); (case z5 => k_is); (case z6 => k_is)
    (case z7 => k_is); (case z8 => k_is); (case z9 => k_is); (case z10 => k_is); (case z11 => k_is); (case z12 => k_is)
    (case z13 => k_is); (case z14 => k_is)
