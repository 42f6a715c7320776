import PyProof.Rows.All
import Wide.All
import OpenK.AllK
import Wide.FinOn
import PySem.Challenge.RW_sz0081_01
open PySem PySem.W PyProof.Rows PySem.Calls
set_option Elab.async false
set_option maxRecDepth 100000
set_option linter.unusedVariables false
namespace Mine
inductive IsPW : Program → Prop
  | mk : IsPW PySem.Challenge.pw_sz0081_01
theorem IsPW.eq {X : Program} (h : IsPW X) : PySem.Challenge.pw_sz0081_01 = X := by cases h; rfl
set_option maxHeartbeats 8000000 in
/-- the program with its strings worked out -/
noncomputable def PWs : { X : Program // IsPW X } := by
  apply Subtype.mk
  have h := IsPW.mk
  conv at h => arg 1; reduce
  exact h
noncomputable def PW : Program := PWs.1
theorem pw_eq : PySem.Challenge.pw_sz0081_01 = PW := PWs.2.eq
noncomputable def LW : OpenLaw := { prog := PW, name := ⟨⟨[108, 97, 119]⟩⟩, about := [⟨⟨[97, 108, 108, 95, 116, 111, 107, 101, 110, 115]⟩⟩], foot := 3, most := some 63, bound := none, writes := false }
theorem rw_eq : PySem.Challenge.rw_sz0081_01 = LW := by kernel_rfl
noncomputable def S (l : List Nat) : Str := ⟨⟨l⟩⟩
noncomputable def vs (l : List Nat) (t : Nat) : Value := .str (S l) t
noncomputable def vi (n : Nat) : Value := .int (Int.ofNat n) 0
noncomputable def vj (n t : Nat) : Value := .int (Int.ofNat n) t
noncomputable def de (P : Params) (l : List Nat) (t : Nat) (v : Value) : DictEntry := ⟨PyData.keyHash P (S l), .str (S l) t, v⟩
noncomputable def st (i : Nat) : Stmt := (PW.main.body).getD i (.Pass ⟨0, 0, 0, 0⟩)
noncomputable def sm (i j : Nat) : Stmt := match st i with
  | .ClassDef (body := b) .. => b.getD j (.Pass ⟨0, 0, 0, 0⟩)
  | s => s
noncomputable def fP : Stmt → Arguments
  | .FunctionDef (args := a) .. => a
  | _ => ⟨[], [], none, [], [], none, []⟩
noncomputable def fB : Stmt → List Stmt
  | .FunctionDef (body := b) .. => b
  | _ => []
noncomputable def fS : Stmt → Scope
  | .FunctionDef (scope := s) .. => s
  | _ => PW.main.scope
noncomputable def fn (s : Stmt) (name qual : Str) (g : Nat) (d kd doc pm cd ct : Value) (bi : Nat) : Data :=
  .func { name, qualname := qual, params := fP s, body := .stmts (fB s), scope := fS s, globals := g, closure := [], defaults := d, kwdefaults := kd, doc, pyModule := pm, annotations := none, code := cd, closureTuple := ct, builtins := bi }
noncomputable abbrev B (o : Obj) (l r : BT) : BT := .node o l r
noncomputable abbrev N : BT := .nil
noncomputable abbrev F (o : Obj) : BT := .node o .nil .nil
noncomputable def o0 (P : Params) : Obj := ⟨(.type PySem.W.SL.s14018661285674007319x4), none, (.dict ⟨[de P [95, 95, 110, 97, 109, 101, 95, 95] 1 (vs [98, 117, 105, 108, 116, 105, 110, 115] 160), de P [95, 95, 100, 111, 99, 95, 95] 2 (.builtin "builtins.__doc__:str#opaque"), de P [95, 95, 112, 97, 99, 107, 97, 103, 101, 95, 95] 3 (.builtin "builtins.__package__:str#opaque"), de P [95, 95, 108, 111, 97, 100, 101, 114, 95, 95] 4 (.builtin "builtins.__loader__:shared#opaque"), de P [95, 95, 115, 112, 101, 99, 95, 95] 5 (.builtin PySem.W.SL.s11665532747177232413x24), de P [95, 95, 98, 117, 105, 108, 100, 95, 99, 108, 97, 115, 115, 95, 95] 6 (.builtin PySem.W.SL.s15183661809925369436x15), de P [95, 95, 105, 109, 112, 111, 114, 116, 95, 95] 7 (.builtin PySem.W.SL.s13915890719876406383x10), de P [97, 98, 115] 8 (.builtin PySem.W.SL.s13459172003223722735x3), de P [97, 108, 108] 9 (.builtin PySem.W.SL.s10557405761357834076x3), de P [97, 110, 121] 10 (.builtin PySem.W.SL.s4233737765568776869x3), de P [97, 115, 99, 105, 105] 11 (.builtin PySem.W.SL.s2508922471967985374x5), de P [98, 105, 110] 12 (.builtin PySem.W.SL.s15574269061696679450x3), de P [98, 114, 101, 97, 107, 112, 111, 105, 110, 116] 13 (.builtin PySem.W.SL.s6016482663378992977x10), de P [99, 97, 108, 108, 97, 98, 108, 101] 14 (.builtin PySem.W.SL.s5596568736180474577x8), de P [99, 104, 114] 15 (.builtin PySem.W.SL.s2839554839881490554x3), de P [99, 111, 109, 112, 105, 108, 101] 16 (.builtin PySem.W.SL.s725004073602090463x7), de P [100, 101, 108, 97, 116, 116, 114] 17 (.builtin PySem.W.SL.s9436932552931045734x7), de P [100, 105, 114] 18 (.builtin PySem.W.SL.s2754603736356183583x3), de P [100, 105, 118, 109, 111, 100] 19 (.builtin PySem.W.SL.s15185746759980889043x6), de P [101, 118, 97, 108] 20 (.builtin PySem.W.SL.s8192189862530294059x4), de P [101, 120, 101, 99] 21 (.builtin PySem.W.SL.s7038307821325472102x4), de P [102, 111, 114, 109, 97, 116] 22 (.builtin PySem.W.SL.s5662562618415449548x6), de P [103, 101, 116, 97, 116, 116, 114] 23 (.builtin PySem.W.SL.s15281542589158584767x7), de P [103, 108, 111, 98, 97, 108, 115] 24 (.builtin PySem.W.SL.s17651547275483570877x7), de P [104, 97, 115, 97, 116, 116, 114] 25 (.builtin PySem.W.SL.s4036449017235975746x7), de P [104, 97, 115, 104] 26 (.builtin PySem.W.SL.s8879979712987360175x4), de P [104, 101, 120] 27 (.builtin PySem.W.SL.s1801250619170735830x3), de P [105, 100] 28 (.builtin PySem.W.SL.s17659931425627118568x2), de P [105, 110, 112, 117, 116] 29 (.builtin PySem.W.SL.s6063217899685152688x5), de P [105, 115, 105, 110, 115, 116, 97, 110, 99, 101] 30 (.builtin PySem.W.SL.s8008927332132565319x10), de P [105, 115, 115, 117, 98, 99, 108, 97, 115, 115] 31 (.builtin PySem.W.SL.s3544116645089599534x10), de P [105, 116, 101, 114] 32 (.builtin PySem.W.SL.s13761710972054866084x4), de P [97, 105, 116, 101, 114] 33 (.builtin PySem.W.SL.s12896375587409280029x5), de P [108, 101, 110] 34 (.builtin PySem.W.SL.s13014049009108672802x3), de P [108, 111, 99, 97, 108, 115] 35 (.builtin PySem.W.SL.s13935586738268321596x6), de P [109, 97, 120] 36 (.builtin PySem.W.SL.s8200498257699607233x3), de P [109, 105, 110] 37 (.builtin PySem.W.SL.s14114244577727609259x3), de P [110, 101, 120, 116] 38 (.builtin PySem.W.SL.s1499430450269397089x4), de P [97, 110, 101, 120, 116] 39 (.builtin PySem.W.SL.s8755793994789770505x5), de P [111, 99, 116] 40 (.builtin PySem.W.SL.s15725212667919936108x3), de P [111, 114, 100] 41 (.builtin PySem.W.SL.s15791221867095933363x3), de P [112, 111, 119] 42 (.builtin PySem.W.SL.s81309575031448614x3), de P [112, 114, 105, 110, 116] 43 (.builtin PySem.W.SL.s8069831620301644142x5), de P [114, 101, 112, 114] 44 (.builtin PySem.W.SL.s10061844253413749634x4), de P [114, 111, 117, 110, 100] 45 (.builtin PySem.W.SL.s9496514870978017513x5), de P [115, 101, 116, 97, 116, 116, 114] 46 (.builtin PySem.W.SL.s8899691144933366716x7), de P [115, 111, 114, 116, 101, 100] 47 (.builtin PySem.W.SL.s15201008993051130160x6), de P [115, 117, 109] 48 (.builtin PySem.W.SL.s741896355592496720x3), de P [118, 97, 114, 115] 49 (.builtin PySem.W.SL.s17925004256654032244x4), de P [78, 111, 110, 101] 50 .none, de P [69, 108, 108, 105, 112, 115, 105, 115] 51 .ellipsis, de P [78, 111, 116, 73, 109, 112, 108, 101, 109, 101, 110, 116, 101, 100] 52 .notImplemented, de P [70, 97, 108, 115, 101] 53 (.bool false), de P [84, 114, 117, 101] 54 (.bool true), de P [98, 111, 111, 108] 55 (.type PySem.W.SL.s11695548795398191787x4), de P [109, 101, 109, 111, 114, 121, 118, 105, 101, 119] 56 (.type PySem.W.SL.s4156966113859768872x10), de P [98, 121, 116, 101, 97, 114, 114, 97, 121] 57 (.type PySem.W.SL.s9501651726347032510x9), de P [98, 121, 116, 101, 115] 58 (.type PySem.W.SL.s15722918466584999320x5), de P [99, 108, 97, 115, 115, 109, 101, 116, 104, 111, 100] 59 (.type PySem.W.SL.s591115383303110208x11), de P [99, 111, 109, 112, 108, 101, 120] 60 (.type PySem.W.SL.s15721156781594690315x7), de P [100, 105, 99, 116] 61 (.type PySem.W.SL.s14018661285674007319x4), de P [101, 110, 117, 109, 101, 114, 97, 116, 101] 62 (.type PySem.W.SL.s14340494229221121180x9), de P [102, 105, 108, 116, 101, 114] 63 (.type PySem.W.SL.s13429844117177748173x6), de P [102, 108, 111, 97, 116] 64 (.type PySem.W.SL.s16463266125957815391x5), de P [102, 114, 111, 122, 101, 110, 115, 101, 116] 65 (.type PySem.W.SL.s4922535414793169389x9), de P [112, 114, 111, 112, 101, 114, 116, 121] 66 (.type PySem.W.SL.s8101838861749082086x8), de P [105, 110, 116] 67 (.type PySem.W.SL.s7066276694103001551x3), de P [108, 105, 115, 116] 68 (.type PySem.W.SL.s9222952809800978799x4), de P [109, 97, 112] 69 (.type PySem.W.SL.s462964344163437139x3), de P [111, 98, 106, 101, 99, 116] 70 (.type PySem.W.SL.s2742458400755230247x6), de P [114, 97, 110, 103, 101] 71 (.type PySem.W.SL.s1438033511350832697x5), de P [114, 101, 118, 101, 114, 115, 101, 100] 72 (.type PySem.W.SL.s14365286008749172514x8), de P [115, 101, 116] 73 (.type PySem.W.SL.s3642769012341782148x3), de P [115, 108, 105, 99, 101] 74 (.type PySem.W.SL.s4674234679698826739x5), de P [115, 116, 97, 116, 105, 99, 109, 101, 116, 104, 111, 100] 75 (.type PySem.W.SL.s16656946322747308186x12), de P [115, 116, 114] 76 (.type PySem.W.SL.s10796804682411823810x3), de P [115, 117, 112, 101, 114] 77 (.type PySem.W.SL.s4290257624100764138x5), de P [116, 117, 112, 108, 101] 78 (.type PySem.W.SL.s2766695959194262286x5), de P [116, 121, 112, 101] 79 (.type PySem.W.SL.s17162191345867700912x4), de P [122, 105, 112] 80 (.type PySem.W.SL.s14339709457334898076x3), de P [95, 95, 100, 101, 98, 117, 103, 95, 95] 81 (.bool true), de P [66, 97, 115, 101, 69, 120, 99, 101, 112, 116, 105, 111, 110] 82 (.type PySem.W.SL.s4278001404047624695x13), de P [66, 97, 115, 101, 69, 120, 99, 101, 112, 116, 105, 111, 110, 71, 114, 111, 117, 112] 83 (.type PySem.W.SL.s6585700554429387442x18), de P [69, 120, 99, 101, 112, 116, 105, 111, 110] 84 (.type PySem.W.SL.s5946037652744460706x9), de P [71, 101, 110, 101, 114, 97, 116, 111, 114, 69, 120, 105, 116] 85 (.type PySem.W.SL.s7410770068591931388x13), de P [75, 101, 121, 98, 111, 97, 114, 100, 73, 110, 116, 101, 114, 114, 117, 112, 116] 86 (.type PySem.W.SL.s11817881795495490833x17), de P [83, 121, 115, 116, 101, 109, 69, 120, 105, 116] 87 (.type PySem.W.SL.s15679963881808890155x10), de P [65, 114, 105, 116, 104, 109, 101, 116, 105, 99, 69, 114, 114, 111, 114] 88 (.type PySem.W.SL.s3871700062485845797x15), de P [65, 115, 115, 101, 114, 116, 105, 111, 110, 69, 114, 114, 111, 114] 89 (.type PySem.W.SL.s7689518266570723881x14), de P [65, 116, 116, 114, 105, 98, 117, 116, 101, 69, 114, 114, 111, 114] 90 (.type PySem.W.SL.s9001593270443806431x14), de P [66, 117, 102, 102, 101, 114, 69, 114, 114, 111, 114] 91 (.type PySem.W.SL.s6882542574934516792x11), de P [69, 79, 70, 69, 114, 114, 111, 114] 92 (.type PySem.W.SL.s14403400214490484960x8), de P [73, 109, 112, 111, 114, 116, 69, 114, 114, 111, 114] 93 (.type PySem.W.SL.s14457978657717015782x11), de P [76, 111, 111, 107, 117, 112, 69, 114, 114, 111, 114] 94 (.type PySem.W.SL.s1753610191782819921x11), de P [77, 101, 109, 111, 114, 121, 69, 114, 114, 111, 114] 95 (.type PySem.W.SL.s14119380538032626715x11), de P [78, 97, 109, 101, 69, 114, 114, 111, 114] 96 (.type PySem.W.SL.s11437920000406562045x9), de P [79, 83, 69, 114, 114, 111, 114] 97 (.type PySem.W.SL.s10852414792293593619x7), de P [82, 101, 102, 101, 114, 101, 110, 99, 101, 69, 114, 114, 111, 114] 98 (.type PySem.W.SL.s14816307405966870543x14), de P [82, 117, 110, 116, 105, 109, 101, 69, 114, 114, 111, 114] 99 (.type PySem.W.SL.s8682627914449686677x12), de P [83, 116, 111, 112, 65, 115, 121, 110, 99, 73, 116, 101, 114, 97, 116, 105, 111, 110] 100 (.type PySem.W.SL.s4428170145600203450x18), de P [83, 116, 111, 112, 73, 116, 101, 114, 97, 116, 105, 111, 110] 101 (.type PySem.W.SL.s5991306692159431302x13), de P [83, 121, 110, 116, 97, 120, 69, 114, 114, 111, 114] 102 (.type PySem.W.SL.s16067994140765818257x11), de P [83, 121, 115, 116, 101, 109, 69, 114, 114, 111, 114] 103 (.type PySem.W.SL.s2327743974964600596x11), de P [84, 121, 112, 101, 69, 114, 114, 111, 114] 104 (.type PySem.W.SL.s2804747833354056582x9), de P [86, 97, 108, 117, 101, 69, 114, 114, 111, 114] 105 (.type PySem.W.SL.s6070975301684473832x10), de P [87, 97, 114, 110, 105, 110, 103] 106 (.type PySem.W.SL.s14270485950484850486x7), de P [70, 108, 111, 97, 116, 105, 110, 103, 80, 111, 105, 110, 116, 69, 114, 114, 111, 114] 107 (.type PySem.W.SL.s12041534306414923332x18), de P [79, 118, 101, 114, 102, 108, 111, 119, 69, 114, 114, 111, 114] 108 (.type PySem.W.SL.s2531307568338490285x13), de P [90, 101, 114, 111, 68, 105, 118, 105, 115, 105, 111, 110, 69, 114, 114, 111, 114] 109 (.type PySem.W.SL.s631175304937289666x17), de P [66, 121, 116, 101, 115, 87, 97, 114, 110, 105, 110, 103] 110 (.type PySem.W.SL.s5144983644357021410x12), de P [68, 101, 112, 114, 101, 99, 97, 116, 105, 111, 110, 87, 97, 114, 110, 105, 110, 103] 111 (.type PySem.W.SL.s18039099521571816885x18), de P [69, 110, 99, 111, 100, 105, 110, 103, 87, 97, 114, 110, 105, 110, 103] 112 (.type PySem.W.SL.s6011586214260557989x15), de P [70, 117, 116, 117, 114, 101, 87, 97, 114, 110, 105, 110, 103] 113 (.type PySem.W.SL.s5430567037509283100x13), de P [73, 109, 112, 111, 114, 116, 87, 97, 114, 110, 105, 110, 103] 114 (.type PySem.W.SL.s8117915138073963741x13), de P [80, 101, 110, 100, 105, 110, 103, 68, 101, 112, 114, 101, 99, 97, 116, 105, 111, 110, 87, 97, 114, 110, 105, 110, 103] 115 (.type PySem.W.SL.s3423317712779056401x25), de P [82, 101, 115, 111, 117, 114, 99, 101, 87, 97, 114, 110, 105, 110, 103] 116 (.type PySem.W.SL.s2007317383269046180x15), de P [82, 117, 110, 116, 105, 109, 101, 87, 97, 114, 110, 105, 110, 103] 117 (.type PySem.W.SL.s17481586968713580700x14), de P [83, 121, 110, 116, 97, 120, 87, 97, 114, 110, 105, 110, 103] 118 (.type PySem.W.SL.s2450899226349176912x13), de P [85, 110, 105, 99, 111, 100, 101, 87, 97, 114, 110, 105, 110, 103] 119 (.type PySem.W.SL.s16626165730633575011x14), de P [85, 115, 101, 114, 87, 97, 114, 110, 105, 110, 103] 120 (.type PySem.W.SL.s14288496050688921416x11), de P [66, 108, 111, 99, 107, 105, 110, 103, 73, 79, 69, 114, 114, 111, 114] 121 (.type PySem.W.SL.s5735081916595925998x15), de P [67, 104, 105, 108, 100, 80, 114, 111, 99, 101, 115, 115, 69, 114, 114, 111, 114] 122 (.type PySem.W.SL.s3865607918536308442x17), de P [67, 111, 110, 110, 101, 99, 116, 105, 111, 110, 69, 114, 114, 111, 114] 123 (.type PySem.W.SL.s13337502604062700212x15), de P [70, 105, 108, 101, 69, 120, 105, 115, 116, 115, 69, 114, 114, 111, 114] 124 (.type PySem.W.SL.s13114017843053701147x15), de P [70, 105, 108, 101, 78, 111, 116, 70, 111, 117, 110, 100, 69, 114, 114, 111, 114] 125 (.type PySem.W.SL.s17467278006356818441x17), de P [73, 110, 116, 101, 114, 114, 117, 112, 116, 101, 100, 69, 114, 114, 111, 114] 126 (.type PySem.W.SL.s17722149559621369488x16), de P [73, 115, 65, 68, 105, 114, 101, 99, 116, 111, 114, 121, 69, 114, 114, 111, 114] 127 (.type PySem.W.SL.s7855274175708717672x17), de P [78, 111, 116, 65, 68, 105, 114, 101, 99, 116, 111, 114, 121, 69, 114, 114, 111, 114] 128 (.type PySem.W.SL.s13351283678309829046x18), de P [80, 101, 114, 109, 105, 115, 115, 105, 111, 110, 69, 114, 114, 111, 114] 129 (.type PySem.W.SL.s6668348653404991179x15), de P [80, 114, 111, 99, 101, 115, 115, 76, 111, 111, 107, 117, 112, 69, 114, 114, 111, 114] 130 (.type PySem.W.SL.s12913350958174193794x18), de P [84, 105, 109, 101, 111, 117, 116, 69, 114, 114, 111, 114] 131 (.type PySem.W.SL.s16115879512475548326x12), de P [73, 110, 100, 101, 110, 116, 97, 116, 105, 111, 110, 69, 114, 114, 111, 114] 132 (.type PySem.W.SL.s15920661018069861047x16), de P [95, 73, 110, 99, 111, 109, 112, 108, 101, 116, 101, 73, 110, 112, 117, 116, 69, 114, 114, 111, 114] 133 (.type PySem.W.SL.s10779130036587390575x21), de P [73, 110, 100, 101, 120, 69, 114, 114, 111, 114] 134 (.type PySem.W.SL.s7801419657504700863x10), de P [75, 101, 121, 69, 114, 114, 111, 114] 135 (.type PySem.W.SL.s1688129525768580628x8), de P [77, 111, 100, 117, 108, 101, 78, 111, 116, 70, 111, 117, 110, 100, 69, 114, 114, 111, 114] 136 (.type PySem.W.SL.s1031832959479892071x19), de P [78, 111, 116, 73, 109, 112, 108, 101, 109, 101, 110, 116, 101, 100, 69, 114, 114, 111, 114] 137 (.type PySem.W.SL.s8991790508128307865x19), de P [80, 121, 116, 104, 111, 110, 70, 105, 110, 97, 108, 105, 122, 97, 116, 105, 111, 110, 69, 114, 114, 111, 114] 138 (.type PySem.W.SL.s14539662485746970245x23), de P [82, 101, 99, 117, 114, 115, 105, 111, 110, 69, 114, 114, 111, 114] 139 (.type PySem.W.SL.s11643622729373238714x14), de P [85, 110, 98, 111, 117, 110, 100, 76, 111, 99, 97, 108, 69, 114, 114, 111, 114] 140 (.type PySem.W.SL.s3386828779285465597x17), de P [85, 110, 105, 99, 111, 100, 101, 69, 114, 114, 111, 114] 141 (.type PySem.W.SL.s13042696260734638735x12), de P [66, 114, 111, 107, 101, 110, 80, 105, 112, 101, 69, 114, 114, 111, 114] 142 (.type PySem.W.SL.s18239426817015966623x15), de P [67, 111, 110, 110, 101, 99, 116, 105, 111, 110, 65, 98, 111, 114, 116, 101, 100, 69, 114, 114, 111, 114] 143 (.type PySem.W.SL.s1270395311379034370x22), de P [67, 111, 110, 110, 101, 99, 116, 105, 111, 110, 82, 101, 102, 117, 115, 101, 100, 69, 114, 114, 111, 114] 144 (.type PySem.W.SL.s10696252587037064777x22), de P [67, 111, 110, 110, 101, 99, 116, 105, 111, 110, 82, 101, 115, 101, 116, 69, 114, 114, 111, 114] 145 (.type PySem.W.SL.s7852717498200857586x20), de P [84, 97, 98, 69, 114, 114, 111, 114] 146 (.type PySem.W.SL.s6377248116197321094x8), de P [85, 110, 105, 99, 111, 100, 101, 68, 101, 99, 111, 100, 101, 69, 114, 114, 111, 114] 147 (.type PySem.W.SL.s3834378056692298002x18), de P [85, 110, 105, 99, 111, 100, 101, 69, 110, 99, 111, 100, 101, 69, 114, 114, 111, 114] 148 (.type PySem.W.SL.s17586630440231065808x18), de P [85, 110, 105, 99, 111, 100, 101, 84, 114, 97, 110, 115, 108, 97, 116, 101, 69, 114, 114, 111, 114] 149 (.type PySem.W.SL.s15234114252648025395x21), de P [69, 120, 99, 101, 112, 116, 105, 111, 110, 71, 114, 111, 117, 112] 150 (.type PySem.W.SL.s8496462677383758984x14), de P [69, 110, 118, 105, 114, 111, 110, 109, 101, 110, 116, 69, 114, 114, 111, 114] 151 (.type PySem.W.SL.s10852414792293593619x7), de P [73, 79, 69, 114, 114, 111, 114] 152 (.type PySem.W.SL.s10852414792293593619x7), de P [111, 112, 101, 110] 153 (.builtin PySem.W.SL.s16789243406116112673x4), de P [113, 117, 105, 116] 154 (.builtin PySem.W.SL.s14400166428656793546x20), de P [101, 120, 105, 116] 155 (.builtin PySem.W.SL.s5857708277339239366x20), de P [99, 111, 112, 121, 114, 105, 103, 104, 116] 156 (.builtin "builtins.copyright#opaque"), de P [99, 114, 101, 100, 105, 116, 115] 157 (.builtin "builtins.credits#opaque"), de P [108, 105, 99, 101, 110, 115, 101] 158 (.builtin "builtins.license#opaque"), de P [104, 101, 108, 112] 159 (.builtin PySem.W.SL.s7804999707787243718x20)]⟩ 159), ⟨[]⟩⟩
noncomputable def o1 (P : Params) : Obj := ⟨(.type PySem.W.SL.s14018661285674007319x4), none, (.dict ⟨[de P [98, 117, 105, 108, 116, 105, 110, 115] 162 (.ref 4), de P [95, 95, 109, 97, 105, 110, 95, 95] 163 (.ref 5)]⟩ 2), ⟨[]⟩⟩
noncomputable def o4 : Obj := ⟨(.type PySem.W.SL.s6658869562736209489x6), some 0, .plain, ⟨[]⟩⟩
noncomputable def o5 : Obj := ⟨(.type PySem.W.SL.s6658869562736209489x6), some 3, .plain, ⟨[]⟩⟩
noncomputable def o6 : Obj := ⟨(.type PySem.W.SL.s14018661285674007319x4), none, (.dict ⟨[]⟩ 0), ⟨[]⟩⟩
noncomputable def o7 : Obj := ⟨(.type PySem.W.SL.s2766695959194262286x5), none, (.seq ⟨[]⟩ 0), ⟨[]⟩⟩
noncomputable def o8 : Obj := ⟨.none, none, (.fields ⟨[]⟩), ⟨[]⟩⟩
noncomputable def o9 : Obj := ⟨(.type PySem.W.SL.s5856160107412720595x4), none, (.fields ⟨[(vs [60, 109, 111, 100, 117, 108, 101, 62] 176), (vs [60, 109, 111, 100, 117, 108, 101, 62] 177), (vs [47, 99, 108, 97, 105, 109, 47, 99, 117, 116, 46, 112, 121] 178), (vi 1), (vi 0), (vi 0), (vi 0), (vi 0), (.ref 7), (.bool false), (vi 175), (.ref 8), .none, .none, .none, .none, (vi 179), (vi 1), (vs [47, 99, 108, 97, 105, 109, 47, 99, 117, 116, 46, 112, 121] 180)]⟩), ⟨[]⟩⟩
noncomputable def o10 : Obj := ⟨(.type PySem.W.SL.s658472552662922059x5), none, .plain, ⟨[(some (.ref 9)), (some (.ref 3)), (some (.ref 3)), none, (some (vs [95, 95, 109, 97, 105, 110, 95, 95] 164)), none, (some (.ref 0))]⟩⟩
noncomputable def o11 : Obj := ⟨(.type PySem.W.SL.s2766695959194262286x5), none, (.seq ⟨[]⟩ 0), ⟨[]⟩⟩
noncomputable def o13 : Obj := ⟨(.type PySem.W.SL.s5856160107412720595x4), none, (.fields ⟨[(vs [60, 109, 111, 100, 117, 108, 101, 62] 182), (vs [60, 109, 111, 100, 117, 108, 101, 62] 183), (vs [47, 99, 108, 97, 105, 109, 47, 99, 117, 116, 46, 112, 121] 184), (vi 1), (vi 0), (vi 0), (vi 0), (vi 0), (.ref 11), (.bool false), (vi 181), (.ref 12), .none, .none, .none, .none, (vi 185), (vi 1), (vs [47, 99, 108, 97, 105, 109, 47, 99, 117, 116, 46, 112, 121] 186)]⟩), ⟨[]⟩⟩
noncomputable def o14 : Obj := ⟨(.type PySem.W.SL.s658472552662922059x5), none, .plain, ⟨[(some (.ref 13)), (some (.ref 3)), (some (.ref 3)), none, (some (vs [95, 95, 109, 97, 105, 110, 95, 95] 164)), none, (some (.ref 0))]⟩⟩
noncomputable def o15 : Obj := ⟨(.type PySem.W.SL.s9222952809800978799x4), none, (.seq ⟨[(vj 9 189), (vj 11 190), (vj 12 191), (vj 32 192), (vj 160 193), (vj 5760 194), (vj 6158 195), (vj 8239 196), (vj 8287 197), (vj 12288 198), (vj 65279 199)]⟩ 0), ⟨[]⟩⟩
noncomputable def o16 : Obj := ⟨(.type PySem.W.SL.s9222952809800978799x4), none, (.seq ⟨[(vj 10 201), (vj 13 202), (vj 8232 203), (vj 8233 204)]⟩ 0), ⟨[]⟩⟩
noncomputable def o17 : Obj := ⟨(.type PySem.W.SL.s2766695959194262286x5), none, (.seq ⟨[(vj 170 206), (vj 170 207)]⟩ 0), ⟨[]⟩⟩
noncomputable def o18 : Obj := ⟨(.type PySem.W.SL.s2766695959194262286x5), none, (.seq ⟨[(vj 181 208), (vj 181 209)]⟩ 0), ⟨[]⟩⟩
noncomputable def o19 : Obj := ⟨(.type PySem.W.SL.s2766695959194262286x5), none, (.seq ⟨[(vj 186 210), (vj 186 211)]⟩ 0), ⟨[]⟩⟩
noncomputable def o20 : Obj := ⟨(.type PySem.W.SL.s2766695959194262286x5), none, (.seq ⟨[(vj 192 212), (vj 214 213)]⟩ 0), ⟨[]⟩⟩
noncomputable def o21 : Obj := ⟨(.type PySem.W.SL.s2766695959194262286x5), none, (.seq ⟨[(vj 216 214), (vj 246 215)]⟩ 0), ⟨[]⟩⟩
noncomputable def o22 : Obj := ⟨(.type PySem.W.SL.s2766695959194262286x5), none, (.seq ⟨[(vj 248 216), (vj 705 217)]⟩ 0), ⟨[]⟩⟩
noncomputable def o23 : Obj := ⟨(.type PySem.W.SL.s2766695959194262286x5), none, (.seq ⟨[(vj 880 218), (vj 883 219)]⟩ 0), ⟨[]⟩⟩
noncomputable def o24 : Obj := ⟨(.type PySem.W.SL.s2766695959194262286x5), none, (.seq ⟨[(vj 886 220), (vj 887 221)]⟩ 0), ⟨[]⟩⟩
noncomputable def o25 : Obj := ⟨(.type PySem.W.SL.s2766695959194262286x5), none, (.seq ⟨[(vj 891 222), (vj 893 223)]⟩ 0), ⟨[]⟩⟩
noncomputable def o26 : Obj := ⟨(.type PySem.W.SL.s2766695959194262286x5), none, (.seq ⟨[(vj 902 224), (vj 902 225)]⟩ 0), ⟨[]⟩⟩
noncomputable def o27 : Obj := ⟨(.type PySem.W.SL.s2766695959194262286x5), none, (.seq ⟨[(vj 904 226), (vj 906 227)]⟩ 0), ⟨[]⟩⟩
noncomputable def o28 : Obj := ⟨(.type PySem.W.SL.s2766695959194262286x5), none, (.seq ⟨[(vj 908 228), (vj 908 229)]⟩ 0), ⟨[]⟩⟩
noncomputable def o29 : Obj := ⟨(.type PySem.W.SL.s2766695959194262286x5), none, (.seq ⟨[(vj 910 230), (vj 929 231)]⟩ 0), ⟨[]⟩⟩
noncomputable def o30 : Obj := ⟨(.type PySem.W.SL.s2766695959194262286x5), none, (.seq ⟨[(vj 931 232), (vj 1013 233)]⟩ 0), ⟨[]⟩⟩
noncomputable def o31 : Obj := ⟨(.type PySem.W.SL.s2766695959194262286x5), none, (.seq ⟨[(vj 1015 234), (vj 1153 235)]⟩ 0), ⟨[]⟩⟩
noncomputable def o32 : Obj := ⟨(.type PySem.W.SL.s2766695959194262286x5), none, (.seq ⟨[(vj 1162 236), (vj 1315 237)]⟩ 0), ⟨[]⟩⟩
noncomputable def o33 : Obj := ⟨(.type PySem.W.SL.s2766695959194262286x5), none, (.seq ⟨[(vj 1329 238), (vj 1366 239)]⟩ 0), ⟨[]⟩⟩
noncomputable def o34 : Obj := ⟨(.type PySem.W.SL.s2766695959194262286x5), none, (.seq ⟨[(vj 1377 240), (vj 1415 241)]⟩ 0), ⟨[]⟩⟩
noncomputable def o35 : Obj := ⟨(.type PySem.W.SL.s2766695959194262286x5), none, (.seq ⟨[(vj 1488 242), (vj 1514 243)]⟩ 0), ⟨[]⟩⟩
noncomputable def o36 : Obj := ⟨(.type PySem.W.SL.s2766695959194262286x5), none, (.seq ⟨[(vj 1569 244), (vj 1594 245)]⟩ 0), ⟨[]⟩⟩
noncomputable def o37 : Obj := ⟨(.type PySem.W.SL.s2766695959194262286x5), none, (.seq ⟨[(vj 1601 246), (vj 1610 247)]⟩ 0), ⟨[]⟩⟩
noncomputable def o38 : Obj := ⟨(.type PySem.W.SL.s2766695959194262286x5), none, (.seq ⟨[(vj 2308 248), (vj 2361 249)]⟩ 0), ⟨[]⟩⟩
noncomputable def o39 : Obj := ⟨(.type PySem.W.SL.s2766695959194262286x5), none, (.seq ⟨[(vj 4256 250), (vj 4293 251)]⟩ 0), ⟨[]⟩⟩
noncomputable def o40 : Obj := ⟨(.type PySem.W.SL.s2766695959194262286x5), none, (.seq ⟨[(vj 4304 252), (vj 4346 253)]⟩ 0), ⟨[]⟩⟩
noncomputable def o41 : Obj := ⟨(.type PySem.W.SL.s2766695959194262286x5), none, (.seq ⟨[(vj 7680 254), (vj 7835 255)]⟩ 0), ⟨[]⟩⟩
noncomputable def o42 : Obj := ⟨(.type PySem.W.SL.s2766695959194262286x5), none, (.seq ⟨[(vj 7840 256), (vj 7929 257)]⟩ 0), ⟨[]⟩⟩
noncomputable def o43 : Obj := ⟨(.type PySem.W.SL.s2766695959194262286x5), none, (.seq ⟨[(vj 8544 258), (vj 8578 259)]⟩ 0), ⟨[]⟩⟩
noncomputable def o44 : Obj := ⟨(.type PySem.W.SL.s2766695959194262286x5), none, (.seq ⟨[(vj 12353 260), (vj 12438 261)]⟩ 0), ⟨[]⟩⟩
noncomputable def o45 : Obj := ⟨(.type PySem.W.SL.s2766695959194262286x5), none, (.seq ⟨[(vj 12449 262), (vj 12538 263)]⟩ 0), ⟨[]⟩⟩
noncomputable def o46 : Obj := ⟨(.type PySem.W.SL.s2766695959194262286x5), none, (.seq ⟨[(vj 12549 264), (vj 12588 265)]⟩ 0), ⟨[]⟩⟩
noncomputable def o47 : Obj := ⟨(.type PySem.W.SL.s2766695959194262286x5), none, (.seq ⟨[(vj 19968 266), (vj 40891 267)]⟩ 0), ⟨[]⟩⟩
noncomputable def o48 : Obj := ⟨(.type PySem.W.SL.s2766695959194262286x5), none, (.seq ⟨[(vj 44032 268), (vj 55203 269)]⟩ 0), ⟨[]⟩⟩
noncomputable def o49 : Obj := ⟨(.type PySem.W.SL.s9222952809800978799x4), none, (.seq ⟨[(.ref 17), (.ref 18), (.ref 19), (.ref 20), (.ref 21), (.ref 22), (.ref 23), (.ref 24), (.ref 25), (.ref 26), (.ref 27), (.ref 28), (.ref 29), (.ref 30), (.ref 31), (.ref 32), (.ref 33), (.ref 34), (.ref 35), (.ref 36), (.ref 37), (.ref 38), (.ref 39), (.ref 40), (.ref 41), (.ref 42), (.ref 43), (.ref 44), (.ref 45), (.ref 46), (.ref 47), (.ref 48)]⟩ 0), ⟨[]⟩⟩
noncomputable def o50 : Obj := ⟨(.type PySem.W.SL.s2766695959194262286x5), none, (.seq ⟨[(vj 768 271), (vj 879 272)]⟩ 0), ⟨[]⟩⟩
noncomputable def o51 : Obj := ⟨(.type PySem.W.SL.s2766695959194262286x5), none, (.seq ⟨[(vj 1632 273), (vj 1641 274)]⟩ 0), ⟨[]⟩⟩
noncomputable def o52 : Obj := ⟨(.type PySem.W.SL.s2766695959194262286x5), none, (.seq ⟨[(vj 2406 275), (vj 2415 276)]⟩ 0), ⟨[]⟩⟩
noncomputable def o53 : Obj := ⟨(.type PySem.W.SL.s2766695959194262286x5), none, (.seq ⟨[(vj 8204 277), (vj 8205 278)]⟩ 0), ⟨[]⟩⟩
noncomputable def o54 : Obj := ⟨(.type PySem.W.SL.s2766695959194262286x5), none, (.seq ⟨[(vj 8255 279), (vj 8256 280)]⟩ 0), ⟨[]⟩⟩
noncomputable def o55 : Obj := ⟨(.type PySem.W.SL.s2766695959194262286x5), none, (.seq ⟨[(vj 8276 281), (vj 8276 282)]⟩ 0), ⟨[]⟩⟩
noncomputable def o56 : Obj := ⟨(.type PySem.W.SL.s9222952809800978799x4), none, (.seq ⟨[(.ref 50), (.ref 51), (.ref 52), (.ref 53), (.ref 54), (.ref 55)]⟩ 0), ⟨[]⟩⟩
noncomputable def o57 : Obj := ⟨(.type PySem.W.SL.s2766695959194262286x5), none, (.seq ⟨[]⟩ 0), ⟨[]⟩⟩
noncomputable def o58 : Obj := ⟨.none, none, (.fields ⟨[]⟩), ⟨[]⟩⟩
noncomputable def o59 : Obj := ⟨(.type PySem.W.SL.s2766695959194262286x5), none, (.seq ⟨[(vs [99, 111, 100, 101] 287), (vs [114, 97, 110, 103, 101, 115] 288), (vs [102, 105, 114, 115, 116] 289), (vs [108, 97, 115, 116] 290)]⟩ 0), ⟨[]⟩⟩
noncomputable def o60 : Obj := ⟨(.type PySem.W.SL.s2766695959194262286x5), none, (.seq ⟨[]⟩ 0), ⟨[]⟩⟩
noncomputable def o61 : Obj := ⟨.none, none, (fn (st 5) (S [105, 115, 95, 97, 109, 111, 110, 103]) (S [105, 115, 95, 97, 109, 111, 110, 103]) 0 .none .none .none .none .none .none 0), ⟨[]⟩⟩
noncomputable def o62 : Obj := ⟨(.type PySem.W.SL.s5856160107412720595x4), none, (.fields ⟨[(vs [105, 115, 95, 97, 109, 111, 110, 103] 284), (vs [105, 115, 95, 97, 109, 111, 110, 103] 285), (vs [47, 99, 108, 97, 105, 109, 47, 99, 117, 116, 46, 112, 121] 286), (vi 6), (vi 2), (vi 0), (vi 0), (vi 3), (.ref 57), (.bool true), (vi 181), (.ref 58), .none, (.ref 59), (.ref 60), (.ref 61), (vi 291), (vi 6), (vs [47, 99, 108, 97, 105, 109, 47, 99, 117, 116, 46, 112, 121] 292)]⟩), ⟨[]⟩⟩
noncomputable def o63 : Obj := ⟨(.type PySem.W.SL.s7174869446012820540x8), none, (fn (st 5) (S [105, 115, 95, 97, 109, 111, 110, 103]) (S [105, 115, 95, 97, 109, 111, 110, 103]) 3 .none .none .none (vs [106, 115, 46, 99, 104, 97, 114, 115] 187) (.ref 62) .none 0), ⟨[]⟩⟩
noncomputable def o64 : Obj := ⟨(.type PySem.W.SL.s2766695959194262286x5), none, (.seq ⟨[]⟩ 0), ⟨[]⟩⟩
noncomputable def o65 : Obj := ⟨.none, none, (.fields ⟨[]⟩), ⟨[]⟩⟩
noncomputable def o66 : Obj := ⟨(.type PySem.W.SL.s2766695959194262286x5), none, (.seq ⟨[(vs [99, 111, 100, 101] 297)]⟩ 0), ⟨[]⟩⟩
noncomputable def o67 : Obj := ⟨(.type PySem.W.SL.s2766695959194262286x5), none, (.seq ⟨[]⟩ 0), ⟨[]⟩⟩
noncomputable def o68 : Obj := ⟨.none, none, (fn (st 6) (S [105, 115, 95, 119, 104, 105, 116, 101]) (S [105, 115, 95, 119, 104, 105, 116, 101]) 0 .none .none .none .none .none .none 0), ⟨[]⟩⟩
noncomputable def o69 : Obj := ⟨(.type PySem.W.SL.s5856160107412720595x4), none, (.fields ⟨[(vs [105, 115, 95, 119, 104, 105, 116, 101] 294), (vs [105, 115, 95, 119, 104, 105, 116, 101] 295), (vs [47, 99, 108, 97, 105, 109, 47, 99, 117, 116, 46, 112, 121] 296), (vi 11), (vi 1), (vi 0), (vi 0), (vi 3), (.ref 64), (.bool true), (vi 181), (.ref 65), .none, (.ref 66), (.ref 67), (.ref 68), (vi 298), (vi 11), (vs [47, 99, 108, 97, 105, 109, 47, 99, 117, 116, 46, 112, 121] 299)]⟩), ⟨[]⟩⟩
noncomputable def o70 : Obj := ⟨(.type PySem.W.SL.s7174869446012820540x8), none, (fn (st 6) (S [105, 115, 95, 119, 104, 105, 116, 101]) (S [105, 115, 95, 119, 104, 105, 116, 101]) 3 .none .none .none (vs [106, 115, 46, 99, 104, 97, 114, 115] 187) (.ref 69) .none 0), ⟨[]⟩⟩
noncomputable def o71 : Obj := ⟨(.type PySem.W.SL.s2766695959194262286x5), none, (.seq ⟨[]⟩ 0), ⟨[]⟩⟩
noncomputable def o72 : Obj := ⟨.none, none, (.fields ⟨[]⟩), ⟨[]⟩⟩
noncomputable def o73 : Obj := ⟨(.type PySem.W.SL.s2766695959194262286x5), none, (.seq ⟨[(vs [99, 111, 100, 101] 304)]⟩ 0), ⟨[]⟩⟩
noncomputable def o74 : Obj := ⟨(.type PySem.W.SL.s2766695959194262286x5), none, (.seq ⟨[]⟩ 0), ⟨[]⟩⟩
noncomputable def o75 : Obj := ⟨.none, none, (fn (st 7) (S [105, 115, 95, 108, 105, 110, 101, 95, 101, 110, 100]) (S [105, 115, 95, 108, 105, 110, 101, 95, 101, 110, 100]) 0 .none .none .none .none .none .none 0), ⟨[]⟩⟩
noncomputable def o76 : Obj := ⟨(.type PySem.W.SL.s5856160107412720595x4), none, (.fields ⟨[(vs [105, 115, 95, 108, 105, 110, 101, 95, 101, 110, 100] 301), (vs [105, 115, 95, 108, 105, 110, 101, 95, 101, 110, 100] 302), (vs [47, 99, 108, 97, 105, 109, 47, 99, 117, 116, 46, 112, 121] 303), (vi 13), (vi 1), (vi 0), (vi 0), (vi 3), (.ref 71), (.bool true), (vi 181), (.ref 72), .none, (.ref 73), (.ref 74), (.ref 75), (vi 305), (vi 13), (vs [47, 99, 108, 97, 105, 109, 47, 99, 117, 116, 46, 112, 121] 306)]⟩), ⟨[]⟩⟩
noncomputable def o77 : Obj := ⟨(.type PySem.W.SL.s7174869446012820540x8), none, (fn (st 7) (S [105, 115, 95, 108, 105, 110, 101, 95, 101, 110, 100]) (S [105, 115, 95, 108, 105, 110, 101, 95, 101, 110, 100]) 3 .none .none .none (vs [106, 115, 46, 99, 104, 97, 114, 115] 187) (.ref 76) .none 0), ⟨[]⟩⟩
noncomputable def o78 : Obj := ⟨(.type PySem.W.SL.s2766695959194262286x5), none, (.seq ⟨[]⟩ 0), ⟨[]⟩⟩
noncomputable def o79 : Obj := ⟨.none, none, (.fields ⟨[]⟩), ⟨[]⟩⟩
noncomputable def o80 : Obj := ⟨(.type PySem.W.SL.s2766695959194262286x5), none, (.seq ⟨[(vs [99, 111, 100, 101] 311)]⟩ 0), ⟨[]⟩⟩
noncomputable def o81 : Obj := ⟨(.type PySem.W.SL.s2766695959194262286x5), none, (.seq ⟨[]⟩ 0), ⟨[]⟩⟩
noncomputable def o82 : Obj := ⟨.none, none, (fn (st 8) (S [105, 115, 95, 100, 105, 103, 105, 116]) (S [105, 115, 95, 100, 105, 103, 105, 116]) 0 .none .none .none .none .none .none 0), ⟨[]⟩⟩
noncomputable def o83 : Obj := ⟨(.type PySem.W.SL.s5856160107412720595x4), none, (.fields ⟨[(vs [105, 115, 95, 100, 105, 103, 105, 116] 308), (vs [105, 115, 95, 100, 105, 103, 105, 116] 309), (vs [47, 99, 108, 97, 105, 109, 47, 99, 117, 116, 46, 112, 121] 310), (vi 15), (vi 1), (vi 0), (vi 0), (vi 3), (.ref 78), (.bool true), (vi 181), (.ref 79), .none, (.ref 80), (.ref 81), (.ref 82), (vi 312), (vi 15), (vs [47, 99, 108, 97, 105, 109, 47, 99, 117, 116, 46, 112, 121] 313)]⟩), ⟨[]⟩⟩
noncomputable def o84 : Obj := ⟨(.type PySem.W.SL.s7174869446012820540x8), none, (fn (st 8) (S [105, 115, 95, 100, 105, 103, 105, 116]) (S [105, 115, 95, 100, 105, 103, 105, 116]) 3 .none .none .none (vs [106, 115, 46, 99, 104, 97, 114, 115] 187) (.ref 83) .none 0), ⟨[]⟩⟩
noncomputable def o85 : Obj := ⟨(.type PySem.W.SL.s2766695959194262286x5), none, (.seq ⟨[]⟩ 0), ⟨[]⟩⟩
noncomputable def o86 : Obj := ⟨.none, none, (.fields ⟨[]⟩), ⟨[]⟩⟩
noncomputable def o87 : Obj := ⟨(.type PySem.W.SL.s2766695959194262286x5), none, (.seq ⟨[(vs [99, 111, 100, 101] 318)]⟩ 0), ⟨[]⟩⟩
noncomputable def o88 : Obj := ⟨(.type PySem.W.SL.s2766695959194262286x5), none, (.seq ⟨[]⟩ 0), ⟨[]⟩⟩
noncomputable def o89 : Obj := ⟨.none, none, (fn (st 9) (S [105, 115, 95, 111, 99, 116, 97, 108, 95, 100, 105, 103, 105, 116]) (S [105, 115, 95, 111, 99, 116, 97, 108, 95, 100, 105, 103, 105, 116]) 0 .none .none .none .none .none .none 0), ⟨[]⟩⟩
noncomputable def o90 : Obj := ⟨(.type PySem.W.SL.s5856160107412720595x4), none, (.fields ⟨[(vs [105, 115, 95, 111, 99, 116, 97, 108, 95, 100, 105, 103, 105, 116] 315), (vs [105, 115, 95, 111, 99, 116, 97, 108, 95, 100, 105, 103, 105, 116] 316), (vs [47, 99, 108, 97, 105, 109, 47, 99, 117, 116, 46, 112, 121] 317), (vi 17), (vi 1), (vi 0), (vi 0), (vi 3), (.ref 85), (.bool true), (vi 181), (.ref 86), .none, (.ref 87), (.ref 88), (.ref 89), (vi 319), (vi 17), (vs [47, 99, 108, 97, 105, 109, 47, 99, 117, 116, 46, 112, 121] 320)]⟩), ⟨[]⟩⟩
noncomputable def o91 : Obj := ⟨(.type PySem.W.SL.s7174869446012820540x8), none, (fn (st 9) (S [105, 115, 95, 111, 99, 116, 97, 108, 95, 100, 105, 103, 105, 116]) (S [105, 115, 95, 111, 99, 116, 97, 108, 95, 100, 105, 103, 105, 116]) 3 .none .none .none (vs [106, 115, 46, 99, 104, 97, 114, 115] 187) (.ref 90) .none 0), ⟨[]⟩⟩
noncomputable def o92 : Obj := ⟨(.type PySem.W.SL.s2766695959194262286x5), none, (.seq ⟨[]⟩ 0), ⟨[]⟩⟩
noncomputable def o93 : Obj := ⟨.none, none, (.fields ⟨[]⟩), ⟨[]⟩⟩
noncomputable def o94 : Obj := ⟨(.type PySem.W.SL.s2766695959194262286x5), none, (.seq ⟨[(vs [99, 111, 100, 101] 325)]⟩ 0), ⟨[]⟩⟩
noncomputable def o95 : Obj := ⟨(.type PySem.W.SL.s2766695959194262286x5), none, (.seq ⟨[]⟩ 0), ⟨[]⟩⟩
noncomputable def o96 : Obj := ⟨.none, none, (fn (st 10) (S [104, 101, 120, 95, 118, 97, 108, 117, 101]) (S [104, 101, 120, 95, 118, 97, 108, 117, 101]) 0 .none .none .none .none .none .none 0), ⟨[]⟩⟩
noncomputable def o97 : Obj := ⟨(.type PySem.W.SL.s5856160107412720595x4), none, (.fields ⟨[(vs [104, 101, 120, 95, 118, 97, 108, 117, 101] 322), (vs [104, 101, 120, 95, 118, 97, 108, 117, 101] 323), (vs [47, 99, 108, 97, 105, 109, 47, 99, 117, 116, 46, 112, 121] 324), (vi 19), (vi 1), (vi 0), (vi 0), (vi 3), (.ref 92), (.bool true), (vi 181), (.ref 93), .none, (.ref 94), (.ref 95), (.ref 96), (vi 326), (vi 19), (vs [47, 99, 108, 97, 105, 109, 47, 99, 117, 116, 46, 112, 121] 327)]⟩), ⟨[]⟩⟩
noncomputable def o98 : Obj := ⟨(.type PySem.W.SL.s7174869446012820540x8), none, (fn (st 10) (S [104, 101, 120, 95, 118, 97, 108, 117, 101]) (S [104, 101, 120, 95, 118, 97, 108, 117, 101]) 3 .none .none .none (vs [106, 115, 46, 99, 104, 97, 114, 115] 187) (.ref 97) .none 0), ⟨[]⟩⟩
noncomputable def o99 : Obj := ⟨(.type PySem.W.SL.s2766695959194262286x5), none, (.seq ⟨[]⟩ 0), ⟨[]⟩⟩
noncomputable def o100 : Obj := ⟨.none, none, (.fields ⟨[]⟩), ⟨[]⟩⟩
noncomputable def o101 : Obj := ⟨(.type PySem.W.SL.s2766695959194262286x5), none, (.seq ⟨[(vs [99, 111, 100, 101] 332)]⟩ 0), ⟨[]⟩⟩
noncomputable def o102 : Obj := ⟨(.type PySem.W.SL.s2766695959194262286x5), none, (.seq ⟨[]⟩ 0), ⟨[]⟩⟩
noncomputable def o103 : Obj := ⟨.none, none, (fn (st 11) (S [105, 115, 95, 105, 100, 95, 115, 116, 97, 114, 116]) (S [105, 115, 95, 105, 100, 95, 115, 116, 97, 114, 116]) 0 .none .none .none .none .none .none 0), ⟨[]⟩⟩
noncomputable def o104 : Obj := ⟨(.type PySem.W.SL.s5856160107412720595x4), none, (.fields ⟨[(vs [105, 115, 95, 105, 100, 95, 115, 116, 97, 114, 116] 329), (vs [105, 115, 95, 105, 100, 95, 115, 116, 97, 114, 116] 330), (vs [47, 99, 108, 97, 105, 109, 47, 99, 117, 116, 46, 112, 121] 331), (vi 25), (vi 1), (vi 0), (vi 0), (vi 3), (.ref 99), (.bool true), (vi 181), (.ref 100), .none, (.ref 101), (.ref 102), (.ref 103), (vi 333), (vi 25), (vs [47, 99, 108, 97, 105, 109, 47, 99, 117, 116, 46, 112, 121] 334)]⟩), ⟨[]⟩⟩
noncomputable def o105 : Obj := ⟨(.type PySem.W.SL.s7174869446012820540x8), none, (fn (st 11) (S [105, 115, 95, 105, 100, 95, 115, 116, 97, 114, 116]) (S [105, 115, 95, 105, 100, 95, 115, 116, 97, 114, 116]) 3 .none .none .none (vs [106, 115, 46, 99, 104, 97, 114, 115] 187) (.ref 104) .none 0), ⟨[]⟩⟩
noncomputable def o106 : Obj := ⟨(.type PySem.W.SL.s2766695959194262286x5), none, (.seq ⟨[]⟩ 0), ⟨[]⟩⟩
noncomputable def o107 : Obj := ⟨.none, none, (.fields ⟨[]⟩), ⟨[]⟩⟩
noncomputable def o108 : Obj := ⟨(.type PySem.W.SL.s2766695959194262286x5), none, (.seq ⟨[(vs [99, 111, 100, 101] 339)]⟩ 0), ⟨[]⟩⟩
noncomputable def o109 : Obj := ⟨(.type PySem.W.SL.s2766695959194262286x5), none, (.seq ⟨[]⟩ 0), ⟨[]⟩⟩
noncomputable def o110 : Obj := ⟨.none, none, (fn (st 12) (S [105, 115, 95, 105, 100, 95, 112, 97, 114, 116]) (S [105, 115, 95, 105, 100, 95, 112, 97, 114, 116]) 0 .none .none .none .none .none .none 0), ⟨[]⟩⟩
noncomputable def o111 : Obj := ⟨(.type PySem.W.SL.s5856160107412720595x4), none, (.fields ⟨[(vs [105, 115, 95, 105, 100, 95, 112, 97, 114, 116] 336), (vs [105, 115, 95, 105, 100, 95, 112, 97, 114, 116] 337), (vs [47, 99, 108, 97, 105, 109, 47, 99, 117, 116, 46, 112, 121] 338), (vi 29), (vi 1), (vi 0), (vi 0), (vi 3), (.ref 106), (.bool true), (vi 181), (.ref 107), .none, (.ref 108), (.ref 109), (.ref 110), (vi 340), (vi 29), (vs [47, 99, 108, 97, 105, 109, 47, 99, 117, 116, 46, 112, 121] 341)]⟩), ⟨[]⟩⟩
noncomputable def o112 : Obj := ⟨(.type PySem.W.SL.s7174869446012820540x8), none, (fn (st 12) (S [105, 115, 95, 105, 100, 95, 112, 97, 114, 116]) (S [105, 115, 95, 105, 100, 95, 112, 97, 114, 116]) 3 .none .none .none (vs [106, 115, 46, 99, 104, 97, 114, 115] 187) (.ref 111) .none 0), ⟨[]⟩⟩
noncomputable def o113 : Obj := ⟨(.type PySem.W.SL.s2766695959194262286x5), none, (.seq ⟨[]⟩ 0), ⟨[]⟩⟩
noncomputable def o114 : Obj := ⟨.none, none, (.fields ⟨[]⟩), ⟨[]⟩⟩
noncomputable def o115 : Obj := ⟨(.type PySem.W.SL.s2766695959194262286x5), none, (.seq ⟨[(vs [110] 371), (vs [109, 97, 110, 121] 372), (vs [115, 116, 101, 112] 373)]⟩ 0), ⟨[]⟩⟩
noncomputable def o116 : Obj := ⟨(.type PySem.W.SL.s2766695959194262286x5), none, (.seq ⟨[]⟩ 0), ⟨[]⟩⟩
noncomputable def o117 : Obj := ⟨.none, none, (fn (st 22) (S [119, 105, 100, 116, 104]) (S [119, 105, 100, 116, 104]) 0 .none .none .none .none .none .none 0), ⟨[]⟩⟩
noncomputable def o118 : Obj := ⟨(.type PySem.W.SL.s5856160107412720595x4), none, (.fields ⟨[(vs [119, 105, 100, 116, 104] 368), (vs [119, 105, 100, 116, 104] 369), (vs [47, 99, 108, 97, 105, 109, 47, 99, 117, 116, 46, 112, 121] 370), (vi 40), (vi 1), (vi 0), (vi 0), (vi 3), (.ref 113), (.bool true), (vi 181), (.ref 114), .none, (.ref 115), (.ref 116), (.ref 117), (vi 374), (vi 40), (vs [47, 99, 108, 97, 105, 109, 47, 99, 117, 116, 46, 112, 121] 375)]⟩), ⟨[]⟩⟩
noncomputable def o119 : Obj := ⟨(.type PySem.W.SL.s7174869446012820540x8), none, (fn (st 22) (S [119, 105, 100, 116, 104]) (S [119, 105, 100, 116, 104]) 3 .none .none .none (vs [106, 115, 46, 100, 98, 105, 116, 115] 343) (.ref 118) .none 0), ⟨[]⟩⟩
noncomputable def o120 : Obj := ⟨(.type PySem.W.SL.s2766695959194262286x5), none, (.seq ⟨[]⟩ 0), ⟨[]⟩⟩
noncomputable def o121 : Obj := ⟨.none, none, (.fields ⟨[]⟩), ⟨[]⟩⟩
noncomputable def o122 : Obj := ⟨(.type PySem.W.SL.s2766695959194262286x5), none, (.seq ⟨[(vs [115, 105, 103, 110] 380), (vs [101, 120, 112, 111, 110, 101, 110, 116] 381), (vs [102, 114, 97, 99, 116, 105, 111, 110] 382)]⟩ 0), ⟨[]⟩⟩
noncomputable def o123 : Obj := ⟨(.type PySem.W.SL.s2766695959194262286x5), none, (.seq ⟨[]⟩ 0), ⟨[]⟩⟩
noncomputable def o124 : Obj := ⟨.none, none, (fn (st 23) (S [112, 97, 99, 107]) (S [112, 97, 99, 107]) 0 .none .none .none .none .none .none 0), ⟨[]⟩⟩
noncomputable def o125 : Obj := ⟨(.type PySem.W.SL.s5856160107412720595x4), none, (.fields ⟨[(vs [112, 97, 99, 107] 377), (vs [112, 97, 99, 107] 378), (vs [47, 99, 108, 97, 105, 109, 47, 99, 117, 116, 46, 112, 121] 379), (vi 50), (vi 3), (vi 0), (vi 0), (vi 3), (.ref 120), (.bool true), (vi 181), (.ref 121), .none, (.ref 122), (.ref 123), (.ref 124), (vi 383), (vi 50), (vs [47, 99, 108, 97, 105, 109, 47, 99, 117, 116, 46, 112, 121] 384)]⟩), ⟨[]⟩⟩
noncomputable def o126 : Obj := ⟨(.type PySem.W.SL.s7174869446012820540x8), none, (fn (st 23) (S [112, 97, 99, 107]) (S [112, 97, 99, 107]) 3 .none .none .none (vs [106, 115, 46, 100, 98, 105, 116, 115] 343) (.ref 125) .none 0), ⟨[]⟩⟩
noncomputable def o127 : Obj := ⟨(.type PySem.W.SL.s2766695959194262286x5), none, (.seq ⟨[]⟩ 0), ⟨[]⟩⟩
noncomputable def o128 : Obj := ⟨.none, none, (.fields ⟨[]⟩), ⟨[]⟩⟩
noncomputable def o129 : Obj := ⟨(.type PySem.W.SL.s2766695959194262286x5), none, (.seq ⟨[(vs [115, 105, 103, 110] 389), (vs [98, 105, 116, 115] 390)]⟩ 0), ⟨[]⟩⟩
noncomputable def o130 : Obj := ⟨(.type PySem.W.SL.s2766695959194262286x5), none, (.seq ⟨[]⟩ 0), ⟨[]⟩⟩
noncomputable def o131 : Obj := ⟨.none, none, (fn (st 24) (S [115, 105, 103, 110, 101, 100]) (S [115, 105, 103, 110, 101, 100]) 0 .none .none .none .none .none .none 0), ⟨[]⟩⟩
noncomputable def o132 : Obj := ⟨(.type PySem.W.SL.s5856160107412720595x4), none, (.fields ⟨[(vs [115, 105, 103, 110, 101, 100] 386), (vs [115, 105, 103, 110, 101, 100] 387), (vs [47, 99, 108, 97, 105, 109, 47, 99, 117, 116, 46, 112, 121] 388), (vi 52), (vi 2), (vi 0), (vi 0), (vi 3), (.ref 127), (.bool true), (vi 181), (.ref 128), .none, (.ref 129), (.ref 130), (.ref 131), (vi 391), (vi 52), (vs [47, 99, 108, 97, 105, 109, 47, 99, 117, 116, 46, 112, 121] 392)]⟩), ⟨[]⟩⟩
noncomputable def o133 : Obj := ⟨(.type PySem.W.SL.s7174869446012820540x8), none, (fn (st 24) (S [115, 105, 103, 110, 101, 100]) (S [115, 105, 103, 110, 101, 100]) 3 .none .none .none (vs [106, 115, 46, 100, 98, 105, 116, 115] 343) (.ref 132) .none 0), ⟨[]⟩⟩
noncomputable def o134 : Obj := ⟨(.type PySem.W.SL.s2766695959194262286x5), none, (.seq ⟨[]⟩ 0), ⟨[]⟩⟩
noncomputable def o135 : Obj := ⟨.none, none, (.fields ⟨[]⟩), ⟨[]⟩⟩
noncomputable def o136 : Obj := ⟨(.type PySem.W.SL.s2766695959194262286x5), none, (.seq ⟨[(vs [116, 111, 112] 397), (vs [98, 111, 116, 116, 111, 109] 398), (vs [112, 111, 119, 101, 114] 399)]⟩ 0), ⟨[]⟩⟩
noncomputable def o137 : Obj := ⟨(.type PySem.W.SL.s2766695959194262286x5), none, (.seq ⟨[]⟩ 0), ⟨[]⟩⟩
noncomputable def o138 : Obj := ⟨.none, none, (fn (st 25) (S [113, 117, 111, 116, 105, 101, 110, 116]) (S [113, 117, 111, 116, 105, 101, 110, 116]) 0 .none .none .none .none .none .none 0), ⟨[]⟩⟩
noncomputable def o139 : Obj := ⟨(.type PySem.W.SL.s5856160107412720595x4), none, (.fields ⟨[(vs [113, 117, 111, 116, 105, 101, 110, 116] 394), (vs [113, 117, 111, 116, 105, 101, 110, 116] 395), (vs [47, 99, 108, 97, 105, 109, 47, 99, 117, 116, 46, 112, 121] 396), (vi 54), (vi 3), (vi 0), (vi 0), (vi 3), (.ref 134), (.bool true), (vi 181), (.ref 135), .none, (.ref 136), (.ref 137), (.ref 138), (vi 400), (vi 54), (vs [47, 99, 108, 97, 105, 109, 47, 99, 117, 116, 46, 112, 121] 401)]⟩), ⟨[]⟩⟩
noncomputable def o140 : Obj := ⟨(.type PySem.W.SL.s7174869446012820540x8), none, (fn (st 25) (S [113, 117, 111, 116, 105, 101, 110, 116]) (S [113, 117, 111, 116, 105, 101, 110, 116]) 3 .none .none .none (vs [106, 115, 46, 100, 98, 105, 116, 115] 343) (.ref 139) .none 0), ⟨[]⟩⟩
noncomputable def o141 : Obj := ⟨(.type PySem.W.SL.s2766695959194262286x5), none, (.seq ⟨[]⟩ 0), ⟨[]⟩⟩
noncomputable def o142 : Obj := ⟨.none, none, (.fields ⟨[]⟩), ⟨[]⟩⟩
noncomputable def o143 : Obj := ⟨(.type PySem.W.SL.s2766695959194262286x5), none, (.seq ⟨[(vs [115, 105, 103, 110] 406), (vs [116, 111, 112] 407), (vs [98, 111, 116, 116, 111, 109] 408), (vs [112, 111, 119, 101, 114] 409), (vs [119, 104, 111, 108, 101] 410), (vs [114, 101, 115, 116] 411), (vs [117, 110, 105, 116] 412)]⟩ 0), ⟨[]⟩⟩
noncomputable def o144 : Obj := ⟨(.type PySem.W.SL.s2766695959194262286x5), none, (.seq ⟨[]⟩ 0), ⟨[]⟩⟩
noncomputable def o145 : Obj := ⟨.none, none, (fn (st 26) (S [114, 111, 117, 110, 100, 95, 114, 97, 116, 105, 111]) (S [114, 111, 117, 110, 100, 95, 114, 97, 116, 105, 111]) 0 .none .none .none .none .none .none 0), ⟨[]⟩⟩
noncomputable def o146 : Obj := ⟨(.type PySem.W.SL.s5856160107412720595x4), none, (.fields ⟨[(vs [114, 111, 117, 110, 100, 95, 114, 97, 116, 105, 111] 403), (vs [114, 111, 117, 110, 100, 95, 114, 97, 116, 105, 111] 404), (vs [47, 99, 108, 97, 105, 109, 47, 99, 117, 116, 46, 112, 121] 405), (vi 60), (vi 3), (vi 0), (vi 0), (vi 3), (.ref 141), (.bool true), (vi 181), (.ref 142), .none, (.ref 143), (.ref 144), (.ref 145), (vi 413), (vi 60), (vs [47, 99, 108, 97, 105, 109, 47, 99, 117, 116, 46, 112, 121] 414)]⟩), ⟨[]⟩⟩
noncomputable def o147 : Obj := ⟨(.type PySem.W.SL.s7174869446012820540x8), none, (fn (st 26) (S [114, 111, 117, 110, 100, 95, 114, 97, 116, 105, 111]) (S [114, 111, 117, 110, 100, 95, 114, 97, 116, 105, 111]) 3 .none .none .none (vs [106, 115, 46, 100, 98, 105, 116, 115] 343) (.ref 146) .none 0), ⟨[]⟩⟩
noncomputable def o148 : Obj := ⟨(.type PySem.W.SL.s2766695959194262286x5), none, (.seq ⟨[]⟩ 0), ⟨[]⟩⟩
noncomputable def o149 : Obj := ⟨.none, none, (.fields ⟨[]⟩), ⟨[]⟩⟩
noncomputable def o150 : Obj := ⟨(.type PySem.W.SL.s2766695959194262286x5), none, (.seq ⟨[(vs [115, 105, 103, 110] 419), (vs [119, 104, 111, 108, 101] 420), (vs [112, 111, 119, 101, 114] 421), (vs [101, 120, 112, 111, 110, 101, 110, 116] 422)]⟩ 0), ⟨[]⟩⟩
noncomputable def o151 : Obj := ⟨(.type PySem.W.SL.s2766695959194262286x5), none, (.seq ⟨[]⟩ 0), ⟨[]⟩⟩
noncomputable def o152 : Obj := ⟨.none, none, (fn (st 27) (S [97, 115, 115, 101, 109, 98, 108, 101, 100]) (S [97, 115, 115, 101, 109, 98, 108, 101, 100]) 0 .none .none .none .none .none .none 0), ⟨[]⟩⟩
noncomputable def o153 : Obj := ⟨(.type PySem.W.SL.s5856160107412720595x4), none, (.fields ⟨[(vs [97, 115, 115, 101, 109, 98, 108, 101, 100] 416), (vs [97, 115, 115, 101, 109, 98, 108, 101, 100] 417), (vs [47, 99, 108, 97, 105, 109, 47, 99, 117, 116, 46, 112, 121] 418), (vi 71), (vi 3), (vi 0), (vi 0), (vi 3), (.ref 148), (.bool true), (vi 181), (.ref 149), .none, (.ref 150), (.ref 151), (.ref 152), (vi 423), (vi 71), (vs [47, 99, 108, 97, 105, 109, 47, 99, 117, 116, 46, 112, 121] 424)]⟩), ⟨[]⟩⟩
noncomputable def o154 : Obj := ⟨(.type PySem.W.SL.s7174869446012820540x8), none, (fn (st 27) (S [97, 115, 115, 101, 109, 98, 108, 101, 100]) (S [97, 115, 115, 101, 109, 98, 108, 101, 100]) 3 .none .none .none (vs [106, 115, 46, 100, 98, 105, 116, 115] 343) (.ref 153) .none 0), ⟨[]⟩⟩
noncomputable def o155 : Obj := ⟨(.type PySem.W.SL.s2766695959194262286x5), none, (.seq ⟨[]⟩ 0), ⟨[]⟩⟩
noncomputable def o156 : Obj := ⟨.none, none, (.fields ⟨[]⟩), ⟨[]⟩⟩
noncomputable def o157 : Obj := ⟨(.type PySem.W.SL.s2766695959194262286x5), none, (.seq ⟨[(vs [110] 429)]⟩ 0), ⟨[]⟩⟩
noncomputable def o158 : Obj := ⟨(.type PySem.W.SL.s2766695959194262286x5), none, (.seq ⟨[]⟩ 0), ⟨[]⟩⟩
noncomputable def o159 : Obj := ⟨.none, none, (fn (st 28) (S [102, 114, 111, 109, 95, 105, 110, 116]) (S [102, 114, 111, 109, 95, 105, 110, 116]) 0 .none .none .none .none .none .none 0), ⟨[]⟩⟩
noncomputable def o160 : Obj := ⟨(.type PySem.W.SL.s5856160107412720595x4), none, (.fields ⟨[(vs [102, 114, 111, 109, 95, 105, 110, 116] 426), (vs [102, 114, 111, 109, 95, 105, 110, 116] 427), (vs [47, 99, 108, 97, 105, 109, 47, 99, 117, 116, 46, 112, 121] 428), (vi 80), (vi 1), (vi 0), (vi 0), (vi 3), (.ref 155), (.bool true), (vi 181), (.ref 156), .none, (.ref 157), (.ref 158), (.ref 159), (vi 430), (vi 80), (vs [47, 99, 108, 97, 105, 109, 47, 99, 117, 116, 46, 112, 121] 431)]⟩), ⟨[]⟩⟩
noncomputable def o161 : Obj := ⟨(.type PySem.W.SL.s7174869446012820540x8), none, (fn (st 28) (S [102, 114, 111, 109, 95, 105, 110, 116]) (S [102, 114, 111, 109, 95, 105, 110, 116]) 3 .none .none .none (vs [106, 115, 46, 100, 98, 105, 116, 115] 343) (.ref 160) .none 0), ⟨[]⟩⟩
noncomputable def o162 (P : Params) : Obj := ⟨(.type PySem.W.SL.s14018661285674007319x4), none, (.dict ⟨[de P [98] 435 (vj 8 436), de P [116] 437 (vj 9 438), de P [110] 439 (vj 10 440), de P [118] 441 (vj 11 442), de P [102] 443 (vj 12 444), de P [114] 445 (vj 13 446)]⟩ 6), ⟨[]⟩⟩
noncomputable def o163 : Obj := ⟨(.type PySem.W.SL.s2766695959194262286x5), none, (.seq ⟨[]⟩ 0), ⟨[]⟩⟩
noncomputable def o164 : Obj := ⟨.none, none, (.fields ⟨[]⟩), ⟨[]⟩⟩
noncomputable def o165 : Obj := ⟨(.type PySem.W.SL.s2766695959194262286x5), none, (.seq ⟨[(vs [116, 101, 120, 116] 457), (vs [97, 116] 458)]⟩ 0), ⟨[]⟩⟩
noncomputable def o166 : Obj := ⟨(.type PySem.W.SL.s2766695959194262286x5), none, (.seq ⟨[]⟩ 0), ⟨[]⟩⟩
noncomputable def o167 : Obj := ⟨.none, none, (fn (st 31) (S [99, 111, 100, 101, 95, 97, 116]) (S [99, 111, 100, 101, 95, 97, 116]) 0 .none .none .none .none .none .none 0), ⟨[]⟩⟩
noncomputable def o168 : Obj := ⟨(.type PySem.W.SL.s5856160107412720595x4), none, (.fields ⟨[(vs [99, 111, 100, 101, 95, 97, 116] 454), (vs [99, 111, 100, 101, 95, 97, 116] 455), (vs [47, 99, 108, 97, 105, 109, 47, 99, 117, 116, 46, 112, 121] 456), (vi 84), (vi 2), (vi 0), (vi 0), (vi 3), (.ref 163), (.bool true), (vi 181), (.ref 164), .none, (.ref 165), (.ref 166), (.ref 167), (vi 459), (vi 84), (vs [47, 99, 108, 97, 105, 109, 47, 99, 117, 116, 46, 112, 121] 460)]⟩), ⟨[]⟩⟩
noncomputable def o169 : Obj := ⟨(.type PySem.W.SL.s7174869446012820540x8), none, (fn (st 31) (S [99, 111, 100, 101, 95, 97, 116]) (S [99, 111, 100, 101, 95, 97, 116]) 3 .none .none .none (vs [106, 115, 46, 101, 115, 99, 97, 112, 101, 115] 433) (.ref 168) .none 0), ⟨[]⟩⟩
noncomputable def o170 : Obj := ⟨(.type PySem.W.SL.s2766695959194262286x5), none, (.seq ⟨[]⟩ 0), ⟨[]⟩⟩
noncomputable def o171 : Obj := ⟨.none, none, (.fields ⟨[]⟩), ⟨[]⟩⟩
noncomputable def o172 : Obj := ⟨(.type PySem.W.SL.s2766695959194262286x5), none, (.seq ⟨[(vs [116, 101, 120, 116] 465), (vs [97, 116] 466), (vs [109, 97, 110, 121] 467), (vs [118, 97, 108, 117, 101] 468), (vs [115, 116, 101, 112] 469), (vs [102, 105, 103, 117, 114, 101] 470)]⟩ 0), ⟨[]⟩⟩
noncomputable def o173 : Obj := ⟨(.type PySem.W.SL.s2766695959194262286x5), none, (.seq ⟨[]⟩ 0), ⟨[]⟩⟩
noncomputable def o174 : Obj := ⟨.none, none, (fn (st 32) (S [104, 101, 120, 95, 97, 116]) (S [104, 101, 120, 95, 97, 116]) 0 .none .none .none .none .none .none 0), ⟨[]⟩⟩
noncomputable def o175 : Obj := ⟨(.type PySem.W.SL.s5856160107412720595x4), none, (.fields ⟨[(vs [104, 101, 120, 95, 97, 116] 462), (vs [104, 101, 120, 95, 97, 116] 463), (vs [47, 99, 108, 97, 105, 109, 47, 99, 117, 116, 46, 112, 121] 464), (vi 86), (vi 3), (vi 0), (vi 0), (vi 3), (.ref 170), (.bool true), (vi 181), (.ref 171), .none, (.ref 172), (.ref 173), (.ref 174), (vi 471), (vi 86), (vs [47, 99, 108, 97, 105, 109, 47, 99, 117, 116, 46, 112, 121] 472)]⟩), ⟨[]⟩⟩
noncomputable def o176 : Obj := ⟨(.type PySem.W.SL.s7174869446012820540x8), none, (fn (st 32) (S [104, 101, 120, 95, 97, 116]) (S [104, 101, 120, 95, 97, 116]) 3 .none .none .none (vs [106, 115, 46, 101, 115, 99, 97, 112, 101, 115] 433) (.ref 175) .none 0), ⟨[]⟩⟩
noncomputable def o177 : Obj := ⟨(.type PySem.W.SL.s2766695959194262286x5), none, (.seq ⟨[]⟩ 0), ⟨[]⟩⟩
noncomputable def o178 : Obj := ⟨.none, none, (.fields ⟨[]⟩), ⟨[]⟩⟩
noncomputable def o179 : Obj := ⟨(.type PySem.W.SL.s2766695959194262286x5), none, (.seq ⟨[(vs [116, 101, 120, 116] 477), (vs [97, 116] 478)]⟩ 0), ⟨[]⟩⟩
noncomputable def o180 : Obj := ⟨(.type PySem.W.SL.s2766695959194262286x5), none, (.seq ⟨[]⟩ 0), ⟨[]⟩⟩
noncomputable def o181 : Obj := ⟨.none, none, (fn (st 33) (S [108, 105, 110, 101, 95, 101, 110, 100, 95, 115, 105, 122, 101]) (S [108, 105, 110, 101, 95, 101, 110, 100, 95, 115, 105, 122, 101]) 0 .none .none .none .none .none .none 0), ⟨[]⟩⟩
noncomputable def o182 : Obj := ⟨(.type PySem.W.SL.s5856160107412720595x4), none, (.fields ⟨[(vs [108, 105, 110, 101, 95, 101, 110, 100, 95, 115, 105, 122, 101] 474), (vs [108, 105, 110, 101, 95, 101, 110, 100, 95, 115, 105, 122, 101] 475), (vs [47, 99, 108, 97, 105, 109, 47, 99, 117, 116, 46, 112, 121] 476), (vi 94), (vi 2), (vi 0), (vi 0), (vi 3), (.ref 177), (.bool true), (vi 181), (.ref 178), .none, (.ref 179), (.ref 180), (.ref 181), (vi 479), (vi 94), (vs [47, 99, 108, 97, 105, 109, 47, 99, 117, 116, 46, 112, 121] 480)]⟩), ⟨[]⟩⟩
noncomputable def o183 : Obj := ⟨(.type PySem.W.SL.s7174869446012820540x8), none, (fn (st 33) (S [108, 105, 110, 101, 95, 101, 110, 100, 95, 115, 105, 122, 101]) (S [108, 105, 110, 101, 95, 101, 110, 100, 95, 115, 105, 122, 101]) 3 .none .none .none (vs [106, 115, 46, 101, 115, 99, 97, 112, 101, 115] 433) (.ref 182) .none 0), ⟨[]⟩⟩
noncomputable def o184 : Obj := ⟨(.type PySem.W.SL.s2766695959194262286x5), none, (.seq ⟨[]⟩ 0), ⟨[]⟩⟩
noncomputable def o185 : Obj := ⟨.none, none, (.fields ⟨[]⟩), ⟨[]⟩⟩
noncomputable def o186 : Obj := ⟨(.type PySem.W.SL.s2766695959194262286x5), none, (.seq ⟨[(vs [116, 101, 120, 116] 485), (vs [97, 116] 486), (vs [109, 111, 115, 116] 487), (vs [109, 97, 110, 121] 488), (vs [118, 97, 108, 117, 101] 489)]⟩ 0), ⟨[]⟩⟩
noncomputable def o187 : Obj := ⟨(.type PySem.W.SL.s2766695959194262286x5), none, (.seq ⟨[]⟩ 0), ⟨[]⟩⟩
noncomputable def o188 : Obj := ⟨.none, none, (fn (st 34) (S [111, 99, 116, 97, 108, 95, 101, 115, 99, 97, 112, 101]) (S [111, 99, 116, 97, 108, 95, 101, 115, 99, 97, 112, 101]) 0 .none .none .none .none .none .none 0), ⟨[]⟩⟩
noncomputable def o189 : Obj := ⟨(.type PySem.W.SL.s5856160107412720595x4), none, (.fields ⟨[(vs [111, 99, 116, 97, 108, 95, 101, 115, 99, 97, 112, 101] 482), (vs [111, 99, 116, 97, 108, 95, 101, 115, 99, 97, 112, 101] 483), (vs [47, 99, 108, 97, 105, 109, 47, 99, 117, 116, 46, 112, 121] 484), (vi 96), (vi 2), (vi 0), (vi 0), (vi 3), (.ref 184), (.bool true), (vi 181), (.ref 185), .none, (.ref 186), (.ref 187), (.ref 188), (vi 490), (vi 96), (vs [47, 99, 108, 97, 105, 109, 47, 99, 117, 116, 46, 112, 121] 491)]⟩), ⟨[]⟩⟩
noncomputable def o190 : Obj := ⟨(.type PySem.W.SL.s7174869446012820540x8), none, (fn (st 34) (S [111, 99, 116, 97, 108, 95, 101, 115, 99, 97, 112, 101]) (S [111, 99, 116, 97, 108, 95, 101, 115, 99, 97, 112, 101]) 3 .none .none .none (vs [106, 115, 46, 101, 115, 99, 97, 112, 101, 115] 433) (.ref 189) .none 0), ⟨[]⟩⟩
noncomputable def o191 : Obj := ⟨(.type PySem.W.SL.s2766695959194262286x5), none, (.seq ⟨[]⟩ 0), ⟨[]⟩⟩
noncomputable def o192 : Obj := ⟨.none, none, (.fields ⟨[]⟩), ⟨[]⟩⟩
noncomputable def o193 : Obj := ⟨(.type PySem.W.SL.s2766695959194262286x5), none, (.seq ⟨[(vs [116, 101, 120, 116] 496), (vs [97, 116] 497), (vs [99, 111, 100, 101] 498), (vs [109, 97, 110, 121] 499), (vs [118, 97, 108, 117, 101] 500), (vs [102, 111, 117, 110, 100] 501), (vs [115, 105, 103, 110] 502)]⟩ 0), ⟨[]⟩⟩
noncomputable def o194 : Obj := ⟨(.type PySem.W.SL.s2766695959194262286x5), none, (.seq ⟨[]⟩ 0), ⟨[]⟩⟩
noncomputable def o195 : Obj := ⟨.none, none, (fn (st 35) (S [114, 101, 97, 100, 95, 101, 115, 99, 97, 112, 101]) (S [114, 101, 97, 100, 95, 101, 115, 99, 97, 112, 101]) 0 .none .none .none .none .none .none 0), ⟨[]⟩⟩
noncomputable def o196 : Obj := ⟨(.type PySem.W.SL.s5856160107412720595x4), none, (.fields ⟨[(vs [114, 101, 97, 100, 95, 101, 115, 99, 97, 112, 101] 493), (vs [114, 101, 97, 100, 95, 101, 115, 99, 97, 112, 101] 494), (vs [47, 99, 108, 97, 105, 109, 47, 99, 117, 116, 46, 112, 121] 495), (vi 105), (vi 2), (vi 0), (vi 0), (vi 3), (.ref 191), (.bool true), (vi 181), (.ref 192), .none, (.ref 193), (.ref 194), (.ref 195), (vi 503), (vi 105), (vs [47, 99, 108, 97, 105, 109, 47, 99, 117, 116, 46, 112, 121] 504)]⟩), ⟨[]⟩⟩
noncomputable def o197 : Obj := ⟨(.type PySem.W.SL.s7174869446012820540x8), none, (fn (st 35) (S [114, 101, 97, 100, 95, 101, 115, 99, 97, 112, 101]) (S [114, 101, 97, 100, 95, 101, 115, 99, 97, 112, 101]) 3 .none .none .none (vs [106, 115, 46, 101, 115, 99, 97, 112, 101, 115] 433) (.ref 196) .none 0), ⟨[]⟩⟩
noncomputable def o198 : Obj := ⟨(.type PySem.W.SL.s2766695959194262286x5), none, (.seq ⟨[]⟩ 0), ⟨[]⟩⟩
noncomputable def o199 : Obj := ⟨.none, none, (.fields ⟨[]⟩), ⟨[]⟩⟩
noncomputable def o200 : Obj := ⟨(.type PySem.W.SL.s2766695959194262286x5), none, (.seq ⟨[(vs [115, 105, 103, 110] 513)]⟩ 0), ⟨[]⟩⟩
noncomputable def o201 : Obj := ⟨(.type PySem.W.SL.s2766695959194262286x5), none, (.seq ⟨[]⟩ 0), ⟨[]⟩⟩
noncomputable def o202 : Obj := ⟨.none, none, (fn (st 38) (S [102, 105, 103, 117, 114, 101, 95, 111, 102]) (S [102, 105, 103, 117, 114, 101, 95, 111, 102]) 0 .none .none .none .none .none .none 0), ⟨[]⟩⟩
noncomputable def o203 : Obj := ⟨(.type PySem.W.SL.s5856160107412720595x4), none, (.fields ⟨[(vs [102, 105, 103, 117, 114, 101, 95, 111, 102] 510), (vs [102, 105, 103, 117, 114, 101, 95, 111, 102] 511), (vs [47, 99, 108, 97, 105, 109, 47, 99, 117, 116, 46, 112, 121] 512), (vi 126), (vi 1), (vi 0), (vi 0), (vi 3), (.ref 198), (.bool true), (vi 181), (.ref 199), .none, (.ref 200), (.ref 201), (.ref 202), (vi 514), (vi 126), (vs [47, 99, 108, 97, 105, 109, 47, 99, 117, 116, 46, 112, 121] 515)]⟩), ⟨[]⟩⟩
noncomputable def o204 : Obj := ⟨(.type PySem.W.SL.s7174869446012820540x8), none, (fn (st 38) (S [102, 105, 103, 117, 114, 101, 95, 111, 102]) (S [102, 105, 103, 117, 114, 101, 95, 111, 102]) 3 .none .none .none (vs [106, 115, 46, 110, 117, 109, 112, 97, 114, 115, 101] 506) (.ref 203) .none 0), ⟨[]⟩⟩
noncomputable def o205 : Obj := ⟨(.type PySem.W.SL.s2766695959194262286x5), none, (.seq ⟨[]⟩ 0), ⟨[]⟩⟩
noncomputable def o206 : Obj := ⟨.none, none, (.fields ⟨[]⟩), ⟨[]⟩⟩
noncomputable def o207 : Obj := ⟨(.type PySem.W.SL.s2766695959194262286x5), none, (.seq ⟨[(vs [116, 101, 120, 116] 520), (vs [98, 101, 103, 105, 110] 521), (vs [101, 110, 100] 522), (vs [114, 97, 100, 105, 120] 523), (vs [102, 111, 117, 110, 100] 524), (vs [97, 116] 525)]⟩ 0), ⟨[]⟩⟩
noncomputable def o208 : Obj := ⟨(.type PySem.W.SL.s2766695959194262286x5), none, (.seq ⟨[]⟩ 0), ⟨[]⟩⟩
noncomputable def o209 : Obj := ⟨.none, none, (fn (st 39) (S [119, 111, 114, 116, 104]) (S [119, 111, 114, 116, 104]) 0 .none .none .none .none .none .none 0), ⟨[]⟩⟩
noncomputable def o210 : Obj := ⟨(.type PySem.W.SL.s5856160107412720595x4), none, (.fields ⟨[(vs [119, 111, 114, 116, 104] 517), (vs [119, 111, 114, 116, 104] 518), (vs [47, 99, 108, 97, 105, 109, 47, 99, 117, 116, 46, 112, 121] 519), (vi 132), (vi 4), (vi 0), (vi 0), (vi 3), (.ref 205), (.bool true), (vi 181), (.ref 206), .none, (.ref 207), (.ref 208), (.ref 209), (vi 526), (vi 132), (vs [47, 99, 108, 97, 105, 109, 47, 99, 117, 116, 46, 112, 121] 527)]⟩), ⟨[]⟩⟩
noncomputable def o211 : Obj := ⟨(.type PySem.W.SL.s7174869446012820540x8), none, (fn (st 39) (S [119, 111, 114, 116, 104]) (S [119, 111, 114, 116, 104]) 3 .none .none .none (vs [106, 115, 46, 110, 117, 109, 112, 97, 114, 115, 101] 506) (.ref 210) .none 0), ⟨[]⟩⟩
noncomputable def o212 : Obj := ⟨(.type PySem.W.SL.s2766695959194262286x5), none, (.seq ⟨[]⟩ 0), ⟨[]⟩⟩
noncomputable def o213 : Obj := ⟨.none, none, (.fields ⟨[]⟩), ⟨[]⟩⟩
noncomputable def o214 : Obj := ⟨(.type PySem.W.SL.s2766695959194262286x5), none, (.seq ⟨[(vs [102, 105, 103, 117, 114, 101, 115] 532), (vs [101, 120, 112, 111, 110, 101, 110, 116] 533), (vs [116, 111, 108, 100] 534), (vs [112, 108, 97, 99, 101] 535), (vs [110, 117, 109, 98, 101, 114] 536)]⟩ 0), ⟨[]⟩⟩
noncomputable def o215 : Obj := ⟨(.type PySem.W.SL.s2766695959194262286x5), none, (.seq ⟨[]⟩ 0), ⟨[]⟩⟩
noncomputable def o216 : Obj := ⟨.none, none, (fn (st 40) (S [102, 114, 111, 109, 95, 100, 101, 99, 105, 109, 97, 108]) (S [102, 114, 111, 109, 95, 100, 101, 99, 105, 109, 97, 108]) 0 .none .none .none .none .none .none 0), ⟨[]⟩⟩
noncomputable def o217 : Obj := ⟨(.type PySem.W.SL.s5856160107412720595x4), none, (.fields ⟨[(vs [102, 114, 111, 109, 95, 100, 101, 99, 105, 109, 97, 108] 529), (vs [102, 114, 111, 109, 95, 100, 101, 99, 105, 109, 97, 108] 530), (vs [47, 99, 108, 97, 105, 109, 47, 99, 117, 116, 46, 112, 121] 531), (vi 137), (vi 2), (vi 0), (vi 0), (vi 3), (.ref 212), (.bool true), (vi 181), (.ref 213), .none, (.ref 214), (.ref 215), (.ref 216), (vi 537), (vi 137), (vs [47, 99, 108, 97, 105, 109, 47, 99, 117, 116, 46, 112, 121] 538)]⟩), ⟨[]⟩⟩
noncomputable def o218 : Obj := ⟨(.type PySem.W.SL.s7174869446012820540x8), none, (fn (st 40) (S [102, 114, 111, 109, 95, 100, 101, 99, 105, 109, 97, 108]) (S [102, 114, 111, 109, 95, 100, 101, 99, 105, 109, 97, 108]) 3 .none .none .none (vs [106, 115, 46, 110, 117, 109, 112, 97, 114, 115, 101] 506) (.ref 217) .none 0), ⟨[]⟩⟩
noncomputable def o219 : Obj := ⟨(.type PySem.W.SL.s9222952809800978799x4), none, (.seq ⟨[(vs [98, 114, 101, 97, 107] 542), (vs [99, 97, 115, 101] 543), (vs [99, 97, 116, 99, 104] 544), (vs [99, 111, 110, 116, 105, 110, 117, 101] 545), (vs [100, 101, 98, 117, 103, 103, 101, 114] 546), (vs [100, 101, 102, 97, 117, 108, 116] 547), (vs [100, 101, 108, 101, 116, 101] 548), (vs [100, 111] 549), (vs [101, 108, 115, 101] 550), (vs [102, 105, 110, 97, 108, 108, 121] 551), (vs [102, 111, 114] 552), (vs [102, 117, 110, 99, 116, 105, 111, 110] 553), (vs [105, 102] 554), (vs [105, 110] 555), (vs [105, 110, 115, 116, 97, 110, 99, 101, 111, 102] 556), (vs [110, 101, 119] 557), (vs [114, 101, 116, 117, 114, 110] 558), (vs [115, 119, 105, 116, 99, 104] 559), (vs [116, 104, 105, 115] 560), (vs [116, 104, 114, 111, 119] 561), (vs [116, 114, 121] 562), (vs [116, 121, 112, 101, 111, 102] 563), (vs [118, 97, 114] 564), (vs [118, 111, 105, 100] 565), (vs [119, 104, 105, 108, 101] 566), (vs [119, 105, 116, 104] 567), (vs [99, 108, 97, 115, 115] 568), (vs [99, 111, 110, 115, 116] 569), (vs [101, 110, 117, 109] 570), (vs [101, 120, 112, 111, 114, 116] 571), (vs [101, 120, 116, 101, 110, 100, 115] 572), (vs [105, 109, 112, 111, 114, 116] 573), (vs [115, 117, 112, 101, 114] 574), (vs [110, 117, 108, 108] 575), (vs [116, 114, 117, 101] 576), (vs [102, 97, 108, 115, 101] 577)]⟩ 0), ⟨[]⟩⟩
noncomputable def o220 : Obj := ⟨(.type PySem.W.SL.s9222952809800978799x4), none, (.seq ⟨[(vs [62, 62, 62, 61] 579), (vs [61, 61, 61] 580), (vs [33, 61, 61] 581), (vs [62, 62, 62] 582), (vs [60, 60, 61] 583), (vs [62, 62, 61] 584), (vs [60, 61] 585), (vs [62, 61] 586), (vs [61, 61] 587), (vs [33, 61] 588), (vs [43, 43] 589), (vs [45, 45] 590), (vs [60, 60] 591), (vs [62, 62] 592), (vs [38, 38] 593), (vs [124, 124] 594), (vs [43, 61] 595), (vs [45, 61] 596), (vs [42, 61] 597), (vs [37, 61] 598), (vs [38, 61] 599), (vs [124, 61] 600), (vs [94, 61] 601), (vs [47, 61] 602), (vs [123] 603), (vs [125] 604), (vs [40] 605), (vs [41] 606), (vs [91] 607), (vs [93] 608), (vs [46] 609), (vs [59] 610), (vs [44] 611), (vs [60] 612), (vs [62] 613), (vs [43] 614), (vs [45] 615), (vs [42] 616), (vs [37] 617), (vs [38] 618), (vs [124] 619), (vs [94] 620), (vs [33] 621), (vs [126] 622), (vs [63] 623), (vs [58] 624), (vs [61] 625), (vs [47] 626)]⟩ 0), ⟨[]⟩⟩
noncomputable def o221 : Obj := ⟨(.type PySem.W.SL.s3492446563574874994x13), none, (.fields ⟨[.none, (vi 48)]⟩), ⟨[]⟩⟩
noncomputable def o222 : Obj := ⟨(.type PySem.W.SL.s9222952809800978799x4), none, (.seq ⟨[(.ref 224), (.ref 225), (.ref 226), (.ref 227), (.ref 228), (.ref 229), (.ref 230), (.ref 231), (.ref 232), (.ref 233), (.ref 234), (.ref 235), (.ref 236), (.ref 237), (.ref 238), (.ref 239), (.ref 240), (.ref 241), (.ref 242), (.ref 243), (.ref 244), (.ref 245), (.ref 246), (.ref 247), (.ref 248), (.ref 249), (.ref 250), (.ref 251), (.ref 252), (.ref 253), (.ref 254), (.ref 255), (.ref 256), (.ref 257), (.ref 258), (.ref 259), (.ref 260), (.ref 261), (.ref 262), (.ref 263), (.ref 264), (.ref 265), (.ref 266), (.ref 267), (.ref 268), (.ref 269), (.ref 270), (.ref 271)]⟩ 48), ⟨[]⟩⟩
noncomputable def o223 : Obj := ⟨(.type PySem.W.SL.s14018661285674007319x4), none, (.dict ⟨[]⟩ 2), ⟨[]⟩⟩
noncomputable def o224 : Obj := ⟨(.type PySem.W.SL.s2766695959194262286x5), none, (.seq ⟨[(vs [62, 62, 62, 61] 579), (.bool true)]⟩ 0), ⟨[]⟩⟩
noncomputable def o225 : Obj := ⟨(.type PySem.W.SL.s2766695959194262286x5), none, (.seq ⟨[(vs [61, 61, 61] 580), (.bool true)]⟩ 0), ⟨[]⟩⟩
noncomputable def o226 : Obj := ⟨(.type PySem.W.SL.s2766695959194262286x5), none, (.seq ⟨[(vs [33, 61, 61] 581), (.bool true)]⟩ 0), ⟨[]⟩⟩
noncomputable def o227 : Obj := ⟨(.type PySem.W.SL.s2766695959194262286x5), none, (.seq ⟨[(vs [62, 62, 62] 582), (.bool true)]⟩ 0), ⟨[]⟩⟩
noncomputable def o228 : Obj := ⟨(.type PySem.W.SL.s2766695959194262286x5), none, (.seq ⟨[(vs [60, 60, 61] 583), (.bool true)]⟩ 0), ⟨[]⟩⟩
noncomputable def o229 : Obj := ⟨(.type PySem.W.SL.s2766695959194262286x5), none, (.seq ⟨[(vs [62, 62, 61] 584), (.bool true)]⟩ 0), ⟨[]⟩⟩
noncomputable def o230 : Obj := ⟨(.type PySem.W.SL.s2766695959194262286x5), none, (.seq ⟨[(vs [60, 61] 585), (.bool true)]⟩ 0), ⟨[]⟩⟩
noncomputable def o231 : Obj := ⟨(.type PySem.W.SL.s2766695959194262286x5), none, (.seq ⟨[(vs [62, 61] 586), (.bool true)]⟩ 0), ⟨[]⟩⟩
noncomputable def o232 : Obj := ⟨(.type PySem.W.SL.s2766695959194262286x5), none, (.seq ⟨[(vs [61, 61] 587), (.bool true)]⟩ 0), ⟨[]⟩⟩
noncomputable def o233 : Obj := ⟨(.type PySem.W.SL.s2766695959194262286x5), none, (.seq ⟨[(vs [33, 61] 588), (.bool true)]⟩ 0), ⟨[]⟩⟩
noncomputable def o234 : Obj := ⟨(.type PySem.W.SL.s2766695959194262286x5), none, (.seq ⟨[(vs [43, 43] 589), (.bool true)]⟩ 0), ⟨[]⟩⟩
noncomputable def o235 : Obj := ⟨(.type PySem.W.SL.s2766695959194262286x5), none, (.seq ⟨[(vs [45, 45] 590), (.bool true)]⟩ 0), ⟨[]⟩⟩
noncomputable def o236 : Obj := ⟨(.type PySem.W.SL.s2766695959194262286x5), none, (.seq ⟨[(vs [60, 60] 591), (.bool true)]⟩ 0), ⟨[]⟩⟩
noncomputable def o237 : Obj := ⟨(.type PySem.W.SL.s2766695959194262286x5), none, (.seq ⟨[(vs [62, 62] 592), (.bool true)]⟩ 0), ⟨[]⟩⟩
noncomputable def o238 : Obj := ⟨(.type PySem.W.SL.s2766695959194262286x5), none, (.seq ⟨[(vs [38, 38] 593), (.bool true)]⟩ 0), ⟨[]⟩⟩
noncomputable def o239 : Obj := ⟨(.type PySem.W.SL.s2766695959194262286x5), none, (.seq ⟨[(vs [124, 124] 594), (.bool true)]⟩ 0), ⟨[]⟩⟩
noncomputable def o240 : Obj := ⟨(.type PySem.W.SL.s2766695959194262286x5), none, (.seq ⟨[(vs [43, 61] 595), (.bool true)]⟩ 0), ⟨[]⟩⟩
noncomputable def o241 : Obj := ⟨(.type PySem.W.SL.s2766695959194262286x5), none, (.seq ⟨[(vs [45, 61] 596), (.bool true)]⟩ 0), ⟨[]⟩⟩
noncomputable def o242 : Obj := ⟨(.type PySem.W.SL.s2766695959194262286x5), none, (.seq ⟨[(vs [42, 61] 597), (.bool true)]⟩ 0), ⟨[]⟩⟩
noncomputable def o243 : Obj := ⟨(.type PySem.W.SL.s2766695959194262286x5), none, (.seq ⟨[(vs [37, 61] 598), (.bool true)]⟩ 0), ⟨[]⟩⟩
noncomputable def o244 : Obj := ⟨(.type PySem.W.SL.s2766695959194262286x5), none, (.seq ⟨[(vs [38, 61] 599), (.bool true)]⟩ 0), ⟨[]⟩⟩
noncomputable def o245 : Obj := ⟨(.type PySem.W.SL.s2766695959194262286x5), none, (.seq ⟨[(vs [124, 61] 600), (.bool true)]⟩ 0), ⟨[]⟩⟩
noncomputable def o246 : Obj := ⟨(.type PySem.W.SL.s2766695959194262286x5), none, (.seq ⟨[(vs [94, 61] 601), (.bool true)]⟩ 0), ⟨[]⟩⟩
noncomputable def o247 : Obj := ⟨(.type PySem.W.SL.s2766695959194262286x5), none, (.seq ⟨[(vs [47, 61] 602), (.bool true)]⟩ 0), ⟨[]⟩⟩
noncomputable def o248 : Obj := ⟨(.type PySem.W.SL.s2766695959194262286x5), none, (.seq ⟨[(vs [123] 603), (.bool true)]⟩ 0), ⟨[]⟩⟩
noncomputable def o249 : Obj := ⟨(.type PySem.W.SL.s2766695959194262286x5), none, (.seq ⟨[(vs [125] 604), (.bool true)]⟩ 0), ⟨[]⟩⟩
noncomputable def o250 : Obj := ⟨(.type PySem.W.SL.s2766695959194262286x5), none, (.seq ⟨[(vs [40] 605), (.bool true)]⟩ 0), ⟨[]⟩⟩
noncomputable def o251 : Obj := ⟨(.type PySem.W.SL.s2766695959194262286x5), none, (.seq ⟨[(vs [41] 606), (.bool true)]⟩ 0), ⟨[]⟩⟩
noncomputable def o252 : Obj := ⟨(.type PySem.W.SL.s2766695959194262286x5), none, (.seq ⟨[(vs [91] 607), (.bool true)]⟩ 0), ⟨[]⟩⟩
noncomputable def o253 : Obj := ⟨(.type PySem.W.SL.s2766695959194262286x5), none, (.seq ⟨[(vs [93] 608), (.bool true)]⟩ 0), ⟨[]⟩⟩
noncomputable def o254 : Obj := ⟨(.type PySem.W.SL.s2766695959194262286x5), none, (.seq ⟨[(vs [46] 609), (.bool true)]⟩ 0), ⟨[]⟩⟩
noncomputable def o255 : Obj := ⟨(.type PySem.W.SL.s2766695959194262286x5), none, (.seq ⟨[(vs [59] 610), (.bool true)]⟩ 0), ⟨[]⟩⟩
noncomputable def o256 : Obj := ⟨(.type PySem.W.SL.s2766695959194262286x5), none, (.seq ⟨[(vs [44] 611), (.bool true)]⟩ 0), ⟨[]⟩⟩
noncomputable def o257 : Obj := ⟨(.type PySem.W.SL.s2766695959194262286x5), none, (.seq ⟨[(vs [60] 612), (.bool true)]⟩ 0), ⟨[]⟩⟩
noncomputable def o258 : Obj := ⟨(.type PySem.W.SL.s2766695959194262286x5), none, (.seq ⟨[(vs [62] 613), (.bool true)]⟩ 0), ⟨[]⟩⟩
noncomputable def o259 : Obj := ⟨(.type PySem.W.SL.s2766695959194262286x5), none, (.seq ⟨[(vs [43] 614), (.bool true)]⟩ 0), ⟨[]⟩⟩
noncomputable def o260 : Obj := ⟨(.type PySem.W.SL.s2766695959194262286x5), none, (.seq ⟨[(vs [45] 615), (.bool true)]⟩ 0), ⟨[]⟩⟩
noncomputable def o261 : Obj := ⟨(.type PySem.W.SL.s2766695959194262286x5), none, (.seq ⟨[(vs [42] 616), (.bool true)]⟩ 0), ⟨[]⟩⟩
noncomputable def o262 : Obj := ⟨(.type PySem.W.SL.s2766695959194262286x5), none, (.seq ⟨[(vs [37] 617), (.bool true)]⟩ 0), ⟨[]⟩⟩
noncomputable def o263 : Obj := ⟨(.type PySem.W.SL.s2766695959194262286x5), none, (.seq ⟨[(vs [38] 618), (.bool true)]⟩ 0), ⟨[]⟩⟩
noncomputable def o264 : Obj := ⟨(.type PySem.W.SL.s2766695959194262286x5), none, (.seq ⟨[(vs [124] 619), (.bool true)]⟩ 0), ⟨[]⟩⟩
noncomputable def o265 : Obj := ⟨(.type PySem.W.SL.s2766695959194262286x5), none, (.seq ⟨[(vs [94] 620), (.bool true)]⟩ 0), ⟨[]⟩⟩
noncomputable def o266 : Obj := ⟨(.type PySem.W.SL.s2766695959194262286x5), none, (.seq ⟨[(vs [33] 621), (.bool true)]⟩ 0), ⟨[]⟩⟩
noncomputable def o267 : Obj := ⟨(.type PySem.W.SL.s2766695959194262286x5), none, (.seq ⟨[(vs [126] 622), (.bool true)]⟩ 0), ⟨[]⟩⟩
noncomputable def o268 : Obj := ⟨(.type PySem.W.SL.s2766695959194262286x5), none, (.seq ⟨[(vs [63] 623), (.bool true)]⟩ 0), ⟨[]⟩⟩
noncomputable def o269 : Obj := ⟨(.type PySem.W.SL.s2766695959194262286x5), none, (.seq ⟨[(vs [58] 624), (.bool true)]⟩ 0), ⟨[]⟩⟩
noncomputable def o270 : Obj := ⟨(.type PySem.W.SL.s2766695959194262286x5), none, (.seq ⟨[(vs [61] 625), (.bool true)]⟩ 0), ⟨[]⟩⟩
noncomputable def o271 : Obj := ⟨(.type PySem.W.SL.s2766695959194262286x5), none, (.seq ⟨[(vs [47] 626), (.bool true)]⟩ 0), ⟨[]⟩⟩
noncomputable def o272 : Obj := ⟨(.type PySem.W.SL.s2766695959194262286x5), none, (.seq ⟨[]⟩ 0), ⟨[]⟩⟩
noncomputable def o273 : Obj := ⟨(.type PySem.W.SL.s5991306692159431302x13), none, (.fields ⟨[(.ref 272), .none, .none, .none, (.bool false), .none]⟩), ⟨[]⟩⟩
noncomputable def o274 (P : Params) : Obj := ⟨(.type PySem.W.SL.s14018661285674007319x4), none, (.dict ⟨[de P [62, 62, 62, 61] 579 (.bool true), de P [61, 61, 61] 580 (.bool true), de P [33, 61, 61] 581 (.bool true), de P [62, 62, 62] 582 (.bool true), de P [60, 60, 61] 583 (.bool true), de P [62, 62, 61] 584 (.bool true), de P [60, 61] 585 (.bool true), de P [62, 61] 586 (.bool true), de P [61, 61] 587 (.bool true), de P [33, 61] 588 (.bool true), de P [43, 43] 589 (.bool true), de P [45, 45] 590 (.bool true), de P [60, 60] 591 (.bool true), de P [62, 62] 592 (.bool true), de P [38, 38] 593 (.bool true), de P [124, 124] 594 (.bool true), de P [43, 61] 595 (.bool true), de P [45, 61] 596 (.bool true), de P [42, 61] 597 (.bool true), de P [37, 61] 598 (.bool true), de P [38, 61] 599 (.bool true), de P [124, 61] 600 (.bool true), de P [94, 61] 601 (.bool true), de P [47, 61] 602 (.bool true), de P [123] 603 (.bool true), de P [125] 604 (.bool true), de P [40] 605 (.bool true), de P [41] 606 (.bool true), de P [91] 607 (.bool true), de P [93] 608 (.bool true), de P [46] 609 (.bool true), de P [59] 610 (.bool true), de P [44] 611 (.bool true), de P [60] 612 (.bool true), de P [62] 613 (.bool true), de P [43] 614 (.bool true), de P [45] 615 (.bool true), de P [42] 616 (.bool true), de P [37] 617 (.bool true), de P [38] 618 (.bool true), de P [124] 619 (.bool true), de P [94] 620 (.bool true), de P [33] 621 (.bool true), de P [126] 622 (.bool true), de P [63] 623 (.bool true), de P [58] 624 (.bool true), de P [61] 625 (.bool true), de P [47] 626 (.bool true)]⟩ 48), ⟨[]⟩⟩
noncomputable def o275 : Obj := ⟨(.type PySem.W.SL.s2766695959194262286x5), none, (.seq ⟨[(vs [39, 108, 105, 115, 116, 39, 32, 111, 98, 106, 101, 99, 116, 32, 104, 97, 115, 32, 110, 111, 32, 97, 116, 116, 114, 105, 98, 117, 116, 101, 32, 39, 107, 101, 121, 115, 39] 677)]⟩ 0), ⟨[]⟩⟩
noncomputable def o276 : Obj := ⟨(.type PySem.W.SL.s9001593270443806431x14), none, (.fields ⟨[(.ref 275), .none, .none, .none, (.bool false), .none, (vs [107, 101, 121, 115] 678), (.ref 222)]⟩), ⟨[]⟩⟩
noncomputable def o277 : Obj := ⟨(.type PySem.W.SL.s3492446563574874994x13), none, (.fields ⟨[.none, (vi 48)]⟩), ⟨[]⟩⟩
noncomputable def o278 : Obj := ⟨(.type PySem.W.SL.s2766695959194262286x5), none, (.seq ⟨[]⟩ 0), ⟨[]⟩⟩
noncomputable def o279 : Obj := ⟨(.type PySem.W.SL.s5991306692159431302x13), none, (.fields ⟨[(.ref 278), .none, .none, .none, (.bool false), .none]⟩), ⟨[]⟩⟩
noncomputable def o280 : Obj := ⟨(.type PySem.W.SL.s2766695959194262286x5), none, (.seq ⟨[]⟩ 0), ⟨[]⟩⟩
noncomputable def o281 : Obj := ⟨(.type PySem.W.SL.s11030030927630378310x26), none, (.fields ⟨[(.builtin PySem.W.SL.s10062305145149207511x16), (.type PySem.W.SL.s17162191345867700912x4)]⟩), ⟨[]⟩⟩
noncomputable def o282 (P : Params) : Obj := ⟨(.type PySem.W.SL.s14018661285674007319x4), none, (.dict ⟨[de P [95, 95, 109, 111, 100, 117, 108, 101, 95, 95] 735 (vs [106, 115, 46, 116, 111, 107, 101, 110, 115] 540), de P [95, 95, 113, 117, 97, 108, 110, 97, 109, 101, 95, 95] 737 (vs [84, 111, 107, 101, 110] 736), de P [95, 95, 102, 105, 114, 115, 116, 108, 105, 110, 101, 110, 111, 95, 95] 739 (vj 152 738), de P [95, 95, 105, 110, 105, 116, 95, 95] 752 (.ref 293), de P [95, 95, 115, 116, 97, 116, 105, 99, 95, 97, 116, 116, 114, 105, 98, 117, 116, 101, 115, 95, 95] 761 (.ref 294)]⟩ 5), ⟨[]⟩⟩
noncomputable def o283 : Obj := ⟨(.type PySem.W.SL.s2766695959194262286x5), none, (.seq ⟨[]⟩ 0), ⟨[]⟩⟩
noncomputable def o284 : Obj := ⟨.none, none, (.fields ⟨[(vi 154), (vi 4), (.ref 292)]⟩), ⟨[]⟩⟩
noncomputable def o285 : Obj := ⟨(.type PySem.W.SL.s5856160107412720595x4), none, (.fields ⟨[(vs [84, 111, 107, 101, 110] 730), (vs [84, 111, 107, 101, 110] 731), (vs [47, 99, 108, 97, 105, 109, 47, 99, 117, 116, 46, 112, 121] 732), (vi 152), (vi 0), (vi 0), (vi 0), (vi 0), (.ref 283), (.bool false), (vi 181), (.ref 284), .none, .none, .none, .none, (vi 733), (vi 152), (vs [47, 99, 108, 97, 105, 109, 47, 99, 117, 116, 46, 112, 121] 734)]⟩), ⟨[]⟩⟩
noncomputable def o286 : Obj := ⟨(.type PySem.W.SL.s658472552662922059x5), none, .plain, ⟨[(some (.ref 285)), (some (.ref 3)), (some (.ref 282)), none, (some (vs [106, 115, 46, 116, 111, 107, 101, 110, 115] 540)), none, (some (.ref 0))]⟩⟩
noncomputable def o287 : Obj := ⟨(.type PySem.W.SL.s2766695959194262286x5), none, (.seq ⟨[]⟩ 0), ⟨[]⟩⟩
noncomputable def o288 : Obj := ⟨.none, none, (.fields ⟨[]⟩), ⟨[]⟩⟩
noncomputable def o289 : Obj := ⟨(.type PySem.W.SL.s2766695959194262286x5), none, (.seq ⟨[(vs [115, 101, 108, 102] 743), (vs [107, 105, 110, 100] 744), (vs [118, 97, 108, 117, 101] 745), (vs [108, 105, 110, 101] 746), (vs [105, 115, 95, 98, 101, 104, 105, 110, 100, 95, 108, 105, 110, 101] 747), (vs [115, 116, 97, 114, 116] 748), (vs [101, 110, 100] 749)]⟩ 0), ⟨[]⟩⟩
noncomputable def o290 : Obj := ⟨(.type PySem.W.SL.s2766695959194262286x5), none, (.seq ⟨[]⟩ 0), ⟨[]⟩⟩
noncomputable def o291 : Obj := ⟨.none, none, (fn (sm 45 0) (S [95, 95, 105, 110, 105, 116, 95, 95]) (S [84, 111, 107, 101, 110, 46, 95, 95, 105, 110, 105, 116, 95, 95]) 0 .none .none .none .none .none .none 0), ⟨[]⟩⟩
noncomputable def o292 : Obj := ⟨(.type PySem.W.SL.s5856160107412720595x4), none, (.fields ⟨[(vs [95, 95, 105, 110, 105, 116, 95, 95] 740), (vs [84, 111, 107, 101, 110, 46, 95, 95, 105, 110, 105, 116, 95, 95] 741), (vs [47, 99, 108, 97, 105, 109, 47, 99, 117, 116, 46, 112, 121] 742), (vi 154), (vi 7), (vi 0), (vi 0), (vi 3), (.ref 287), (.bool true), (vi 181), (.ref 288), .none, (.ref 289), (.ref 290), (.ref 291), (vi 750), (vi 154), (vs [47, 99, 108, 97, 105, 109, 47, 99, 117, 116, 46, 112, 121] 751)]⟩), ⟨[]⟩⟩
noncomputable def o293 : Obj := ⟨(.type PySem.W.SL.s7174869446012820540x8), none, (fn (sm 45 0) (S [95, 95, 105, 110, 105, 116, 95, 95]) (S [84, 111, 107, 101, 110, 46, 95, 95, 105, 110, 105, 116, 95, 95]) 3 .none .none .none (vs [106, 115, 46, 116, 111, 107, 101, 110, 115] 540) (.ref 292) .none 0), ⟨[]⟩⟩
noncomputable def o294 : Obj := ⟨(.type PySem.W.SL.s2766695959194262286x5), none, (.seq ⟨[(vs [101, 110, 100] 753), (vs [105, 115, 95, 98, 101, 104, 105, 110, 100, 95, 108, 105, 110, 101] 754), (vs [105, 115, 95, 111, 99, 116, 97, 108] 755), (vs [105, 115, 95, 112, 108, 97, 105, 110] 756), (vs [107, 105, 110, 100] 757), (vs [108, 105, 110, 101] 758), (vs [115, 116, 97, 114, 116] 759), (vs [118, 97, 108, 117, 101] 760)]⟩ 0), ⟨[]⟩⟩
noncomputable def o295 (P : Params) : Obj := ⟨(.type PySem.W.SL.s14018661285674007319x4), none, (.dict ⟨[de P [95, 95, 109, 111, 100, 117, 108, 101, 95, 95] 735 (vs [106, 115, 46, 116, 111, 107, 101, 110, 115] 540), de P [95, 95, 102, 105, 114, 115, 116, 108, 105, 110, 101, 110, 111, 95, 95] 739 (vj 152 738), de P [95, 95, 105, 110, 105, 116, 95, 95] 752 (.ref 293), de P [95, 95, 115, 116, 97, 116, 105, 99, 95, 97, 116, 116, 114, 105, 98, 117, 116, 101, 115, 95, 95] 761 (.ref 294), de P [95, 95, 100, 105, 99, 116, 95, 95] 763 (.ref 297), de P [95, 95, 119, 101, 97, 107, 114, 101, 102, 95, 95] 765 (.ref 298), de P [95, 95, 100, 111, 99, 95, 95] 766 .none]⟩ 4), ⟨[]⟩⟩
noncomputable def o296 : Obj := ⟨(.type PySem.W.SL.s17162191345867700912x4), none, (.cls ⟨(S [84, 111, 107, 101, 110]), [(.type PySem.W.SL.s2742458400755230247x6)], [(.ref 296), (.type PySem.W.SL.s2742458400755230247x6)], 295, (S [84, 111, 107, 101, 110]), true, [], [], false, none, false⟩), ⟨[none, none, (some (vs [84, 111, 107, 101, 110] 728)), (some (vs [84, 111, 107, 101, 110] 736)), (some (.builtin PySem.W.SL.s11443829558043349243x14)), (some (.bool true))]⟩⟩
noncomputable def o297 : Obj := ⟨(.type PySem.W.SL.s14755015743595814543x17), none, (.fields ⟨[(vs [95, 95, 100, 105, 99, 116, 95, 95] 762), (.ref 296), (.builtin PySem.W.SL.s6511155373996960695x17), (.builtin PySem.W.SL.s12411053484034534018x21)]⟩), ⟨[]⟩⟩
noncomputable def o298 : Obj := ⟨(.type PySem.W.SL.s14755015743595814543x17), none, (.fields ⟨[(vs [95, 95, 119, 101, 97, 107, 114, 101, 102, 95, 95] 764), (.ref 296), (.builtin PySem.W.SL.s10220274742760427390x26), .none]⟩), ⟨[]⟩⟩
noncomputable def o299 : Obj := ⟨(.type PySem.W.SL.s4290257624100764138x5), none, (.fields ⟨[(.ref 296), (.ref 296), (.ref 296)]⟩), ⟨[]⟩⟩
noncomputable def o300 : Obj := ⟨(.type PySem.W.SL.s11030030927630378310x26), none, (.fields ⟨[(.builtin PySem.W.SL.s4860613602091757760x24), (.ref 296)]⟩), ⟨[]⟩⟩
noncomputable def o301 : Obj := ⟨(.type PySem.W.SL.s2766695959194262286x5), none, (.seq ⟨[]⟩ 0), ⟨[]⟩⟩
noncomputable def o302 : Obj := ⟨.none, none, (.fields ⟨[]⟩), ⟨[]⟩⟩
noncomputable def o303 : Obj := ⟨(.type PySem.W.SL.s2766695959194262286x5), none, (.seq ⟨[(vs [119, 111, 114, 100] 772)]⟩ 0), ⟨[]⟩⟩
noncomputable def o304 : Obj := ⟨(.type PySem.W.SL.s2766695959194262286x5), none, (.seq ⟨[]⟩ 0), ⟨[]⟩⟩
noncomputable def o305 : Obj := ⟨.none, none, (fn (st 46) (S [105, 115, 95, 107, 101, 121, 119, 111, 114, 100]) (S [105, 115, 95, 107, 101, 121, 119, 111, 114, 100]) 0 .none .none .none .none .none .none 0), ⟨[]⟩⟩
noncomputable def o306 : Obj := ⟨(.type PySem.W.SL.s5856160107412720595x4), none, (.fields ⟨[(vs [105, 115, 95, 107, 101, 121, 119, 111, 114, 100] 769), (vs [105, 115, 95, 107, 101, 121, 119, 111, 114, 100] 770), (vs [47, 99, 108, 97, 105, 109, 47, 99, 117, 116, 46, 112, 121] 771), (vi 163), (vi 1), (vi 0), (vi 0), (vi 3), (.ref 301), (.bool true), (vi 181), (.ref 302), .none, (.ref 303), (.ref 304), (.ref 305), (vi 773), (vi 163), (vs [47, 99, 108, 97, 105, 109, 47, 99, 117, 116, 46, 112, 121] 774)]⟩), ⟨[]⟩⟩
noncomputable def o307 : Obj := ⟨(.type PySem.W.SL.s7174869446012820540x8), none, (fn (st 46) (S [105, 115, 95, 107, 101, 121, 119, 111, 114, 100]) (S [105, 115, 95, 107, 101, 121, 119, 111, 114, 100]) 3 .none .none .none (vs [106, 115, 46, 116, 111, 107, 101, 110, 115] 540) (.ref 306) .none 0), ⟨[]⟩⟩
noncomputable def o308 : Obj := ⟨(.type PySem.W.SL.s2766695959194262286x5), none, (.seq ⟨[]⟩ 0), ⟨[]⟩⟩
noncomputable def o309 : Obj := ⟨.none, none, (.fields ⟨[]⟩), ⟨[]⟩⟩
noncomputable def o310 : Obj := ⟨(.type PySem.W.SL.s2766695959194262286x5), none, (.seq ⟨[(vs [116, 101, 120, 116] 779), (vs [97, 116] 780), (vs [115, 105, 122, 101] 781), (vs [112, 105, 101, 99, 101] 782)]⟩ 0), ⟨[]⟩⟩
noncomputable def o311 : Obj := ⟨(.type PySem.W.SL.s2766695959194262286x5), none, (.seq ⟨[]⟩ 0), ⟨[]⟩⟩
noncomputable def o312 : Obj := ⟨.none, none, (fn (st 47) (S [112, 117, 110, 99, 116, 95, 97, 116]) (S [112, 117, 110, 99, 116, 95, 97, 116]) 0 .none .none .none .none .none .none 0), ⟨[]⟩⟩
noncomputable def o313 : Obj := ⟨(.type PySem.W.SL.s5856160107412720595x4), none, (.fields ⟨[(vs [112, 117, 110, 99, 116, 95, 97, 116] 776), (vs [112, 117, 110, 99, 116, 95, 97, 116] 777), (vs [47, 99, 108, 97, 105, 109, 47, 99, 117, 116, 46, 112, 121] 778), (vi 165), (vi 2), (vi 0), (vi 0), (vi 3), (.ref 308), (.bool true), (vi 181), (.ref 309), .none, (.ref 310), (.ref 311), (.ref 312), (vi 783), (vi 165), (vs [47, 99, 108, 97, 105, 109, 47, 99, 117, 116, 46, 112, 121] 784)]⟩), ⟨[]⟩⟩
noncomputable def o314 : Obj := ⟨(.type PySem.W.SL.s7174869446012820540x8), none, (fn (st 47) (S [112, 117, 110, 99, 116, 95, 97, 116]) (S [112, 117, 110, 99, 116, 95, 97, 116]) 3 .none .none .none (vs [106, 115, 46, 116, 111, 107, 101, 110, 115] 540) (.ref 313) .none 0), ⟨[]⟩⟩
noncomputable def o315 : Obj := ⟨(.type PySem.W.SL.s2766695959194262286x5), none, (.seq ⟨[(.type PySem.W.SL.s5946037652744460706x9)]⟩ 0), ⟨[]⟩⟩
noncomputable def o316 : Obj := ⟨(.type PySem.W.SL.s11030030927630378310x26), none, (.fields ⟨[(.builtin PySem.W.SL.s10062305145149207511x16), (.type PySem.W.SL.s17162191345867700912x4)]⟩), ⟨[]⟩⟩
noncomputable def o317 (P : Params) : Obj := ⟨(.type PySem.W.SL.s14018661285674007319x4), none, (.dict ⟨[de P [95, 95, 109, 111, 100, 117, 108, 101, 95, 95] 795 (vs [106, 115, 46, 118, 97, 108, 117, 101, 115] 786), de P [95, 95, 113, 117, 97, 108, 110, 97, 109, 101, 95, 95] 797 (vs [83, 121, 110, 116, 97, 120, 70, 97, 105, 108] 796), de P [95, 95, 102, 105, 114, 115, 116, 108, 105, 110, 101, 110, 111, 95, 95] 799 (vj 172 798), de P [95, 95, 105, 110, 105, 116, 95, 95] 808 (.ref 328), de P [95, 95, 115, 116, 97, 116, 105, 99, 95, 97, 116, 116, 114, 105, 98, 117, 116, 101, 115, 95, 95] 811 (.ref 329)]⟩ 5), ⟨[]⟩⟩
noncomputable def o318 : Obj := ⟨(.type PySem.W.SL.s2766695959194262286x5), none, (.seq ⟨[]⟩ 0), ⟨[]⟩⟩
noncomputable def o319 : Obj := ⟨.none, none, (.fields ⟨[(vi 174), (vi 4), (.ref 327)]⟩), ⟨[]⟩⟩
noncomputable def o320 : Obj := ⟨(.type PySem.W.SL.s5856160107412720595x4), none, (.fields ⟨[(vs [83, 121, 110, 116, 97, 120, 70, 97, 105, 108] 790), (vs [83, 121, 110, 116, 97, 120, 70, 97, 105, 108] 791), (vs [47, 99, 108, 97, 105, 109, 47, 99, 117, 116, 46, 112, 121] 792), (vi 172), (vi 0), (vi 0), (vi 0), (vi 0), (.ref 318), (.bool false), (vi 181), (.ref 319), .none, .none, .none, .none, (vi 793), (vi 172), (vs [47, 99, 108, 97, 105, 109, 47, 99, 117, 116, 46, 112, 121] 794)]⟩), ⟨[]⟩⟩
noncomputable def o321 : Obj := ⟨(.type PySem.W.SL.s658472552662922059x5), none, .plain, ⟨[(some (.ref 320)), (some (.ref 3)), (some (.ref 317)), none, (some (vs [106, 115, 46, 118, 97, 108, 117, 101, 115] 786)), none, (some (.ref 0))]⟩⟩
noncomputable def o322 : Obj := ⟨(.type PySem.W.SL.s2766695959194262286x5), none, (.seq ⟨[]⟩ 0), ⟨[]⟩⟩
noncomputable def o323 : Obj := ⟨.none, none, (.fields ⟨[]⟩), ⟨[]⟩⟩
noncomputable def o324 : Obj := ⟨(.type PySem.W.SL.s2766695959194262286x5), none, (.seq ⟨[(vs [115, 101, 108, 102] 803), (vs [116, 101, 120, 116] 804), (vs [108, 105, 110, 101] 805)]⟩ 0), ⟨[]⟩⟩
noncomputable def o325 : Obj := ⟨(.type PySem.W.SL.s2766695959194262286x5), none, (.seq ⟨[]⟩ 0), ⟨[]⟩⟩
noncomputable def o326 : Obj := ⟨.none, none, (fn (sm 49 0) (S [95, 95, 105, 110, 105, 116, 95, 95]) (S [83, 121, 110, 116, 97, 120, 70, 97, 105, 108, 46, 95, 95, 105, 110, 105, 116, 95, 95]) 0 .none .none .none .none .none .none 0), ⟨[]⟩⟩
noncomputable def o327 : Obj := ⟨(.type PySem.W.SL.s5856160107412720595x4), none, (.fields ⟨[(vs [95, 95, 105, 110, 105, 116, 95, 95] 800), (vs [83, 121, 110, 116, 97, 120, 70, 97, 105, 108, 46, 95, 95, 105, 110, 105, 116, 95, 95] 801), (vs [47, 99, 108, 97, 105, 109, 47, 99, 117, 116, 46, 112, 121] 802), (vi 174), (vi 3), (vi 0), (vi 0), (vi 3), (.ref 322), (.bool true), (vi 181), (.ref 323), .none, (.ref 324), (.ref 325), (.ref 326), (vi 806), (vi 174), (vs [47, 99, 108, 97, 105, 109, 47, 99, 117, 116, 46, 112, 121] 807)]⟩), ⟨[]⟩⟩
noncomputable def o328 : Obj := ⟨(.type PySem.W.SL.s7174869446012820540x8), none, (fn (sm 49 0) (S [95, 95, 105, 110, 105, 116, 95, 95]) (S [83, 121, 110, 116, 97, 120, 70, 97, 105, 108, 46, 95, 95, 105, 110, 105, 116, 95, 95]) 3 .none .none .none (vs [106, 115, 46, 118, 97, 108, 117, 101, 115] 786) (.ref 327) .none 0), ⟨[]⟩⟩
noncomputable def o329 : Obj := ⟨(.type PySem.W.SL.s2766695959194262286x5), none, (.seq ⟨[(vs [108, 105, 110, 101] 809), (vs [116, 101, 120, 116] 810)]⟩ 0), ⟨[]⟩⟩
noncomputable def o330 (P : Params) : Obj := ⟨(.type PySem.W.SL.s14018661285674007319x4), none, (.dict ⟨[de P [95, 95, 109, 111, 100, 117, 108, 101, 95, 95] 795 (vs [106, 115, 46, 118, 97, 108, 117, 101, 115] 786), de P [95, 95, 102, 105, 114, 115, 116, 108, 105, 110, 101, 110, 111, 95, 95] 799 (vj 172 798), de P [95, 95, 105, 110, 105, 116, 95, 95] 808 (.ref 328), de P [95, 95, 115, 116, 97, 116, 105, 99, 95, 97, 116, 116, 114, 105, 98, 117, 116, 101, 115, 95, 95] 811 (.ref 329), de P [95, 95, 119, 101, 97, 107, 114, 101, 102, 95, 95] 813 (.ref 332), de P [95, 95, 100, 111, 99, 95, 95] 814 .none]⟩ 3), ⟨[]⟩⟩
noncomputable def o331 : Obj := ⟨(.type PySem.W.SL.s17162191345867700912x4), none, (.cls ⟨(S [83, 121, 110, 116, 97, 120, 70, 97, 105, 108]), [(.type PySem.W.SL.s5946037652744460706x9)], [(.ref 331), (.type PySem.W.SL.s5946037652744460706x9), (.type PySem.W.SL.s4278001404047624695x13), (.type PySem.W.SL.s2742458400755230247x6)], 330, (S [83, 121, 110, 116, 97, 120, 70, 97, 105, 108]), true, [], [], false, none, false⟩), ⟨[(some (.ref 315)), none, (some (vs [83, 121, 110, 116, 97, 120, 70, 97, 105, 108] 788)), (some (vs [83, 121, 110, 116, 97, 120, 70, 97, 105, 108] 796)), (some (.builtin PySem.W.SL.s5160863994218179198x17)), (some (.bool true))]⟩⟩
noncomputable def o332 : Obj := ⟨(.type PySem.W.SL.s14755015743595814543x17), none, (.fields ⟨[(vs [95, 95, 119, 101, 97, 107, 114, 101, 102, 95, 95] 812), (.ref 331), (.builtin PySem.W.SL.s10220274742760427390x26), .none]⟩), ⟨[]⟩⟩
noncomputable def o333 : Obj := ⟨(.type PySem.W.SL.s4290257624100764138x5), none, (.fields ⟨[(.ref 331), (.ref 331), (.ref 331)]⟩), ⟨[]⟩⟩
noncomputable def o334 : Obj := ⟨(.type PySem.W.SL.s11030030927630378310x26), none, (.fields ⟨[(.builtin PySem.W.SL.s4860613602091757760x24), (.ref 331)]⟩), ⟨[]⟩⟩
noncomputable def o335 : Obj := ⟨(.type PySem.W.SL.s2766695959194262286x5), none, (.seq ⟨[]⟩ 0), ⟨[]⟩⟩
noncomputable def o336 : Obj := ⟨(.type PySem.W.SL.s11030030927630378310x26), none, (.fields ⟨[(.builtin PySem.W.SL.s10062305145149207511x16), (.type PySem.W.SL.s17162191345867700912x4)]⟩), ⟨[]⟩⟩
noncomputable def o337 (P : Params) : Obj := ⟨(.type PySem.W.SL.s14018661285674007319x4), none, (.dict ⟨[de P [95, 95, 109, 111, 100, 117, 108, 101, 95, 95] 828 (vs [106, 115, 46, 108, 101, 120, 101, 114] 819), de P [95, 95, 113, 117, 97, 108, 110, 97, 109, 101, 95, 95] 830 (vs [76, 101, 120, 101, 114] 829), de P [95, 95, 102, 105, 114, 115, 116, 108, 105, 110, 101, 110, 111, 95, 95] 832 (vj 178 831), de P [95, 95, 105, 110, 105, 116, 95, 95] 840 (.ref 348), de P [110, 101, 120, 116] 851 (.ref 355), de P [102, 97, 105, 108] 859 (.ref 362), de P [101, 110, 100, 95, 108, 105, 110, 101] 866 (.ref 369), de P [115, 107, 105, 112, 95, 98, 108, 97, 110, 107, 115] 875 (.ref 376), de P [115, 107, 105, 112, 95, 99, 111, 109, 109, 101, 110, 116] 882 (.ref 383), de P [110, 97, 109, 101, 95, 115, 105, 103, 110] 894 (.ref 390), de P [114, 101, 97, 100, 95, 110, 97, 109, 101] 904 (.ref 397), de P [115, 107, 105, 112, 95, 100, 105, 103, 105, 116, 115] 912 (.ref 404), de P [114, 101, 97, 100, 95, 110, 117, 109, 98, 101, 114] 923 (.ref 411), de P [114, 101, 97, 100, 95, 104, 101, 120] 932 (.ref 418), de P [114, 101, 97, 100, 95, 111, 99, 116, 97, 108] 940 (.ref 425), de P [114, 101, 97, 100, 95, 100, 101, 99, 105, 109, 97, 108] 949 (.ref 432), de P [114, 101, 97, 100, 95, 101, 120, 112, 111, 110, 101, 110, 116] 960 (.ref 439), de P [114, 101, 103, 101, 120] 971 (.ref 446), de P [114, 101, 103, 101, 120, 95, 98, 111, 100, 121] 981 (.ref 453), de P [114, 101, 97, 100, 95, 116, 101, 120, 116] 992 (.ref 460), de P [101, 115, 99, 97, 112, 101, 100] 1001 (.ref 467), de P [114, 101, 97, 100, 95, 112, 117, 110, 99, 116] 1010 (.ref 474), de P [95, 95, 115, 116, 97, 116, 105, 99, 95, 97, 116, 116, 114, 105, 98, 117, 116, 101, 115, 95, 95] 1014 (.ref 475)]⟩ 23), ⟨[]⟩⟩
noncomputable def o338 : Obj := ⟨(.type PySem.W.SL.s2766695959194262286x5), none, (.seq ⟨[]⟩ 0), ⟨[]⟩⟩
noncomputable def o339 : Obj := ⟨.none, none, (.fields ⟨[(vi 180), (vi 4), (.ref 347), (vi 185), (vi 4), (.ref 354), (vi 202), (vi 4), (.ref 361), (vi 205), (vi 4), (.ref 368), (vi 209), (vi 4), (.ref 375), (vi 225), (vi 4), (.ref 382), (vi 236), (vi 4), (.ref 389), (vi 247), (vi 4), (.ref 396), (vi 258), (vi 4), (.ref 403), (vi 264), (vi 4), (.ref 410), (vi 278), (vi 4), (.ref 417), (vi 289), (vi 4), (.ref 424), (vi 296), (vi 4), (.ref 431), (vi 308), (vi 4), (.ref 438), (vi 322), (vi 4), (.ref 445), (vi 333), (vi 4), (.ref 452), (vi 349), (vi 4), (.ref 459), (vi 365), (vi 4), (.ref 466), (vi 376), (vi 4), (.ref 473)]⟩), ⟨[]⟩⟩
noncomputable def o340 : Obj := ⟨(.type PySem.W.SL.s5856160107412720595x4), none, (.fields ⟨[(vs [76, 101, 120, 101, 114] 823), (vs [76, 101, 120, 101, 114] 824), (vs [47, 99, 108, 97, 105, 109, 47, 99, 117, 116, 46, 112, 121] 825), (vi 178), (vi 0), (vi 0), (vi 0), (vi 0), (.ref 338), (.bool false), (vi 181), (.ref 339), .none, .none, .none, .none, (vi 826), (vi 178), (vs [47, 99, 108, 97, 105, 109, 47, 99, 117, 116, 46, 112, 121] 827)]⟩), ⟨[]⟩⟩
noncomputable def o341 : Obj := ⟨(.type PySem.W.SL.s658472552662922059x5), none, .plain, ⟨[(some (.ref 340)), (some (.ref 3)), (some (.ref 337)), none, (some (vs [106, 115, 46, 108, 101, 120, 101, 114] 819)), none, (some (.ref 0))]⟩⟩
noncomputable def o342 : Obj := ⟨(.type PySem.W.SL.s2766695959194262286x5), none, (.seq ⟨[]⟩ 0), ⟨[]⟩⟩
noncomputable def o343 : Obj := ⟨.none, none, (.fields ⟨[]⟩), ⟨[]⟩⟩
noncomputable def o344 : Obj := ⟨(.type PySem.W.SL.s2766695959194262286x5), none, (.seq ⟨[(vs [115, 101, 108, 102] 836), (vs [116, 101, 120, 116] 837)]⟩ 0), ⟨[]⟩⟩
noncomputable def o345 : Obj := ⟨(.type PySem.W.SL.s2766695959194262286x5), none, (.seq ⟨[]⟩ 0), ⟨[]⟩⟩
noncomputable def o346 : Obj := ⟨.none, none, (fn (sm 51 0) (S [95, 95, 105, 110, 105, 116, 95, 95]) (S [76, 101, 120, 101, 114, 46, 95, 95, 105, 110, 105, 116, 95, 95]) 0 .none .none .none .none .none .none 0), ⟨[]⟩⟩
noncomputable def o347 : Obj := ⟨(.type PySem.W.SL.s5856160107412720595x4), none, (.fields ⟨[(vs [95, 95, 105, 110, 105, 116, 95, 95] 833), (vs [76, 101, 120, 101, 114, 46, 95, 95, 105, 110, 105, 116, 95, 95] 834), (vs [47, 99, 108, 97, 105, 109, 47, 99, 117, 116, 46, 112, 121] 835), (vi 180), (vi 2), (vi 0), (vi 0), (vi 3), (.ref 342), (.bool true), (vi 181), (.ref 343), .none, (.ref 344), (.ref 345), (.ref 346), (vi 838), (vi 180), (vs [47, 99, 108, 97, 105, 109, 47, 99, 117, 116, 46, 112, 121] 839)]⟩), ⟨[]⟩⟩
noncomputable def o348 : Obj := ⟨(.type PySem.W.SL.s7174869446012820540x8), none, (fn (sm 51 0) (S [95, 95, 105, 110, 105, 116, 95, 95]) (S [76, 101, 120, 101, 114, 46, 95, 95, 105, 110, 105, 116, 95, 95]) 3 .none .none .none (vs [106, 115, 46, 108, 101, 120, 101, 114] 819) (.ref 347) .none 0), ⟨[]⟩⟩
noncomputable def o349 : Obj := ⟨(.type PySem.W.SL.s2766695959194262286x5), none, (.seq ⟨[]⟩ 0), ⟨[]⟩⟩
noncomputable def o350 : Obj := ⟨.none, none, (.fields ⟨[]⟩), ⟨[]⟩⟩
noncomputable def o351 : Obj := ⟨(.type PySem.W.SL.s2766695959194262286x5), none, (.seq ⟨[(vs [115, 101, 108, 102] 844), (vs [105, 115, 95, 98, 101, 104, 105, 110, 100, 95, 108, 105, 110, 101] 845), (vs [115, 116, 97, 114, 116] 846), (vs [99, 111, 100, 101] 847), (vs [116, 111, 107, 101, 110] 848)]⟩ 0), ⟨[]⟩⟩
noncomputable def o352 : Obj := ⟨(.type PySem.W.SL.s2766695959194262286x5), none, (.seq ⟨[]⟩ 0), ⟨[]⟩⟩
noncomputable def o353 : Obj := ⟨.none, none, (fn (sm 51 1) (S [110, 101, 120, 116]) (S [76, 101, 120, 101, 114, 46, 110, 101, 120, 116]) 0 .none .none .none .none .none .none 0), ⟨[]⟩⟩
noncomputable def o354 : Obj := ⟨(.type PySem.W.SL.s5856160107412720595x4), none, (.fields ⟨[(vs [110, 101, 120, 116] 841), (vs [76, 101, 120, 101, 114, 46, 110, 101, 120, 116] 842), (vs [47, 99, 108, 97, 105, 109, 47, 99, 117, 116, 46, 112, 121] 843), (vi 185), (vi 1), (vi 0), (vi 0), (vi 3), (.ref 349), (.bool true), (vi 181), (.ref 350), .none, (.ref 351), (.ref 352), (.ref 353), (vi 849), (vi 185), (vs [47, 99, 108, 97, 105, 109, 47, 99, 117, 116, 46, 112, 121] 850)]⟩), ⟨[]⟩⟩
noncomputable def o355 : Obj := ⟨(.type PySem.W.SL.s7174869446012820540x8), none, (fn (sm 51 1) (S [110, 101, 120, 116]) (S [76, 101, 120, 101, 114, 46, 110, 101, 120, 116]) 3 .none .none .none (vs [106, 115, 46, 108, 101, 120, 101, 114] 819) (.ref 354) .none 0), ⟨[]⟩⟩
noncomputable def o356 : Obj := ⟨(.type PySem.W.SL.s2766695959194262286x5), none, (.seq ⟨[]⟩ 0), ⟨[]⟩⟩
noncomputable def o357 : Obj := ⟨.none, none, (.fields ⟨[]⟩), ⟨[]⟩⟩
noncomputable def o358 : Obj := ⟨(.type PySem.W.SL.s2766695959194262286x5), none, (.seq ⟨[(vs [115, 101, 108, 102] 855), (vs [116, 101, 120, 116] 856)]⟩ 0), ⟨[]⟩⟩
noncomputable def o359 : Obj := ⟨(.type PySem.W.SL.s2766695959194262286x5), none, (.seq ⟨[]⟩ 0), ⟨[]⟩⟩
noncomputable def o360 : Obj := ⟨.none, none, (fn (sm 51 2) (S [102, 97, 105, 108]) (S [76, 101, 120, 101, 114, 46, 102, 97, 105, 108]) 0 .none .none .none .none .none .none 0), ⟨[]⟩⟩
noncomputable def o361 : Obj := ⟨(.type PySem.W.SL.s5856160107412720595x4), none, (.fields ⟨[(vs [102, 97, 105, 108] 852), (vs [76, 101, 120, 101, 114, 46, 102, 97, 105, 108] 853), (vs [47, 99, 108, 97, 105, 109, 47, 99, 117, 116, 46, 112, 121] 854), (vi 202), (vi 2), (vi 0), (vi 0), (vi 3), (.ref 356), (.bool true), (vi 181), (.ref 357), .none, (.ref 358), (.ref 359), (.ref 360), (vi 857), (vi 202), (vs [47, 99, 108, 97, 105, 109, 47, 99, 117, 116, 46, 112, 121] 858)]⟩), ⟨[]⟩⟩
noncomputable def o362 : Obj := ⟨(.type PySem.W.SL.s7174869446012820540x8), none, (fn (sm 51 2) (S [102, 97, 105, 108]) (S [76, 101, 120, 101, 114, 46, 102, 97, 105, 108]) 3 .none .none .none (vs [106, 115, 46, 108, 101, 120, 101, 114] 819) (.ref 361) .none 0), ⟨[]⟩⟩
noncomputable def o363 : Obj := ⟨(.type PySem.W.SL.s2766695959194262286x5), none, (.seq ⟨[]⟩ 0), ⟨[]⟩⟩
noncomputable def o364 : Obj := ⟨.none, none, (.fields ⟨[]⟩), ⟨[]⟩⟩
noncomputable def o365 : Obj := ⟨(.type PySem.W.SL.s2766695959194262286x5), none, (.seq ⟨[(vs [115, 101, 108, 102] 863)]⟩ 0), ⟨[]⟩⟩
noncomputable def o366 : Obj := ⟨(.type PySem.W.SL.s2766695959194262286x5), none, (.seq ⟨[]⟩ 0), ⟨[]⟩⟩
noncomputable def o367 : Obj := ⟨.none, none, (fn (sm 51 3) (S [101, 110, 100, 95, 108, 105, 110, 101]) (S [76, 101, 120, 101, 114, 46, 101, 110, 100, 95, 108, 105, 110, 101]) 0 .none .none .none .none .none .none 0), ⟨[]⟩⟩
noncomputable def o368 : Obj := ⟨(.type PySem.W.SL.s5856160107412720595x4), none, (.fields ⟨[(vs [101, 110, 100, 95, 108, 105, 110, 101] 860), (vs [76, 101, 120, 101, 114, 46, 101, 110, 100, 95, 108, 105, 110, 101] 861), (vs [47, 99, 108, 97, 105, 109, 47, 99, 117, 116, 46, 112, 121] 862), (vi 205), (vi 1), (vi 0), (vi 0), (vi 3), (.ref 363), (.bool true), (vi 181), (.ref 364), .none, (.ref 365), (.ref 366), (.ref 367), (vi 864), (vi 205), (vs [47, 99, 108, 97, 105, 109, 47, 99, 117, 116, 46, 112, 121] 865)]⟩), ⟨[]⟩⟩
noncomputable def o369 : Obj := ⟨(.type PySem.W.SL.s7174869446012820540x8), none, (fn (sm 51 3) (S [101, 110, 100, 95, 108, 105, 110, 101]) (S [76, 101, 120, 101, 114, 46, 101, 110, 100, 95, 108, 105, 110, 101]) 3 .none .none .none (vs [106, 115, 46, 108, 101, 120, 101, 114] 819) (.ref 368) .none 0), ⟨[]⟩⟩
noncomputable def o370 : Obj := ⟨(.type PySem.W.SL.s2766695959194262286x5), none, (.seq ⟨[]⟩ 0), ⟨[]⟩⟩
noncomputable def o371 : Obj := ⟨.none, none, (.fields ⟨[]⟩), ⟨[]⟩⟩
noncomputable def o372 : Obj := ⟨(.type PySem.W.SL.s2766695959194262286x5), none, (.seq ⟨[(vs [115, 101, 108, 102] 870), (vs [108, 105, 110, 101] 871), (vs [99, 111, 100, 101] 872)]⟩ 0), ⟨[]⟩⟩
noncomputable def o373 : Obj := ⟨(.type PySem.W.SL.s2766695959194262286x5), none, (.seq ⟨[]⟩ 0), ⟨[]⟩⟩
noncomputable def o374 : Obj := ⟨.none, none, (fn (sm 51 4) (S [115, 107, 105, 112, 95, 98, 108, 97, 110, 107, 115]) (S [76, 101, 120, 101, 114, 46, 115, 107, 105, 112, 95, 98, 108, 97, 110, 107, 115]) 0 .none .none .none .none .none .none 0), ⟨[]⟩⟩
noncomputable def o375 : Obj := ⟨(.type PySem.W.SL.s5856160107412720595x4), none, (.fields ⟨[(vs [115, 107, 105, 112, 95, 98, 108, 97, 110, 107, 115] 867), (vs [76, 101, 120, 101, 114, 46, 115, 107, 105, 112, 95, 98, 108, 97, 110, 107, 115] 868), (vs [47, 99, 108, 97, 105, 109, 47, 99, 117, 116, 46, 112, 121] 869), (vi 209), (vi 1), (vi 0), (vi 0), (vi 3), (.ref 370), (.bool true), (vi 181), (.ref 371), .none, (.ref 372), (.ref 373), (.ref 374), (vi 873), (vi 209), (vs [47, 99, 108, 97, 105, 109, 47, 99, 117, 116, 46, 112, 121] 874)]⟩), ⟨[]⟩⟩
noncomputable def o376 : Obj := ⟨(.type PySem.W.SL.s7174869446012820540x8), none, (fn (sm 51 4) (S [115, 107, 105, 112, 95, 98, 108, 97, 110, 107, 115]) (S [76, 101, 120, 101, 114, 46, 115, 107, 105, 112, 95, 98, 108, 97, 110, 107, 115]) 3 .none .none .none (vs [106, 115, 46, 108, 101, 120, 101, 114] 819) (.ref 375) .none 0), ⟨[]⟩⟩
noncomputable def o377 : Obj := ⟨(.type PySem.W.SL.s2766695959194262286x5), none, (.seq ⟨[]⟩ 0), ⟨[]⟩⟩
noncomputable def o378 : Obj := ⟨.none, none, (.fields ⟨[]⟩), ⟨[]⟩⟩
noncomputable def o379 : Obj := ⟨(.type PySem.W.SL.s2766695959194262286x5), none, (.seq ⟨[(vs [115, 101, 108, 102] 879)]⟩ 0), ⟨[]⟩⟩
noncomputable def o380 : Obj := ⟨(.type PySem.W.SL.s2766695959194262286x5), none, (.seq ⟨[]⟩ 0), ⟨[]⟩⟩
noncomputable def o381 : Obj := ⟨.none, none, (fn (sm 51 5) (S [115, 107, 105, 112, 95, 99, 111, 109, 109, 101, 110, 116]) (S [76, 101, 120, 101, 114, 46, 115, 107, 105, 112, 95, 99, 111, 109, 109, 101, 110, 116]) 0 .none .none .none .none .none .none 0), ⟨[]⟩⟩
noncomputable def o382 : Obj := ⟨(.type PySem.W.SL.s5856160107412720595x4), none, (.fields ⟨[(vs [115, 107, 105, 112, 95, 99, 111, 109, 109, 101, 110, 116] 876), (vs [76, 101, 120, 101, 114, 46, 115, 107, 105, 112, 95, 99, 111, 109, 109, 101, 110, 116] 877), (vs [47, 99, 108, 97, 105, 109, 47, 99, 117, 116, 46, 112, 121] 878), (vi 225), (vi 1), (vi 0), (vi 0), (vi 3), (.ref 377), (.bool true), (vi 181), (.ref 378), .none, (.ref 379), (.ref 380), (.ref 381), (vi 880), (vi 225), (vs [47, 99, 108, 97, 105, 109, 47, 99, 117, 116, 46, 112, 121] 881)]⟩), ⟨[]⟩⟩
noncomputable def o383 : Obj := ⟨(.type PySem.W.SL.s7174869446012820540x8), none, (fn (sm 51 5) (S [115, 107, 105, 112, 95, 99, 111, 109, 109, 101, 110, 116]) (S [76, 101, 120, 101, 114, 46, 115, 107, 105, 112, 95, 99, 111, 109, 109, 101, 110, 116]) 3 .none .none .none (vs [106, 115, 46, 108, 101, 120, 101, 114] 819) (.ref 382) .none 0), ⟨[]⟩⟩
noncomputable def o384 : Obj := ⟨(.type PySem.W.SL.s2766695959194262286x5), none, (.seq ⟨[]⟩ 0), ⟨[]⟩⟩
noncomputable def o385 : Obj := ⟨.none, none, (.fields ⟨[]⟩), ⟨[]⟩⟩
noncomputable def o386 : Obj := ⟨(.type PySem.W.SL.s2766695959194262286x5), none, (.seq ⟨[(vs [115, 101, 108, 102] 886), (vs [105, 115, 95, 102, 105, 114, 115, 116] 887), (vs [99, 111, 100, 101] 888), (vs [98, 101, 104, 105, 110, 100] 889), (vs [105, 115, 95, 101, 115, 99, 97, 112, 101] 890), (vs [105, 115, 95, 114, 105, 103, 104, 116] 891)]⟩ 0), ⟨[]⟩⟩
noncomputable def o387 : Obj := ⟨(.type PySem.W.SL.s2766695959194262286x5), none, (.seq ⟨[]⟩ 0), ⟨[]⟩⟩
noncomputable def o388 : Obj := ⟨.none, none, (fn (sm 51 6) (S [110, 97, 109, 101, 95, 115, 105, 103, 110]) (S [76, 101, 120, 101, 114, 46, 110, 97, 109, 101, 95, 115, 105, 103, 110]) 0 .none .none .none .none .none .none 0), ⟨[]⟩⟩
noncomputable def o389 : Obj := ⟨(.type PySem.W.SL.s5856160107412720595x4), none, (.fields ⟨[(vs [110, 97, 109, 101, 95, 115, 105, 103, 110] 883), (vs [76, 101, 120, 101, 114, 46, 110, 97, 109, 101, 95, 115, 105, 103, 110] 884), (vs [47, 99, 108, 97, 105, 109, 47, 99, 117, 116, 46, 112, 121] 885), (vi 236), (vi 2), (vi 0), (vi 0), (vi 3), (.ref 384), (.bool true), (vi 181), (.ref 385), .none, (.ref 386), (.ref 387), (.ref 388), (vi 892), (vi 236), (vs [47, 99, 108, 97, 105, 109, 47, 99, 117, 116, 46, 112, 121] 893)]⟩), ⟨[]⟩⟩
noncomputable def o390 : Obj := ⟨(.type PySem.W.SL.s7174869446012820540x8), none, (fn (sm 51 6) (S [110, 97, 109, 101, 95, 115, 105, 103, 110]) (S [76, 101, 120, 101, 114, 46, 110, 97, 109, 101, 95, 115, 105, 103, 110]) 3 .none .none .none (vs [106, 115, 46, 108, 101, 120, 101, 114] 819) (.ref 389) .none 0), ⟨[]⟩⟩
noncomputable def o391 : Obj := ⟨(.type PySem.W.SL.s2766695959194262286x5), none, (.seq ⟨[]⟩ 0), ⟨[]⟩⟩
noncomputable def o392 : Obj := ⟨.none, none, (.fields ⟨[]⟩), ⟨[]⟩⟩
noncomputable def o393 : Obj := ⟨(.type PySem.W.SL.s2766695959194262286x5), none, (.seq ⟨[(vs [115, 101, 108, 102] 898), (vs [116, 111, 107, 101, 110] 899), (vs [102, 111, 117, 110, 100] 900), (vs [116, 111, 108, 100] 901)]⟩ 0), ⟨[]⟩⟩
noncomputable def o394 : Obj := ⟨(.type PySem.W.SL.s2766695959194262286x5), none, (.seq ⟨[]⟩ 0), ⟨[]⟩⟩
noncomputable def o395 : Obj := ⟨.none, none, (fn (sm 51 7) (S [114, 101, 97, 100, 95, 110, 97, 109, 101]) (S [76, 101, 120, 101, 114, 46, 114, 101, 97, 100, 95, 110, 97, 109, 101]) 0 .none .none .none .none .none .none 0), ⟨[]⟩⟩
noncomputable def o396 : Obj := ⟨(.type PySem.W.SL.s5856160107412720595x4), none, (.fields ⟨[(vs [114, 101, 97, 100, 95, 110, 97, 109, 101] 895), (vs [76, 101, 120, 101, 114, 46, 114, 101, 97, 100, 95, 110, 97, 109, 101] 896), (vs [47, 99, 108, 97, 105, 109, 47, 99, 117, 116, 46, 112, 121] 897), (vi 247), (vi 2), (vi 0), (vi 0), (vi 3), (.ref 391), (.bool true), (vi 181), (.ref 392), .none, (.ref 393), (.ref 394), (.ref 395), (vi 902), (vi 247), (vs [47, 99, 108, 97, 105, 109, 47, 99, 117, 116, 46, 112, 121] 903)]⟩), ⟨[]⟩⟩
noncomputable def o397 : Obj := ⟨(.type PySem.W.SL.s7174869446012820540x8), none, (fn (sm 51 7) (S [114, 101, 97, 100, 95, 110, 97, 109, 101]) (S [76, 101, 120, 101, 114, 46, 114, 101, 97, 100, 95, 110, 97, 109, 101]) 3 .none .none .none (vs [106, 115, 46, 108, 101, 120, 101, 114] 819) (.ref 396) .none 0), ⟨[]⟩⟩
noncomputable def o398 : Obj := ⟨(.type PySem.W.SL.s2766695959194262286x5), none, (.seq ⟨[]⟩ 0), ⟨[]⟩⟩
noncomputable def o399 : Obj := ⟨.none, none, (.fields ⟨[]⟩), ⟨[]⟩⟩
noncomputable def o400 : Obj := ⟨(.type PySem.W.SL.s2766695959194262286x5), none, (.seq ⟨[(vs [115, 101, 108, 102] 908), (vs [115, 116, 97, 114, 116] 909)]⟩ 0), ⟨[]⟩⟩
noncomputable def o401 : Obj := ⟨(.type PySem.W.SL.s2766695959194262286x5), none, (.seq ⟨[]⟩ 0), ⟨[]⟩⟩
noncomputable def o402 : Obj := ⟨.none, none, (fn (sm 51 8) (S [115, 107, 105, 112, 95, 100, 105, 103, 105, 116, 115]) (S [76, 101, 120, 101, 114, 46, 115, 107, 105, 112, 95, 100, 105, 103, 105, 116, 115]) 0 .none .none .none .none .none .none 0), ⟨[]⟩⟩
noncomputable def o403 : Obj := ⟨(.type PySem.W.SL.s5856160107412720595x4), none, (.fields ⟨[(vs [115, 107, 105, 112, 95, 100, 105, 103, 105, 116, 115] 905), (vs [76, 101, 120, 101, 114, 46, 115, 107, 105, 112, 95, 100, 105, 103, 105, 116, 115] 906), (vs [47, 99, 108, 97, 105, 109, 47, 99, 117, 116, 46, 112, 121] 907), (vi 258), (vi 1), (vi 0), (vi 0), (vi 3), (.ref 398), (.bool true), (vi 181), (.ref 399), .none, (.ref 400), (.ref 401), (.ref 402), (vi 910), (vi 258), (vs [47, 99, 108, 97, 105, 109, 47, 99, 117, 116, 46, 112, 121] 911)]⟩), ⟨[]⟩⟩
noncomputable def o404 : Obj := ⟨(.type PySem.W.SL.s7174869446012820540x8), none, (fn (sm 51 8) (S [115, 107, 105, 112, 95, 100, 105, 103, 105, 116, 115]) (S [76, 101, 120, 101, 114, 46, 115, 107, 105, 112, 95, 100, 105, 103, 105, 116, 115]) 3 .none .none .none (vs [106, 115, 46, 108, 101, 120, 101, 114] 819) (.ref 403) .none 0), ⟨[]⟩⟩
noncomputable def o405 : Obj := ⟨(.type PySem.W.SL.s2766695959194262286x5), none, (.seq ⟨[]⟩ 0), ⟨[]⟩⟩
noncomputable def o406 : Obj := ⟨.none, none, (.fields ⟨[]⟩), ⟨[]⟩⟩
noncomputable def o407 : Obj := ⟨(.type PySem.W.SL.s2766695959194262286x5), none, (.seq ⟨[(vs [115, 101, 108, 102] 916), (vs [116, 111, 107, 101, 110] 917), (vs [97, 104, 101, 97, 100] 918), (vs [115, 105, 103, 110] 919), (vs [99, 111, 100, 101] 920)]⟩ 0), ⟨[]⟩⟩
noncomputable def o408 : Obj := ⟨(.type PySem.W.SL.s2766695959194262286x5), none, (.seq ⟨[]⟩ 0), ⟨[]⟩⟩
noncomputable def o409 : Obj := ⟨.none, none, (fn (sm 51 9) (S [114, 101, 97, 100, 95, 110, 117, 109, 98, 101, 114]) (S [76, 101, 120, 101, 114, 46, 114, 101, 97, 100, 95, 110, 117, 109, 98, 101, 114]) 0 .none .none .none .none .none .none 0), ⟨[]⟩⟩
noncomputable def o410 : Obj := ⟨(.type PySem.W.SL.s5856160107412720595x4), none, (.fields ⟨[(vs [114, 101, 97, 100, 95, 110, 117, 109, 98, 101, 114] 913), (vs [76, 101, 120, 101, 114, 46, 114, 101, 97, 100, 95, 110, 117, 109, 98, 101, 114] 914), (vs [47, 99, 108, 97, 105, 109, 47, 99, 117, 116, 46, 112, 121] 915), (vi 264), (vi 2), (vi 0), (vi 0), (vi 3), (.ref 405), (.bool true), (vi 181), (.ref 406), .none, (.ref 407), (.ref 408), (.ref 409), (vi 921), (vi 264), (vs [47, 99, 108, 97, 105, 109, 47, 99, 117, 116, 46, 112, 121] 922)]⟩), ⟨[]⟩⟩
noncomputable def o411 : Obj := ⟨(.type PySem.W.SL.s7174869446012820540x8), none, (fn (sm 51 9) (S [114, 101, 97, 100, 95, 110, 117, 109, 98, 101, 114]) (S [76, 101, 120, 101, 114, 46, 114, 101, 97, 100, 95, 110, 117, 109, 98, 101, 114]) 3 .none .none .none (vs [106, 115, 46, 108, 101, 120, 101, 114] 819) (.ref 410) .none 0), ⟨[]⟩⟩
noncomputable def o412 : Obj := ⟨(.type PySem.W.SL.s2766695959194262286x5), none, (.seq ⟨[]⟩ 0), ⟨[]⟩⟩
noncomputable def o413 : Obj := ⟨.none, none, (.fields ⟨[]⟩), ⟨[]⟩⟩
noncomputable def o414 : Obj := ⟨(.type PySem.W.SL.s2766695959194262286x5), none, (.seq ⟨[(vs [115, 101, 108, 102] 927), (vs [118, 97, 108, 117, 101] 928), (vs [109, 97, 110, 121] 929)]⟩ 0), ⟨[]⟩⟩
noncomputable def o415 : Obj := ⟨(.type PySem.W.SL.s2766695959194262286x5), none, (.seq ⟨[]⟩ 0), ⟨[]⟩⟩
noncomputable def o416 : Obj := ⟨.none, none, (fn (sm 51 10) (S [114, 101, 97, 100, 95, 104, 101, 120]) (S [76, 101, 120, 101, 114, 46, 114, 101, 97, 100, 95, 104, 101, 120]) 0 .none .none .none .none .none .none 0), ⟨[]⟩⟩
noncomputable def o417 : Obj := ⟨(.type PySem.W.SL.s5856160107412720595x4), none, (.fields ⟨[(vs [114, 101, 97, 100, 95, 104, 101, 120] 924), (vs [76, 101, 120, 101, 114, 46, 114, 101, 97, 100, 95, 104, 101, 120] 925), (vs [47, 99, 108, 97, 105, 109, 47, 99, 117, 116, 46, 112, 121] 926), (vi 278), (vi 1), (vi 0), (vi 0), (vi 3), (.ref 412), (.bool true), (vi 181), (.ref 413), .none, (.ref 414), (.ref 415), (.ref 416), (vi 930), (vi 278), (vs [47, 99, 108, 97, 105, 109, 47, 99, 117, 116, 46, 112, 121] 931)]⟩), ⟨[]⟩⟩
noncomputable def o418 : Obj := ⟨(.type PySem.W.SL.s7174869446012820540x8), none, (fn (sm 51 10) (S [114, 101, 97, 100, 95, 104, 101, 120]) (S [76, 101, 120, 101, 114, 46, 114, 101, 97, 100, 95, 104, 101, 120]) 3 .none .none .none (vs [106, 115, 46, 108, 101, 120, 101, 114] 819) (.ref 417) .none 0), ⟨[]⟩⟩
noncomputable def o419 : Obj := ⟨(.type PySem.W.SL.s2766695959194262286x5), none, (.seq ⟨[]⟩ 0), ⟨[]⟩⟩
noncomputable def o420 : Obj := ⟨.none, none, (.fields ⟨[]⟩), ⟨[]⟩⟩
noncomputable def o421 : Obj := ⟨(.type PySem.W.SL.s2766695959194262286x5), none, (.seq ⟨[(vs [115, 101, 108, 102] 936), (vs [118, 97, 108, 117, 101] 937)]⟩ 0), ⟨[]⟩⟩
noncomputable def o422 : Obj := ⟨(.type PySem.W.SL.s2766695959194262286x5), none, (.seq ⟨[]⟩ 0), ⟨[]⟩⟩
noncomputable def o423 : Obj := ⟨.none, none, (fn (sm 51 11) (S [114, 101, 97, 100, 95, 111, 99, 116, 97, 108]) (S [76, 101, 120, 101, 114, 46, 114, 101, 97, 100, 95, 111, 99, 116, 97, 108]) 0 .none .none .none .none .none .none 0), ⟨[]⟩⟩
noncomputable def o424 : Obj := ⟨(.type PySem.W.SL.s5856160107412720595x4), none, (.fields ⟨[(vs [114, 101, 97, 100, 95, 111, 99, 116, 97, 108] 933), (vs [76, 101, 120, 101, 114, 46, 114, 101, 97, 100, 95, 111, 99, 116, 97, 108] 934), (vs [47, 99, 108, 97, 105, 109, 47, 99, 117, 116, 46, 112, 121] 935), (vi 289), (vi 1), (vi 0), (vi 0), (vi 3), (.ref 419), (.bool true), (vi 181), (.ref 420), .none, (.ref 421), (.ref 422), (.ref 423), (vi 938), (vi 289), (vs [47, 99, 108, 97, 105, 109, 47, 99, 117, 116, 46, 112, 121] 939)]⟩), ⟨[]⟩⟩
noncomputable def o425 : Obj := ⟨(.type PySem.W.SL.s7174869446012820540x8), none, (fn (sm 51 11) (S [114, 101, 97, 100, 95, 111, 99, 116, 97, 108]) (S [76, 101, 120, 101, 114, 46, 114, 101, 97, 100, 95, 111, 99, 116, 97, 108]) 3 .none .none .none (vs [106, 115, 46, 108, 101, 120, 101, 114] 819) (.ref 424) .none 0), ⟨[]⟩⟩
noncomputable def o426 : Obj := ⟨(.type PySem.W.SL.s2766695959194262286x5), none, (.seq ⟨[]⟩ 0), ⟨[]⟩⟩
noncomputable def o427 : Obj := ⟨.none, none, (.fields ⟨[]⟩), ⟨[]⟩⟩
noncomputable def o428 : Obj := ⟨(.type PySem.W.SL.s2766695959194262286x5), none, (.seq ⟨[(vs [115, 101, 108, 102] 944), (vs [119, 104, 111, 108, 101] 945), (vs [112, 97, 114, 116] 946)]⟩ 0), ⟨[]⟩⟩
noncomputable def o429 : Obj := ⟨(.type PySem.W.SL.s2766695959194262286x5), none, (.seq ⟨[]⟩ 0), ⟨[]⟩⟩
noncomputable def o430 : Obj := ⟨.none, none, (fn (sm 51 12) (S [114, 101, 97, 100, 95, 100, 101, 99, 105, 109, 97, 108]) (S [76, 101, 120, 101, 114, 46, 114, 101, 97, 100, 95, 100, 101, 99, 105, 109, 97, 108]) 0 .none .none .none .none .none .none 0), ⟨[]⟩⟩
noncomputable def o431 : Obj := ⟨(.type PySem.W.SL.s5856160107412720595x4), none, (.fields ⟨[(vs [114, 101, 97, 100, 95, 100, 101, 99, 105, 109, 97, 108] 941), (vs [76, 101, 120, 101, 114, 46, 114, 101, 97, 100, 95, 100, 101, 99, 105, 109, 97, 108] 942), (vs [47, 99, 108, 97, 105, 109, 47, 99, 117, 116, 46, 112, 121] 943), (vi 296), (vi 1), (vi 0), (vi 0), (vi 3), (.ref 426), (.bool true), (vi 181), (.ref 427), .none, (.ref 428), (.ref 429), (.ref 430), (vi 947), (vi 296), (vs [47, 99, 108, 97, 105, 109, 47, 99, 117, 116, 46, 112, 121] 948)]⟩), ⟨[]⟩⟩
noncomputable def o432 : Obj := ⟨(.type PySem.W.SL.s7174869446012820540x8), none, (fn (sm 51 12) (S [114, 101, 97, 100, 95, 100, 101, 99, 105, 109, 97, 108]) (S [76, 101, 120, 101, 114, 46, 114, 101, 97, 100, 95, 100, 101, 99, 105, 109, 97, 108]) 3 .none .none .none (vs [106, 115, 46, 108, 101, 120, 101, 114] 819) (.ref 431) .none 0), ⟨[]⟩⟩
noncomputable def o433 : Obj := ⟨(.type PySem.W.SL.s2766695959194262286x5), none, (.seq ⟨[]⟩ 0), ⟨[]⟩⟩
noncomputable def o434 : Obj := ⟨.none, none, (.fields ⟨[]⟩), ⟨[]⟩⟩
noncomputable def o435 : Obj := ⟨(.type PySem.W.SL.s2766695959194262286x5), none, (.seq ⟨[(vs [115, 101, 108, 102] 953), (vs [115, 105, 103, 110] 954), (vs [102, 105, 103, 117, 114, 101, 115] 955), (vs [115, 104, 111, 119, 110] 956), (vs [112, 111, 119, 101, 114] 957)]⟩ 0), ⟨[]⟩⟩
noncomputable def o436 : Obj := ⟨(.type PySem.W.SL.s2766695959194262286x5), none, (.seq ⟨[]⟩ 0), ⟨[]⟩⟩
noncomputable def o437 : Obj := ⟨.none, none, (fn (sm 51 13) (S [114, 101, 97, 100, 95, 101, 120, 112, 111, 110, 101, 110, 116]) (S [76, 101, 120, 101, 114, 46, 114, 101, 97, 100, 95, 101, 120, 112, 111, 110, 101, 110, 116]) 0 .none .none .none .none .none .none 0), ⟨[]⟩⟩
noncomputable def o438 : Obj := ⟨(.type PySem.W.SL.s5856160107412720595x4), none, (.fields ⟨[(vs [114, 101, 97, 100, 95, 101, 120, 112, 111, 110, 101, 110, 116] 950), (vs [76, 101, 120, 101, 114, 46, 114, 101, 97, 100, 95, 101, 120, 112, 111, 110, 101, 110, 116] 951), (vs [47, 99, 108, 97, 105, 109, 47, 99, 117, 116, 46, 112, 121] 952), (vi 308), (vi 1), (vi 0), (vi 0), (vi 3), (.ref 433), (.bool true), (vi 181), (.ref 434), .none, (.ref 435), (.ref 436), (.ref 437), (vi 958), (vi 308), (vs [47, 99, 108, 97, 105, 109, 47, 99, 117, 116, 46, 112, 121] 959)]⟩), ⟨[]⟩⟩
noncomputable def o439 : Obj := ⟨(.type PySem.W.SL.s7174869446012820540x8), none, (fn (sm 51 13) (S [114, 101, 97, 100, 95, 101, 120, 112, 111, 110, 101, 110, 116]) (S [76, 101, 120, 101, 114, 46, 114, 101, 97, 100, 95, 101, 120, 112, 111, 110, 101, 110, 116]) 3 .none .none .none (vs [106, 115, 46, 108, 101, 120, 101, 114] 819) (.ref 438) .none 0), ⟨[]⟩⟩
noncomputable def o440 : Obj := ⟨(.type PySem.W.SL.s2766695959194262286x5), none, (.seq ⟨[]⟩ 0), ⟨[]⟩⟩
noncomputable def o441 : Obj := ⟨.none, none, (.fields ⟨[]⟩), ⟨[]⟩⟩
noncomputable def o442 : Obj := ⟨(.type PySem.W.SL.s2766695959194262286x5), none, (.seq ⟨[(vs [115, 101, 108, 102] 964), (vs [116, 111, 107, 101, 110] 965), (vs [98, 111, 100, 121] 966), (vs [115, 116, 97, 114, 116] 967), (vs [102, 111, 117, 110, 100] 968)]⟩ 0), ⟨[]⟩⟩
noncomputable def o443 : Obj := ⟨(.type PySem.W.SL.s2766695959194262286x5), none, (.seq ⟨[]⟩ 0), ⟨[]⟩⟩
noncomputable def o444 : Obj := ⟨.none, none, (fn (sm 51 14) (S [114, 101, 103, 101, 120]) (S [76, 101, 120, 101, 114, 46, 114, 101, 103, 101, 120]) 0 .none .none .none .none .none .none 0), ⟨[]⟩⟩
noncomputable def o445 : Obj := ⟨(.type PySem.W.SL.s5856160107412720595x4), none, (.fields ⟨[(vs [114, 101, 103, 101, 120] 961), (vs [76, 101, 120, 101, 114, 46, 114, 101, 103, 101, 120] 962), (vs [47, 99, 108, 97, 105, 109, 47, 99, 117, 116, 46, 112, 121] 963), (vi 322), (vi 2), (vi 0), (vi 0), (vi 3), (.ref 440), (.bool true), (vi 181), (.ref 441), .none, (.ref 442), (.ref 443), (.ref 444), (vi 969), (vi 322), (vs [47, 99, 108, 97, 105, 109, 47, 99, 117, 116, 46, 112, 121] 970)]⟩), ⟨[]⟩⟩
noncomputable def o446 : Obj := ⟨(.type PySem.W.SL.s7174869446012820540x8), none, (fn (sm 51 14) (S [114, 101, 103, 101, 120]) (S [76, 101, 120, 101, 114, 46, 114, 101, 103, 101, 120]) 3 .none .none .none (vs [106, 115, 46, 108, 101, 120, 101, 114] 819) (.ref 445) .none 0), ⟨[]⟩⟩
noncomputable def o447 : Obj := ⟨(.type PySem.W.SL.s2766695959194262286x5), none, (.seq ⟨[]⟩ 0), ⟨[]⟩⟩
noncomputable def o448 : Obj := ⟨.none, none, (.fields ⟨[]⟩), ⟨[]⟩⟩
noncomputable def o449 : Obj := ⟨(.type PySem.W.SL.s2766695959194262286x5), none, (.seq ⟨[(vs [115, 101, 108, 102] 975), (vs [115, 116, 97, 114, 116] 976), (vs [105, 115, 95, 99, 108, 97, 115, 115] 977), (vs [99, 111, 100, 101] 978)]⟩ 0), ⟨[]⟩⟩
noncomputable def o450 : Obj := ⟨(.type PySem.W.SL.s2766695959194262286x5), none, (.seq ⟨[]⟩ 0), ⟨[]⟩⟩
noncomputable def o451 : Obj := ⟨.none, none, (fn (sm 51 15) (S [114, 101, 103, 101, 120, 95, 98, 111, 100, 121]) (S [76, 101, 120, 101, 114, 46, 114, 101, 103, 101, 120, 95, 98, 111, 100, 121]) 0 .none .none .none .none .none .none 0), ⟨[]⟩⟩
noncomputable def o452 : Obj := ⟨(.type PySem.W.SL.s5856160107412720595x4), none, (.fields ⟨[(vs [114, 101, 103, 101, 120, 95, 98, 111, 100, 121] 972), (vs [76, 101, 120, 101, 114, 46, 114, 101, 103, 101, 120, 95, 98, 111, 100, 121] 973), (vs [47, 99, 108, 97, 105, 109, 47, 99, 117, 116, 46, 112, 121] 974), (vi 333), (vi 1), (vi 0), (vi 0), (vi 3), (.ref 447), (.bool true), (vi 181), (.ref 448), .none, (.ref 449), (.ref 450), (.ref 451), (vi 979), (vi 333), (vs [47, 99, 108, 97, 105, 109, 47, 99, 117, 116, 46, 112, 121] 980)]⟩), ⟨[]⟩⟩
noncomputable def o453 : Obj := ⟨(.type PySem.W.SL.s7174869446012820540x8), none, (fn (sm 51 15) (S [114, 101, 103, 101, 120, 95, 98, 111, 100, 121]) (S [76, 101, 120, 101, 114, 46, 114, 101, 103, 101, 120, 95, 98, 111, 100, 121]) 3 .none .none .none (vs [106, 115, 46, 108, 101, 120, 101, 114] 819) (.ref 452) .none 0), ⟨[]⟩⟩
noncomputable def o454 : Obj := ⟨(.type PySem.W.SL.s2766695959194262286x5), none, (.seq ⟨[]⟩ 0), ⟨[]⟩⟩
noncomputable def o455 : Obj := ⟨.none, none, (.fields ⟨[]⟩), ⟨[]⟩⟩
noncomputable def o456 : Obj := ⟨(.type PySem.W.SL.s2766695959194262286x5), none, (.seq ⟨[(vs [115, 101, 108, 102] 985), (vs [116, 111, 107, 101, 110] 986), (vs [113, 117, 111, 116, 101] 987), (vs [102, 111, 117, 110, 100] 988), (vs [99, 111, 100, 101] 989)]⟩ 0), ⟨[]⟩⟩
noncomputable def o457 : Obj := ⟨(.type PySem.W.SL.s2766695959194262286x5), none, (.seq ⟨[]⟩ 0), ⟨[]⟩⟩
noncomputable def o458 : Obj := ⟨.none, none, (fn (sm 51 16) (S [114, 101, 97, 100, 95, 116, 101, 120, 116]) (S [76, 101, 120, 101, 114, 46, 114, 101, 97, 100, 95, 116, 101, 120, 116]) 0 .none .none .none .none .none .none 0), ⟨[]⟩⟩
noncomputable def o459 : Obj := ⟨(.type PySem.W.SL.s5856160107412720595x4), none, (.fields ⟨[(vs [114, 101, 97, 100, 95, 116, 101, 120, 116] 982), (vs [76, 101, 120, 101, 114, 46, 114, 101, 97, 100, 95, 116, 101, 120, 116] 983), (vs [47, 99, 108, 97, 105, 109, 47, 99, 117, 116, 46, 112, 121] 984), (vi 349), (vi 3), (vi 0), (vi 0), (vi 3), (.ref 454), (.bool true), (vi 181), (.ref 455), .none, (.ref 456), (.ref 457), (.ref 458), (vi 990), (vi 349), (vs [47, 99, 108, 97, 105, 109, 47, 99, 117, 116, 46, 112, 121] 991)]⟩), ⟨[]⟩⟩
noncomputable def o460 : Obj := ⟨(.type PySem.W.SL.s7174869446012820540x8), none, (fn (sm 51 16) (S [114, 101, 97, 100, 95, 116, 101, 120, 116]) (S [76, 101, 120, 101, 114, 46, 114, 101, 97, 100, 95, 116, 101, 120, 116]) 3 .none .none .none (vs [106, 115, 46, 108, 101, 120, 101, 114] 819) (.ref 459) .none 0), ⟨[]⟩⟩
noncomputable def o461 : Obj := ⟨(.type PySem.W.SL.s2766695959194262286x5), none, (.seq ⟨[]⟩ 0), ⟨[]⟩⟩
noncomputable def o462 : Obj := ⟨.none, none, (.fields ⟨[]⟩), ⟨[]⟩⟩
noncomputable def o463 : Obj := ⟨(.type PySem.W.SL.s2766695959194262286x5), none, (.seq ⟨[(vs [115, 101, 108, 102] 996), (vs [116, 111, 107, 101, 110] 997), (vs [116, 111, 108, 100] 998)]⟩ 0), ⟨[]⟩⟩
noncomputable def o464 : Obj := ⟨(.type PySem.W.SL.s2766695959194262286x5), none, (.seq ⟨[]⟩ 0), ⟨[]⟩⟩
noncomputable def o465 : Obj := ⟨.none, none, (fn (sm 51 17) (S [101, 115, 99, 97, 112, 101, 100]) (S [76, 101, 120, 101, 114, 46, 101, 115, 99, 97, 112, 101, 100]) 0 .none .none .none .none .none .none 0), ⟨[]⟩⟩
noncomputable def o466 : Obj := ⟨(.type PySem.W.SL.s5856160107412720595x4), none, (.fields ⟨[(vs [101, 115, 99, 97, 112, 101, 100] 993), (vs [76, 101, 120, 101, 114, 46, 101, 115, 99, 97, 112, 101, 100] 994), (vs [47, 99, 108, 97, 105, 109, 47, 99, 117, 116, 46, 112, 121] 995), (vi 365), (vi 2), (vi 0), (vi 0), (vi 3), (.ref 461), (.bool true), (vi 181), (.ref 462), .none, (.ref 463), (.ref 464), (.ref 465), (vi 999), (vi 365), (vs [47, 99, 108, 97, 105, 109, 47, 99, 117, 116, 46, 112, 121] 1000)]⟩), ⟨[]⟩⟩
noncomputable def o467 : Obj := ⟨(.type PySem.W.SL.s7174869446012820540x8), none, (fn (sm 51 17) (S [101, 115, 99, 97, 112, 101, 100]) (S [76, 101, 120, 101, 114, 46, 101, 115, 99, 97, 112, 101, 100]) 3 .none .none .none (vs [106, 115, 46, 108, 101, 120, 101, 114] 819) (.ref 466) .none 0), ⟨[]⟩⟩
noncomputable def o468 : Obj := ⟨(.type PySem.W.SL.s2766695959194262286x5), none, (.seq ⟨[]⟩ 0), ⟨[]⟩⟩
noncomputable def o469 : Obj := ⟨.none, none, (.fields ⟨[]⟩), ⟨[]⟩⟩
noncomputable def o470 : Obj := ⟨(.type PySem.W.SL.s2766695959194262286x5), none, (.seq ⟨[(vs [115, 101, 108, 102] 1005), (vs [116, 111, 107, 101, 110] 1006), (vs [112, 117, 110, 99, 116] 1007)]⟩ 0), ⟨[]⟩⟩
noncomputable def o471 : Obj := ⟨(.type PySem.W.SL.s2766695959194262286x5), none, (.seq ⟨[]⟩ 0), ⟨[]⟩⟩
noncomputable def o472 : Obj := ⟨.none, none, (fn (sm 51 18) (S [114, 101, 97, 100, 95, 112, 117, 110, 99, 116]) (S [76, 101, 120, 101, 114, 46, 114, 101, 97, 100, 95, 112, 117, 110, 99, 116]) 0 .none .none .none .none .none .none 0), ⟨[]⟩⟩
noncomputable def o473 : Obj := ⟨(.type PySem.W.SL.s5856160107412720595x4), none, (.fields ⟨[(vs [114, 101, 97, 100, 95, 112, 117, 110, 99, 116] 1002), (vs [76, 101, 120, 101, 114, 46, 114, 101, 97, 100, 95, 112, 117, 110, 99, 116] 1003), (vs [47, 99, 108, 97, 105, 109, 47, 99, 117, 116, 46, 112, 121] 1004), (vi 376), (vi 2), (vi 0), (vi 0), (vi 3), (.ref 468), (.bool true), (vi 181), (.ref 469), .none, (.ref 470), (.ref 471), (.ref 472), (vi 1008), (vi 376), (vs [47, 99, 108, 97, 105, 109, 47, 99, 117, 116, 46, 112, 121] 1009)]⟩), ⟨[]⟩⟩
noncomputable def o474 : Obj := ⟨(.type PySem.W.SL.s7174869446012820540x8), none, (fn (sm 51 18) (S [114, 101, 97, 100, 95, 112, 117, 110, 99, 116]) (S [76, 101, 120, 101, 114, 46, 114, 101, 97, 100, 95, 112, 117, 110, 99, 116]) 3 .none .none .none (vs [106, 115, 46, 108, 101, 120, 101, 114] 819) (.ref 473) .none 0), ⟨[]⟩⟩
noncomputable def o475 : Obj := ⟨(.type PySem.W.SL.s2766695959194262286x5), none, (.seq ⟨[(vs [97, 116] 1011), (vs [108, 105, 110, 101] 1012), (vs [116, 101, 120, 116] 1013)]⟩ 0), ⟨[]⟩⟩
noncomputable def o476 (P : Params) : Obj := ⟨(.type PySem.W.SL.s14018661285674007319x4), none, (.dict ⟨[de P [95, 95, 109, 111, 100, 117, 108, 101, 95, 95] 828 (vs [106, 115, 46, 108, 101, 120, 101, 114] 819), de P [95, 95, 102, 105, 114, 115, 116, 108, 105, 110, 101, 110, 111, 95, 95] 832 (vj 178 831), de P [95, 95, 105, 110, 105, 116, 95, 95] 840 (.ref 348), de P [110, 101, 120, 116] 851 (.ref 355), de P [102, 97, 105, 108] 859 (.ref 362), de P [101, 110, 100, 95, 108, 105, 110, 101] 866 (.ref 369), de P [115, 107, 105, 112, 95, 98, 108, 97, 110, 107, 115] 875 (.ref 376), de P [115, 107, 105, 112, 95, 99, 111, 109, 109, 101, 110, 116] 882 (.ref 383), de P [110, 97, 109, 101, 95, 115, 105, 103, 110] 894 (.ref 390), de P [114, 101, 97, 100, 95, 110, 97, 109, 101] 904 (.ref 397), de P [115, 107, 105, 112, 95, 100, 105, 103, 105, 116, 115] 912 (.ref 404), de P [114, 101, 97, 100, 95, 110, 117, 109, 98, 101, 114] 923 (.ref 411), de P [114, 101, 97, 100, 95, 104, 101, 120] 932 (.ref 418), de P [114, 101, 97, 100, 95, 111, 99, 116, 97, 108] 940 (.ref 425), de P [114, 101, 97, 100, 95, 100, 101, 99, 105, 109, 97, 108] 949 (.ref 432), de P [114, 101, 97, 100, 95, 101, 120, 112, 111, 110, 101, 110, 116] 960 (.ref 439), de P [114, 101, 103, 101, 120] 971 (.ref 446), de P [114, 101, 103, 101, 120, 95, 98, 111, 100, 121] 981 (.ref 453), de P [114, 101, 97, 100, 95, 116, 101, 120, 116] 992 (.ref 460), de P [101, 115, 99, 97, 112, 101, 100] 1001 (.ref 467), de P [114, 101, 97, 100, 95, 112, 117, 110, 99, 116] 1010 (.ref 474), de P [95, 95, 115, 116, 97, 116, 105, 99, 95, 97, 116, 116, 114, 105, 98, 117, 116, 101, 115, 95, 95] 1014 (.ref 475), de P [95, 95, 100, 105, 99, 116, 95, 95] 1016 (.ref 478), de P [95, 95, 119, 101, 97, 107, 114, 101, 102, 95, 95] 1018 (.ref 479), de P [95, 95, 100, 111, 99, 95, 95] 1019 .none]⟩ 4), ⟨[]⟩⟩
noncomputable def o477 : Obj := ⟨(.type PySem.W.SL.s17162191345867700912x4), none, (.cls ⟨(S [76, 101, 120, 101, 114]), [(.type PySem.W.SL.s2742458400755230247x6)], [(.ref 477), (.type PySem.W.SL.s2742458400755230247x6)], 476, (S [76, 101, 120, 101, 114]), true, [], [], false, none, false⟩), ⟨[none, none, (some (vs [76, 101, 120, 101, 114] 821)), (some (vs [76, 101, 120, 101, 114] 829)), (some (.builtin PySem.W.SL.s11443829558043349243x14)), (some (.bool true))]⟩⟩
noncomputable def o478 : Obj := ⟨(.type PySem.W.SL.s14755015743595814543x17), none, (.fields ⟨[(vs [95, 95, 100, 105, 99, 116, 95, 95] 1015), (.ref 477), (.builtin PySem.W.SL.s6511155373996960695x17), (.builtin PySem.W.SL.s12411053484034534018x21)]⟩), ⟨[]⟩⟩
noncomputable def o479 : Obj := ⟨(.type PySem.W.SL.s14755015743595814543x17), none, (.fields ⟨[(vs [95, 95, 119, 101, 97, 107, 114, 101, 102, 95, 95] 1017), (.ref 477), (.builtin PySem.W.SL.s10220274742760427390x26), .none]⟩), ⟨[]⟩⟩
noncomputable def o480 : Obj := ⟨(.type PySem.W.SL.s4290257624100764138x5), none, (.fields ⟨[(.ref 477), (.ref 477), (.ref 477)]⟩), ⟨[]⟩⟩
noncomputable def o481 : Obj := ⟨(.type PySem.W.SL.s11030030927630378310x26), none, (.fields ⟨[(.builtin PySem.W.SL.s4860613602091757760x24), (.ref 477)]⟩), ⟨[]⟩⟩
noncomputable def o482 : Obj := ⟨(.type PySem.W.SL.s2766695959194262286x5), none, (.seq ⟨[]⟩ 0), ⟨[]⟩⟩
noncomputable def o483 : Obj := ⟨.none, none, (.fields ⟨[]⟩), ⟨[]⟩⟩
noncomputable def o484 : Obj := ⟨(.type PySem.W.SL.s2766695959194262286x5), none, (.seq ⟨[(vs [116, 101, 120, 116] 1025), (vs [108, 101, 120, 101, 114] 1026), (vs [102, 111, 117, 110, 100] 1027), (vs [116, 111, 107, 101, 110] 1028)]⟩ 0), ⟨[]⟩⟩
noncomputable def o485 : Obj := ⟨(.type PySem.W.SL.s2766695959194262286x5), none, (.seq ⟨[]⟩ 0), ⟨[]⟩⟩
noncomputable def o486 : Obj := ⟨.none, none, (fn (st 52) (S [97, 108, 108, 95, 116, 111, 107, 101, 110, 115]) (S [97, 108, 108, 95, 116, 111, 107, 101, 110, 115]) 0 .none .none .none .none .none .none 0), ⟨[]⟩⟩
noncomputable def o487 : Obj := ⟨(.type PySem.W.SL.s5856160107412720595x4), none, (.fields ⟨[(vs [97, 108, 108, 95, 116, 111, 107, 101, 110, 115] 1022), (vs [97, 108, 108, 95, 116, 111, 107, 101, 110, 115] 1023), (vs [47, 99, 108, 97, 105, 109, 47, 99, 117, 116, 46, 112, 121] 1024), (vi 383), (vi 1), (vi 0), (vi 0), (vi 3), (.ref 482), (.bool true), (vi 181), (.ref 483), .none, (.ref 484), (.ref 485), (.ref 486), (vi 1029), (vi 383), (vs [47, 99, 108, 97, 105, 109, 47, 99, 117, 116, 46, 112, 121] 1030)]⟩), ⟨[]⟩⟩
noncomputable def o488 : Obj := ⟨(.type PySem.W.SL.s7174869446012820540x8), none, (fn (st 52) (S [97, 108, 108, 95, 116, 111, 107, 101, 110, 115]) (S [97, 108, 108, 95, 116, 111, 107, 101, 110, 115]) 3 .none .none .none (vs [106, 115, 46, 108, 101, 120, 101, 114] 819) (.ref 487) .none 0), ⟨[]⟩⟩
noncomputable def o489 : Obj := ⟨(.type PySem.W.SL.s2766695959194262286x5), none, (.seq ⟨[]⟩ 0), ⟨[]⟩⟩
noncomputable def o490 : Obj := ⟨.none, none, (.fields ⟨[]⟩), ⟨[]⟩⟩
noncomputable def o491 : Obj := ⟨(.type PySem.W.SL.s2766695959194262286x5), none, (.seq ⟨[(vs [99, 101, 108, 108, 115] 1037), (vs [115, 111, 109, 101] 1038), (vs [103, 97, 112, 115] 1039), (vs [116, 101, 120, 116] 1040), (vs [101, 110, 100, 115] 1041), (vs [99, 101, 108, 108] 1042)]⟩ 0), ⟨[]⟩⟩
noncomputable def o492 : Obj := ⟨(.type PySem.W.SL.s2766695959194262286x5), none, (.seq ⟨[]⟩ 0), ⟨[]⟩⟩
noncomputable def o493 : Obj := ⟨.none, none, (fn (st 54) (S [95, 108, 97, 119, 95, 116, 101, 120, 116]) (S [95, 108, 97, 119, 95, 116, 101, 120, 116]) 0 .none .none .none .none .none .none 0), ⟨[]⟩⟩
noncomputable def o494 : Obj := ⟨(.type PySem.W.SL.s5856160107412720595x4), none, (.fields ⟨[(vs [95, 108, 97, 119, 95, 116, 101, 120, 116] 1034), (vs [95, 108, 97, 119, 95, 116, 101, 120, 116] 1035), (vs [47, 99, 108, 97, 105, 109, 47, 99, 117, 116, 46, 112, 121] 1036), (vi 391), (vi 1), (vi 0), (vi 0), (vi 3), (.ref 489), (.bool true), (vi 181), (.ref 490), .none, (.ref 491), (.ref 492), (.ref 493), (vi 1043), (vi 391), (vs [47, 99, 108, 97, 105, 109, 47, 99, 117, 116, 46, 112, 121] 1044)]⟩), ⟨[]⟩⟩
noncomputable def o495 : Obj := ⟨(.type PySem.W.SL.s7174869446012820540x8), none, (fn (st 54) (S [95, 108, 97, 119, 95, 116, 101, 120, 116]) (S [95, 108, 97, 119, 95, 116, 101, 120, 116]) 3 .none .none .none (vs [108, 97, 119, 95, 115, 122, 48, 48, 56, 49, 95, 48, 49] 1032) (.ref 494) .none 0), ⟨[]⟩⟩
noncomputable def o496 : Obj := ⟨(.type PySem.W.SL.s2766695959194262286x5), none, (.seq ⟨[]⟩ 0), ⟨[]⟩⟩
noncomputable def o497 : Obj := ⟨.none, none, (.fields ⟨[]⟩), ⟨[]⟩⟩
noncomputable def o498 : Obj := ⟨.none, none, (fn (st 55) (S [95, 108, 97, 119, 95, 116, 111, 108, 100]) (S [95, 108, 97, 119, 95, 116, 111, 108, 100]) 0 .none .none .none .none .none .none 0), ⟨[]⟩⟩
noncomputable def o499 : Obj := ⟨(.type PySem.W.SL.s5856160107412720595x4), none, (.fields ⟨[(vs [95, 108, 97, 119, 95, 116, 111, 108, 100] 1046), (vs [95, 108, 97, 119, 95, 116, 111, 108, 100] 1047), (vs [47, 99, 108, 97, 105, 109, 47, 99, 117, 116, 46, 112, 121] 1048), (vi 399), (vi 1), (vi 0), (vi 0), (vi 3), (.ref 496), (.bool true), (vi 181), (.ref 497), .none, .none, .none, (.ref 498), (vi 1049), (vi 399), (vs [47, 99, 108, 97, 105, 109, 47, 99, 117, 116, 46, 112, 121] 1050)]⟩), ⟨[]⟩⟩
noncomputable def o500 : Obj := ⟨(.type PySem.W.SL.s7174869446012820540x8), none, (fn (st 55) (S [95, 108, 97, 119, 95, 116, 111, 108, 100]) (S [95, 108, 97, 119, 95, 116, 111, 108, 100]) 3 .none .none .none (vs [108, 97, 119, 95, 115, 122, 48, 48, 56, 49, 95, 48, 49] 1032) (.ref 499) .none 0), ⟨[]⟩⟩
noncomputable def o501 : Obj := ⟨(.type PySem.W.SL.s2766695959194262286x5), none, (.seq ⟨[]⟩ 0), ⟨[]⟩⟩
noncomputable def o502 : Obj := ⟨.none, none, (.fields ⟨[]⟩), ⟨[]⟩⟩
noncomputable def o503 : Obj := ⟨.none, none, (fn (st 56) (S [108, 97, 119]) (S [108, 97, 119]) 0 .none .none .none .none .none .none 0), ⟨[]⟩⟩
noncomputable def o504 : Obj := ⟨(.type PySem.W.SL.s5856160107412720595x4), none, (.fields ⟨[(vs [108, 97, 119] 1052), (vs [108, 97, 119] 1053), (vs [47, 99, 108, 97, 105, 109, 47, 99, 117, 116, 46, 112, 121] 1054), (vi 401), (vi 1), (vi 0), (vi 0), (vi 3), (.ref 501), (.bool true), (vi 181), (.ref 502), .none, .none, .none, (.ref 503), (vi 1055), (vi 401), (vs [47, 99, 108, 97, 105, 109, 47, 99, 117, 116, 46, 112, 121] 1056)]⟩), ⟨[]⟩⟩
noncomputable def o505 : Obj := ⟨(.type PySem.W.SL.s7174869446012820540x8), none, (fn (st 56) (S [108, 97, 119]) (S [108, 97, 119]) 3 .none .none .none (vs [108, 97, 119, 95, 115, 122, 48, 48, 56, 49, 95, 48, 49] 1032) (.ref 504) .none 0), ⟨[]⟩⟩
noncomputable def o2v0 : Obj := ⟨.none, none, (.dict ⟨[]⟩ 0), ⟨[]⟩⟩
noncomputable def o3v1 (P : Params) : Obj := ⟨(.type PySem.W.SL.s14018661285674007319x4), none, (.dict ⟨[de P [95, 95, 110, 97, 109, 101, 95, 95] 165 (vs [95, 95, 109, 97, 105, 110, 95, 95] 164), de P [95, 95, 100, 111, 99, 95, 95] 166 .none, de P [95, 95, 112, 97, 99, 107, 97, 103, 101, 95, 95] 167 .none, de P [95, 95, 108, 111, 97, 100, 101, 114, 95, 95] 168 (.builtin PySem.W.SL.s7097527257260152453x26), de P [95, 95, 115, 112, 101, 99, 95, 95] 169 .none, de P [95, 95, 97, 110, 110, 111, 116, 97, 116, 105, 111, 110, 115, 95, 95] 170 (.ref 6), de P [95, 95, 98, 117, 105, 108, 116, 105, 110, 115, 95, 95] 171 (.ref 4), de P [95, 95, 102, 105, 108, 101, 95, 95] 173 (vs [47, 99, 108, 97, 105, 109, 47, 99, 117, 116, 46, 112, 121] 172), de P [95, 95, 99, 97, 99, 104, 101, 100, 95, 95] 174 .none]⟩ 9), ⟨[]⟩⟩
noncomputable def o12v2 : Obj := ⟨.none, none, (.fields ⟨[]⟩), ⟨[]⟩⟩
noncomputable def tr0 (P : Params) : BT := (B (o0 P) (B (o1 P) (B (o3v1 P) (F o7) (F o11)) (B o5 (F o9) (F o13))) (B o2v0 (B o4 (F o8) (F o12v2)) (B o6 (F o10) (F o14))))
noncomputable def s0 (w : World) (os : OsState) : SharedT := ⟨tr0 w.params, 15, {}, ⟨[]⟩, {}, 187, os⟩
noncomputable def o3v3 (P : Params) : Obj := ⟨(.type PySem.W.SL.s14018661285674007319x4), none, (.dict ⟨[de P [95, 95, 110, 97, 109, 101, 95, 95] 165 (vs [106, 115, 46, 99, 104, 97, 114, 115] 187), de P [95, 95, 100, 111, 99, 95, 95] 166 .none, de P [95, 95, 112, 97, 99, 107, 97, 103, 101, 95, 95] 167 .none, de P [95, 95, 108, 111, 97, 100, 101, 114, 95, 95] 168 (.builtin PySem.W.SL.s7097527257260152453x26), de P [95, 95, 115, 112, 101, 99, 95, 95] 169 .none, de P [95, 95, 97, 110, 110, 111, 116, 97, 116, 105, 111, 110, 115, 95, 95] 170 (.ref 6), de P [95, 95, 98, 117, 105, 108, 116, 105, 110, 115, 95, 95] 171 (.ref 4), de P [95, 95, 102, 105, 108, 101, 95, 95] 173 (vs [47, 99, 108, 97, 105, 109, 47, 99, 117, 116, 46, 112, 121] 172), de P [95, 95, 99, 97, 99, 104, 101, 100, 95, 95] 174 .none, de P [66, 76, 65, 78, 75, 83] 200 (.ref 15), de P [76, 73, 78, 69, 95, 69, 78, 68, 83] 205 (.ref 16), de P [76, 69, 84, 84, 69, 82, 83] 270 (.ref 49)]⟩ 12), ⟨[]⟩⟩
noncomputable def tr4 (P : Params) : BT := (B (o0 P) (B (o1 P) (B (o3v3 P) (B o7 (B o15 (F o31) (F o47)) (B o23 (F o39) N)) (B o11 (B o19 (F o35) N) (B o27 (F o43) N))) (B o5 (B o9 (B o17 (F o33) (F o49)) (B o25 (F o41) N)) (B o13 (B o21 (F o37) N) (B o29 (F o45) N)))) (B o2v0 (B o4 (B o8 (B o16 (F o32) (F o48)) (B o24 (F o40) N)) (B o12v2 (B o20 (F o36) N) (B o28 (F o44) N))) (B o6 (B o10 (B o18 (F o34) N) (B o26 (F o42) N)) (B o14 (B o22 (F o38) N) (B o30 (F o46) N)))))
noncomputable def s4 (w : World) (os : OsState) : SharedT := ⟨tr4 w.params, 50, {}, ⟨[]⟩, {}, 271, os⟩
noncomputable def o3v4 (P : Params) : Obj := ⟨(.type PySem.W.SL.s14018661285674007319x4), none, (.dict ⟨[de P [95, 95, 110, 97, 109, 101, 95, 95] 165 (vs [106, 115, 46, 99, 104, 97, 114, 115] 187), de P [95, 95, 100, 111, 99, 95, 95] 166 .none, de P [95, 95, 112, 97, 99, 107, 97, 103, 101, 95, 95] 167 .none, de P [95, 95, 108, 111, 97, 100, 101, 114, 95, 95] 168 (.builtin PySem.W.SL.s7097527257260152453x26), de P [95, 95, 115, 112, 101, 99, 95, 95] 169 .none, de P [95, 95, 97, 110, 110, 111, 116, 97, 116, 105, 111, 110, 115, 95, 95] 170 (.ref 6), de P [95, 95, 98, 117, 105, 108, 116, 105, 110, 115, 95, 95] 171 (.ref 4), de P [95, 95, 102, 105, 108, 101, 95, 95] 173 (vs [47, 99, 108, 97, 105, 109, 47, 99, 117, 116, 46, 112, 121] 172), de P [95, 95, 99, 97, 99, 104, 101, 100, 95, 95] 174 .none, de P [66, 76, 65, 78, 75, 83] 200 (.ref 15), de P [76, 73, 78, 69, 95, 69, 78, 68, 83] 205 (.ref 16), de P [76, 69, 84, 84, 69, 82, 83] 270 (.ref 49), de P [80, 65, 82, 84, 83] 283 (.ref 56), de P [105, 115, 95, 97, 109, 111, 110, 103] 293 (.ref 63), de P [105, 115, 95, 119, 104, 105, 116, 101] 300 (.ref 70), de P [105, 115, 95, 108, 105, 110, 101, 95, 101, 110, 100] 307 (.ref 77), de P [105, 115, 95, 100, 105, 103, 105, 116] 314 (.ref 84), de P [105, 115, 95, 111, 99, 116, 97, 108, 95, 100, 105, 103, 105, 116] 321 (.ref 91), de P [104, 101, 120, 95, 118, 97, 108, 117, 101] 328 (.ref 98), de P [105, 115, 95, 105, 100, 95, 115, 116, 97, 114, 116] 335 (.ref 105)]⟩ 20), ⟨[]⟩⟩
noncomputable def o12v5 : Obj := ⟨.none, none, (.fields ⟨[(vi 6), (vi 0), (.ref 62), (vi 11), (vi 0), (.ref 69), (vi 13), (vi 0), (.ref 76), (vi 15), (vi 0), (.ref 83), (vi 17), (vi 0), (.ref 90), (vi 19), (vi 0), (.ref 97), (vi 25), (vi 0), (.ref 104)]⟩), ⟨[]⟩⟩
noncomputable def tr12 (P : Params) : BT := (B (o0 P) (B (o1 P) (B (o3v4 P) (B o7 (B o15 (B o31 (F o63) (F o95)) (B o47 (F o79) N)) (B o23 (B o39 (F o71) (F o103)) (B o55 (F o87) N))) (B o11 (B o19 (B o35 (F o67) (F o99)) (B o51 (F o83) N)) (B o27 (B o43 (F o75) N) (B o59 (F o91) N)))) (B o5 (B o9 (B o17 (B o33 (F o65) (F o97)) (B o49 (F o81) N)) (B o25 (B o41 (F o73) (F o105)) (B o57 (F o89) N))) (B o13 (B o21 (B o37 (F o69) (F o101)) (B o53 (F o85) N)) (B o29 (B o45 (F o77) N) (B o61 (F o93) N))))) (B o2v0 (B o4 (B o8 (B o16 (B o32 (F o64) (F o96)) (B o48 (F o80) N)) (B o24 (B o40 (F o72) (F o104)) (B o56 (F o88) N))) (B o12v5 (B o20 (B o36 (F o68) (F o100)) (B o52 (F o84) N)) (B o28 (B o44 (F o76) N) (B o60 (F o92) N)))) (B o6 (B o10 (B o18 (B o34 (F o66) (F o98)) (B o50 (F o82) N)) (B o26 (B o42 (F o74) N) (B o58 (F o90) N))) (B o14 (B o22 (B o38 (F o70) (F o102)) (B o54 (F o86) N)) (B o30 (B o46 (F o78) N) (B o62 (F o94) N))))))
noncomputable def s12 (w : World) (os : OsState) : SharedT := ⟨tr12 w.params, 106, {}, ⟨[]⟩, {}, 336, os⟩
noncomputable def o3v6 (P : Params) : Obj := ⟨(.type PySem.W.SL.s14018661285674007319x4), none, (.dict ⟨[de P [95, 95, 110, 97, 109, 101, 95, 95] 165 (vs [106, 115, 46, 100, 98, 105, 116, 115] 343), de P [95, 95, 100, 111, 99, 95, 95] 166 .none, de P [95, 95, 112, 97, 99, 107, 97, 103, 101, 95, 95] 167 .none, de P [95, 95, 108, 111, 97, 100, 101, 114, 95, 95] 168 (.builtin PySem.W.SL.s7097527257260152453x26), de P [95, 95, 115, 112, 101, 99, 95, 95] 169 .none, de P [95, 95, 97, 110, 110, 111, 116, 97, 116, 105, 111, 110, 115, 95, 95] 170 (.ref 6), de P [95, 95, 98, 117, 105, 108, 116, 105, 110, 115, 95, 95] 171 (.ref 4), de P [95, 95, 102, 105, 108, 101, 95, 95] 173 (vs [47, 99, 108, 97, 105, 109, 47, 99, 117, 116, 46, 112, 121] 172), de P [95, 95, 99, 97, 99, 104, 101, 100, 95, 95] 174 .none, de P [66, 76, 65, 78, 75, 83] 200 (.ref 15), de P [76, 73, 78, 69, 95, 69, 78, 68, 83] 205 (.ref 16), de P [76, 69, 84, 84, 69, 82, 83] 270 (.ref 49), de P [80, 65, 82, 84, 83] 283 (.ref 56), de P [105, 115, 95, 97, 109, 111, 110, 103] 293 (.ref 63), de P [105, 115, 95, 119, 104, 105, 116, 101] 300 (.ref 70), de P [105, 115, 95, 108, 105, 110, 101, 95, 101, 110, 100] 307 (.ref 77), de P [105, 115, 95, 100, 105, 103, 105, 116] 314 (.ref 84), de P [105, 115, 95, 111, 99, 116, 97, 108, 95, 100, 105, 103, 105, 116] 321 (.ref 91), de P [104, 101, 120, 95, 118, 97, 108, 117, 101] 328 (.ref 98), de P [105, 115, 95, 105, 100, 95, 115, 116, 97, 114, 116] 335 (.ref 105), de P [105, 115, 95, 105, 100, 95, 112, 97, 114, 116] 342 (.ref 112), de P [83, 73, 71, 78, 95, 66, 73, 84] 348 (vj 9223372036854775808 347), de P [70, 82, 65, 67, 84, 73, 79, 78, 95, 66, 73, 84, 83] 350 (vj 52 349), de P [72, 73, 68, 68, 69, 78, 95, 66, 73, 84] 354 (vj 4503599627370496 353), de P [69, 88, 80, 79, 78, 69, 78, 84, 95, 77, 65, 83, 75] 356 (vj 2047 355), de P [69, 88, 80, 79, 78, 69, 78, 84, 95, 83, 72, 73, 70, 84] 358 (vj 1075 357), de P [76, 69, 65, 83, 84, 95, 80, 79, 87, 69, 82] 361 (.int (Int.negSucc 1073) 360), de P [90, 69, 82, 79] 363 (vj 0 362), de P [73, 78, 70] 367 (vj 9218868437227405312 366), de P [119, 105, 100, 116, 104] 376 (.ref 119), de P [112, 97, 99, 107] 385 (.ref 126)]⟩ 31), ⟨[]⟩⟩
noncomputable def o12v7 : Obj := ⟨.none, none, (.fields ⟨[(vi 6), (vi 0), (.ref 62), (vi 11), (vi 0), (.ref 69), (vi 13), (vi 0), (.ref 76), (vi 15), (vi 0), (.ref 83), (vi 17), (vi 0), (.ref 90), (vi 19), (vi 0), (.ref 97), (vi 25), (vi 0), (.ref 104), (vi 29), (vi 0), (.ref 111), (vi 40), (vi 0), (.ref 118), (vi 50), (vi 0), (.ref 125)]⟩), ⟨[]⟩⟩
noncomputable def tr24 (P : Params) : BT := (B (o0 P) (B (o1 P) (B (o3v6 P) (B o7 (B o15 (B o31 (F o63) (F o95)) (B o47 (F o79) (F o111))) (B o23 (B o39 (F o71) (F o103)) (B o55 (F o87) (F o119)))) (B o11 (B o19 (B o35 (F o67) (F o99)) (B o51 (F o83) (F o115))) (B o27 (B o43 (F o75) (F o107)) (B o59 (F o91) (F o123))))) (B o5 (B o9 (B o17 (B o33 (F o65) (F o97)) (B o49 (F o81) (F o113))) (B o25 (B o41 (F o73) (F o105)) (B o57 (F o89) (F o121)))) (B o13 (B o21 (B o37 (F o69) (F o101)) (B o53 (F o85) (F o117))) (B o29 (B o45 (F o77) (F o109)) (B o61 (F o93) (F o125)))))) (B o2v0 (B o4 (B o8 (B o16 (B o32 (F o64) (F o96)) (B o48 (F o80) (F o112))) (B o24 (B o40 (F o72) (F o104)) (B o56 (F o88) (F o120)))) (B o12v7 (B o20 (B o36 (F o68) (F o100)) (B o52 (F o84) (F o116))) (B o28 (B o44 (F o76) (F o108)) (B o60 (F o92) (F o124))))) (B o6 (B o10 (B o18 (B o34 (F o66) (F o98)) (B o50 (F o82) (F o114))) (B o26 (B o42 (F o74) (F o106)) (B o58 (F o90) (F o122)))) (B o14 (B o22 (B o38 (F o70) (F o102)) (B o54 (F o86) (F o118))) (B o30 (B o46 (F o78) (F o110)) (B o62 (F o94) (F o126)))))))
noncomputable def s24 (w : World) (os : OsState) : SharedT := ⟨tr24 w.params, 127, {}, ⟨[]⟩, {}, 386, os⟩
noncomputable def o3v8 (P : Params) : Obj := ⟨(.type PySem.W.SL.s14018661285674007319x4), none, (.dict ⟨[de P [95, 95, 110, 97, 109, 101, 95, 95] 165 (vs [106, 115, 46, 101, 115, 99, 97, 112, 101, 115] 433), de P [95, 95, 100, 111, 99, 95, 95] 166 .none, de P [95, 95, 112, 97, 99, 107, 97, 103, 101, 95, 95] 167 .none, de P [95, 95, 108, 111, 97, 100, 101, 114, 95, 95] 168 (.builtin PySem.W.SL.s7097527257260152453x26), de P [95, 95, 115, 112, 101, 99, 95, 95] 169 .none, de P [95, 95, 97, 110, 110, 111, 116, 97, 116, 105, 111, 110, 115, 95, 95] 170 (.ref 6), de P [95, 95, 98, 117, 105, 108, 116, 105, 110, 115, 95, 95] 171 (.ref 4), de P [95, 95, 102, 105, 108, 101, 95, 95] 173 (vs [47, 99, 108, 97, 105, 109, 47, 99, 117, 116, 46, 112, 121] 172), de P [95, 95, 99, 97, 99, 104, 101, 100, 95, 95] 174 .none, de P [66, 76, 65, 78, 75, 83] 200 (.ref 15), de P [76, 73, 78, 69, 95, 69, 78, 68, 83] 205 (.ref 16), de P [76, 69, 84, 84, 69, 82, 83] 270 (.ref 49), de P [80, 65, 82, 84, 83] 283 (.ref 56), de P [105, 115, 95, 97, 109, 111, 110, 103] 293 (.ref 63), de P [105, 115, 95, 119, 104, 105, 116, 101] 300 (.ref 70), de P [105, 115, 95, 108, 105, 110, 101, 95, 101, 110, 100] 307 (.ref 77), de P [105, 115, 95, 100, 105, 103, 105, 116] 314 (.ref 84), de P [105, 115, 95, 111, 99, 116, 97, 108, 95, 100, 105, 103, 105, 116] 321 (.ref 91), de P [104, 101, 120, 95, 118, 97, 108, 117, 101] 328 (.ref 98), de P [105, 115, 95, 105, 100, 95, 115, 116, 97, 114, 116] 335 (.ref 105), de P [105, 115, 95, 105, 100, 95, 112, 97, 114, 116] 342 (.ref 112), de P [83, 73, 71, 78, 95, 66, 73, 84] 348 (vj 9223372036854775808 347), de P [70, 82, 65, 67, 84, 73, 79, 78, 95, 66, 73, 84, 83] 350 (vj 52 349), de P [72, 73, 68, 68, 69, 78, 95, 66, 73, 84] 354 (vj 4503599627370496 353), de P [69, 88, 80, 79, 78, 69, 78, 84, 95, 77, 65, 83, 75] 356 (vj 2047 355), de P [69, 88, 80, 79, 78, 69, 78, 84, 95, 83, 72, 73, 70, 84] 358 (vj 1075 357), de P [76, 69, 65, 83, 84, 95, 80, 79, 87, 69, 82] 361 (.int (Int.negSucc 1073) 360), de P [90, 69, 82, 79] 363 (vj 0 362), de P [73, 78, 70] 367 (vj 9218868437227405312 366), de P [119, 105, 100, 116, 104] 376 (.ref 119), de P [112, 97, 99, 107] 385 (.ref 126), de P [115, 105, 103, 110, 101, 100] 393 (.ref 133), de P [113, 117, 111, 116, 105, 101, 110, 116] 402 (.ref 140), de P [114, 111, 117, 110, 100, 95, 114, 97, 116, 105, 111] 415 (.ref 147), de P [97, 115, 115, 101, 109, 98, 108, 101, 100] 425 (.ref 154), de P [102, 114, 111, 109, 95, 105, 110, 116] 432 (.ref 161)]⟩ 36), ⟨[]⟩⟩
noncomputable def o12v9 : Obj := ⟨.none, none, (.fields ⟨[(vi 6), (vi 0), (.ref 62), (vi 11), (vi 0), (.ref 69), (vi 13), (vi 0), (.ref 76), (vi 15), (vi 0), (.ref 83), (vi 17), (vi 0), (.ref 90), (vi 19), (vi 0), (.ref 97), (vi 25), (vi 0), (.ref 104), (vi 29), (vi 0), (.ref 111), (vi 40), (vi 0), (.ref 118), (vi 50), (vi 0), (.ref 125), (vi 52), (vi 0), (.ref 132), (vi 54), (vi 0), (.ref 139), (vi 60), (vi 0), (.ref 146), (vi 71), (vi 0), (.ref 153), (vi 80), (vi 0), (.ref 160)]⟩), ⟨[]⟩⟩
noncomputable def tr30 (P : Params) : BT := (B (o0 P) (B (o1 P) (B (o3v8 P) (B o7 (B o15 (B o31 (B o63 (F o127) N) (B o95 (F o159) N)) (B o47 (B o79 (F o143) N) (F o111))) (B o23 (B o39 (B o71 (F o135) N) (F o103)) (B o55 (B o87 (F o151) N) (F o119)))) (B o11 (B o19 (B o35 (B o67 (F o131) N) (F o99)) (B o51 (B o83 (F o147) N) (F o115))) (B o27 (B o43 (B o75 (F o139) N) (F o107)) (B o59 (B o91 (F o155) N) (F o123))))) (B o5 (B o9 (B o17 (B o33 (B o65 (F o129) N) (B o97 (F o161) N)) (B o49 (B o81 (F o145) N) (F o113))) (B o25 (B o41 (B o73 (F o137) N) (F o105)) (B o57 (B o89 (F o153) N) (F o121)))) (B o13 (B o21 (B o37 (B o69 (F o133) N) (F o101)) (B o53 (B o85 (F o149) N) (F o117))) (B o29 (B o45 (B o77 (F o141) N) (F o109)) (B o61 (B o93 (F o157) N) (F o125)))))) (B o2v0 (B o4 (B o8 (B o16 (B o32 (B o64 (F o128) N) (B o96 (F o160) N)) (B o48 (B o80 (F o144) N) (F o112))) (B o24 (B o40 (B o72 (F o136) N) (F o104)) (B o56 (B o88 (F o152) N) (F o120)))) (B o12v9 (B o20 (B o36 (B o68 (F o132) N) (F o100)) (B o52 (B o84 (F o148) N) (F o116))) (B o28 (B o44 (B o76 (F o140) N) (F o108)) (B o60 (B o92 (F o156) N) (F o124))))) (B o6 (B o10 (B o18 (B o34 (B o66 (F o130) N) (F o98)) (B o50 (B o82 (F o146) N) (F o114))) (B o26 (B o42 (B o74 (F o138) N) (F o106)) (B o58 (B o90 (F o154) N) (F o122)))) (B o14 (B o22 (B o38 (B o70 (F o134) N) (F o102)) (B o54 (B o86 (F o150) N) (F o118))) (B o30 (B o46 (B o78 (F o142) N) (F o110)) (B o62 (B o94 (F o158) N) (F o126)))))))
noncomputable def s30 (w : World) (os : OsState) : SharedT := ⟨tr30 w.params, 162, {}, ⟨[]⟩, {}, 435, os⟩
noncomputable def o3v10 (P : Params) : Obj := ⟨(.type PySem.W.SL.s14018661285674007319x4), none, (.dict ⟨[de P [95, 95, 110, 97, 109, 101, 95, 95] 165 (vs [106, 115, 46, 101, 115, 99, 97, 112, 101, 115] 433), de P [95, 95, 100, 111, 99, 95, 95] 166 .none, de P [95, 95, 112, 97, 99, 107, 97, 103, 101, 95, 95] 167 .none, de P [95, 95, 108, 111, 97, 100, 101, 114, 95, 95] 168 (.builtin PySem.W.SL.s7097527257260152453x26), de P [95, 95, 115, 112, 101, 99, 95, 95] 169 .none, de P [95, 95, 97, 110, 110, 111, 116, 97, 116, 105, 111, 110, 115, 95, 95] 170 (.ref 6), de P [95, 95, 98, 117, 105, 108, 116, 105, 110, 115, 95, 95] 171 (.ref 4), de P [95, 95, 102, 105, 108, 101, 95, 95] 173 (vs [47, 99, 108, 97, 105, 109, 47, 99, 117, 116, 46, 112, 121] 172), de P [95, 95, 99, 97, 99, 104, 101, 100, 95, 95] 174 .none, de P [66, 76, 65, 78, 75, 83] 200 (.ref 15), de P [76, 73, 78, 69, 95, 69, 78, 68, 83] 205 (.ref 16), de P [76, 69, 84, 84, 69, 82, 83] 270 (.ref 49), de P [80, 65, 82, 84, 83] 283 (.ref 56), de P [105, 115, 95, 97, 109, 111, 110, 103] 293 (.ref 63), de P [105, 115, 95, 119, 104, 105, 116, 101] 300 (.ref 70), de P [105, 115, 95, 108, 105, 110, 101, 95, 101, 110, 100] 307 (.ref 77), de P [105, 115, 95, 100, 105, 103, 105, 116] 314 (.ref 84), de P [105, 115, 95, 111, 99, 116, 97, 108, 95, 100, 105, 103, 105, 116] 321 (.ref 91), de P [104, 101, 120, 95, 118, 97, 108, 117, 101] 328 (.ref 98), de P [105, 115, 95, 105, 100, 95, 115, 116, 97, 114, 116] 335 (.ref 105), de P [105, 115, 95, 105, 100, 95, 112, 97, 114, 116] 342 (.ref 112), de P [83, 73, 71, 78, 95, 66, 73, 84] 348 (vj 9223372036854775808 347), de P [70, 82, 65, 67, 84, 73, 79, 78, 95, 66, 73, 84, 83] 350 (vj 52 349), de P [72, 73, 68, 68, 69, 78, 95, 66, 73, 84] 354 (vj 4503599627370496 353), de P [69, 88, 80, 79, 78, 69, 78, 84, 95, 77, 65, 83, 75] 356 (vj 2047 355), de P [69, 88, 80, 79, 78, 69, 78, 84, 95, 83, 72, 73, 70, 84] 358 (vj 1075 357), de P [76, 69, 65, 83, 84, 95, 80, 79, 87, 69, 82] 361 (.int (Int.negSucc 1073) 360), de P [90, 69, 82, 79] 363 (vj 0 362), de P [73, 78, 70] 367 (vj 9218868437227405312 366), de P [119, 105, 100, 116, 104] 376 (.ref 119), de P [112, 97, 99, 107] 385 (.ref 126), de P [115, 105, 103, 110, 101, 100] 393 (.ref 133), de P [113, 117, 111, 116, 105, 101, 110, 116] 402 (.ref 140), de P [114, 111, 117, 110, 100, 95, 114, 97, 116, 105, 111] 415 (.ref 147), de P [97, 115, 115, 101, 109, 98, 108, 101, 100] 425 (.ref 154), de P [102, 114, 111, 109, 95, 105, 110, 116] 432 (.ref 161), de P [83, 73, 78, 71, 76, 69] 453 (.ref 162), de P [99, 111, 100, 101, 95, 97, 116] 461 (.ref 169), de P [104, 101, 120, 95, 97, 116] 473 (.ref 176), de P [108, 105, 110, 101, 95, 101, 110, 100, 95, 115, 105, 122, 101] 481 (.ref 183), de P [111, 99, 116, 97, 108, 95, 101, 115, 99, 97, 112, 101] 492 (.ref 190)]⟩ 41), ⟨[]⟩⟩
noncomputable def o12v11 : Obj := ⟨.none, none, (.fields ⟨[(vi 6), (vi 0), (.ref 62), (vi 11), (vi 0), (.ref 69), (vi 13), (vi 0), (.ref 76), (vi 15), (vi 0), (.ref 83), (vi 17), (vi 0), (.ref 90), (vi 19), (vi 0), (.ref 97), (vi 25), (vi 0), (.ref 104), (vi 29), (vi 0), (.ref 111), (vi 40), (vi 0), (.ref 118), (vi 50), (vi 0), (.ref 125), (vi 52), (vi 0), (.ref 132), (vi 54), (vi 0), (.ref 139), (vi 60), (vi 0), (.ref 146), (vi 71), (vi 0), (.ref 153), (vi 80), (vi 0), (.ref 160), (vi 84), (vi 0), (.ref 168), (vi 86), (vi 0), (.ref 175), (vi 94), (vi 0), (.ref 182), (vi 96), (vi 0), (.ref 189)]⟩), ⟨[]⟩⟩
noncomputable def tr35 (P : Params) : BT := (B (o0 P) (B (o1 P) (B (o3v10 P) (B o7 (B o15 (B o31 (B o63 (F o127) N) (B o95 (F o159) N)) (B o47 (B o79 (F o143) N) (B o111 (F o175) N))) (B o23 (B o39 (B o71 (F o135) N) (B o103 (F o167) N)) (B o55 (B o87 (F o151) N) (B o119 (F o183) N)))) (B o11 (B o19 (B o35 (B o67 (F o131) N) (B o99 (F o163) N)) (B o51 (B o83 (F o147) N) (B o115 (F o179) N))) (B o27 (B o43 (B o75 (F o139) N) (B o107 (F o171) N)) (B o59 (B o91 (F o155) N) (B o123 (F o187) N))))) (B o5 (B o9 (B o17 (B o33 (B o65 (F o129) N) (B o97 (F o161) N)) (B o49 (B o81 (F o145) N) (B o113 (F o177) N))) (B o25 (B o41 (B o73 (F o137) N) (B o105 (F o169) N)) (B o57 (B o89 (F o153) N) (B o121 (F o185) N)))) (B o13 (B o21 (B o37 (B o69 (F o133) N) (B o101 (F o165) N)) (B o53 (B o85 (F o149) N) (B o117 (F o181) N))) (B o29 (B o45 (B o77 (F o141) N) (B o109 (F o173) N)) (B o61 (B o93 (F o157) N) (B o125 (F o189) N)))))) (B o2v0 (B o4 (B o8 (B o16 (B o32 (B o64 (F o128) N) (B o96 (F o160) N)) (B o48 (B o80 (F o144) N) (B o112 (F o176) N))) (B o24 (B o40 (B o72 (F o136) N) (B o104 (F o168) N)) (B o56 (B o88 (F o152) N) (B o120 (F o184) N)))) (B o12v11 (B o20 (B o36 (B o68 (F o132) N) (B o100 (F o164) N)) (B o52 (B o84 (F o148) N) (B o116 (F o180) N))) (B o28 (B o44 (B o76 (F o140) N) (B o108 (F o172) N)) (B o60 (B o92 (F o156) N) (B o124 (F o188) N))))) (B o6 (B o10 (B o18 (B o34 (B o66 (F o130) N) (B o98 (F (o162 P)) N)) (B o50 (B o82 (F o146) N) (B o114 (F o178) N))) (B o26 (B o42 (B o74 (F o138) N) (B o106 (F o170) N)) (B o58 (B o90 (F o154) N) (B o122 (F o186) N)))) (B o14 (B o22 (B o38 (B o70 (F o134) N) (B o102 (F o166) N)) (B o54 (B o86 (F o150) N) (B o118 (F o182) N))) (B o30 (B o46 (B o78 (F o142) N) (B o110 (F o174) N)) (B o62 (B o94 (F o158) N) (B o126 (F o190) N)))))))
noncomputable def s35 (w : World) (os : OsState) : SharedT := ⟨tr35 w.params, 191, {}, ⟨[]⟩, {}, 493, os⟩
noncomputable def o3v12 (P : Params) : Obj := ⟨(.type PySem.W.SL.s14018661285674007319x4), none, (.dict ⟨[de P [95, 95, 110, 97, 109, 101, 95, 95] 165 (vs [106, 115, 46, 116, 111, 107, 101, 110, 115] 540), de P [95, 95, 100, 111, 99, 95, 95] 166 .none, de P [95, 95, 112, 97, 99, 107, 97, 103, 101, 95, 95] 167 .none, de P [95, 95, 108, 111, 97, 100, 101, 114, 95, 95] 168 (.builtin PySem.W.SL.s7097527257260152453x26), de P [95, 95, 115, 112, 101, 99, 95, 95] 169 .none, de P [95, 95, 97, 110, 110, 111, 116, 97, 116, 105, 111, 110, 115, 95, 95] 170 (.ref 6), de P [95, 95, 98, 117, 105, 108, 116, 105, 110, 115, 95, 95] 171 (.ref 4), de P [95, 95, 102, 105, 108, 101, 95, 95] 173 (vs [47, 99, 108, 97, 105, 109, 47, 99, 117, 116, 46, 112, 121] 172), de P [95, 95, 99, 97, 99, 104, 101, 100, 95, 95] 174 .none, de P [66, 76, 65, 78, 75, 83] 200 (.ref 15), de P [76, 73, 78, 69, 95, 69, 78, 68, 83] 205 (.ref 16), de P [76, 69, 84, 84, 69, 82, 83] 270 (.ref 49), de P [80, 65, 82, 84, 83] 283 (.ref 56), de P [105, 115, 95, 97, 109, 111, 110, 103] 293 (.ref 63), de P [105, 115, 95, 119, 104, 105, 116, 101] 300 (.ref 70), de P [105, 115, 95, 108, 105, 110, 101, 95, 101, 110, 100] 307 (.ref 77), de P [105, 115, 95, 100, 105, 103, 105, 116] 314 (.ref 84), de P [105, 115, 95, 111, 99, 116, 97, 108, 95, 100, 105, 103, 105, 116] 321 (.ref 91), de P [104, 101, 120, 95, 118, 97, 108, 117, 101] 328 (.ref 98), de P [105, 115, 95, 105, 100, 95, 115, 116, 97, 114, 116] 335 (.ref 105), de P [105, 115, 95, 105, 100, 95, 112, 97, 114, 116] 342 (.ref 112), de P [83, 73, 71, 78, 95, 66, 73, 84] 348 (vj 9223372036854775808 347), de P [70, 82, 65, 67, 84, 73, 79, 78, 95, 66, 73, 84, 83] 350 (vj 52 349), de P [72, 73, 68, 68, 69, 78, 95, 66, 73, 84] 354 (vj 4503599627370496 353), de P [69, 88, 80, 79, 78, 69, 78, 84, 95, 77, 65, 83, 75] 356 (vj 2047 355), de P [69, 88, 80, 79, 78, 69, 78, 84, 95, 83, 72, 73, 70, 84] 358 (vj 1075 357), de P [76, 69, 65, 83, 84, 95, 80, 79, 87, 69, 82] 361 (.int (Int.negSucc 1073) 360), de P [90, 69, 82, 79] 363 (vj 0 362), de P [73, 78, 70] 367 (vj 9218868437227405312 366), de P [119, 105, 100, 116, 104] 376 (.ref 119), de P [112, 97, 99, 107] 385 (.ref 126), de P [115, 105, 103, 110, 101, 100] 393 (.ref 133), de P [113, 117, 111, 116, 105, 101, 110, 116] 402 (.ref 140), de P [114, 111, 117, 110, 100, 95, 114, 97, 116, 105, 111] 415 (.ref 147), de P [97, 115, 115, 101, 109, 98, 108, 101, 100] 425 (.ref 154), de P [102, 114, 111, 109, 95, 105, 110, 116] 432 (.ref 161), de P [83, 73, 78, 71, 76, 69] 453 (.ref 162), de P [99, 111, 100, 101, 95, 97, 116] 461 (.ref 169), de P [104, 101, 120, 95, 97, 116] 473 (.ref 176), de P [108, 105, 110, 101, 95, 101, 110, 100, 95, 115, 105, 122, 101] 481 (.ref 183), de P [111, 99, 116, 97, 108, 95, 101, 115, 99, 97, 112, 101] 492 (.ref 190), de P [114, 101, 97, 100, 95, 101, 115, 99, 97, 112, 101] 505 (.ref 197), de P [70, 65, 82, 84, 72, 69, 83, 84] 509 (vj 400 508), de P [102, 105, 103, 117, 114, 101, 95, 111, 102] 516 (.ref 204), de P [119, 111, 114, 116, 104] 528 (.ref 211), de P [102, 114, 111, 109, 95, 100, 101, 99, 105, 109, 97, 108] 539 (.ref 218), de P [75, 69, 89, 87, 79, 82, 68, 83] 578 (.ref 219), de P [80, 85, 78, 67, 84, 83] 627 (.ref 220)]⟩ 48), ⟨[]⟩⟩
noncomputable def o12v13 : Obj := ⟨.none, none, (.fields ⟨[(vi 6), (vi 0), (.ref 62), (vi 11), (vi 0), (.ref 69), (vi 13), (vi 0), (.ref 76), (vi 15), (vi 0), (.ref 83), (vi 17), (vi 0), (.ref 90), (vi 19), (vi 0), (.ref 97), (vi 25), (vi 0), (.ref 104), (vi 29), (vi 0), (.ref 111), (vi 40), (vi 0), (.ref 118), (vi 50), (vi 0), (.ref 125), (vi 52), (vi 0), (.ref 132), (vi 54), (vi 0), (.ref 139), (vi 60), (vi 0), (.ref 146), (vi 71), (vi 0), (.ref 153), (vi 80), (vi 0), (.ref 160), (vi 84), (vi 0), (.ref 168), (vi 86), (vi 0), (.ref 175), (vi 94), (vi 0), (.ref 182), (vi 96), (vi 0), (.ref 189), (vi 105), (vi 0), (.ref 196), (vi 126), (vi 0), (.ref 203), (vi 132), (vi 0), (.ref 210), (vi 137), (vi 0), (.ref 217)]⟩), ⟨[]⟩⟩
noncomputable def tr44 (P : Params) : BT := (B (o0 P) (B (o1 P) (B (o3v12 P) (B o7 (B o15 (B o31 (B o63 (F o127) (F o191)) (B o95 (F o159) N)) (B o47 (B o79 (F o143) (F o207)) (B o111 (F o175) N))) (B o23 (B o39 (B o71 (F o135) (F o199)) (B o103 (F o167) N)) (B o55 (B o87 (F o151) (F o215)) (B o119 (F o183) N)))) (B o11 (B o19 (B o35 (B o67 (F o131) (F o195)) (B o99 (F o163) N)) (B o51 (B o83 (F o147) (F o211)) (B o115 (F o179) N))) (B o27 (B o43 (B o75 (F o139) (F o203)) (B o107 (F o171) N)) (B o59 (B o91 (F o155) (F o219)) (B o123 (F o187) N))))) (B o5 (B o9 (B o17 (B o33 (B o65 (F o129) (F o193)) (B o97 (F o161) N)) (B o49 (B o81 (F o145) (F o209)) (B o113 (F o177) N))) (B o25 (B o41 (B o73 (F o137) (F o201)) (B o105 (F o169) N)) (B o57 (B o89 (F o153) (F o217)) (B o121 (F o185) N)))) (B o13 (B o21 (B o37 (B o69 (F o133) (F o197)) (B o101 (F o165) N)) (B o53 (B o85 (F o149) (F o213)) (B o117 (F o181) N))) (B o29 (B o45 (B o77 (F o141) (F o205)) (B o109 (F o173) N)) (B o61 (B o93 (F o157) N) (B o125 (F o189) N)))))) (B o2v0 (B o4 (B o8 (B o16 (B o32 (B o64 (F o128) (F o192)) (B o96 (F o160) N)) (B o48 (B o80 (F o144) (F o208)) (B o112 (F o176) N))) (B o24 (B o40 (B o72 (F o136) (F o200)) (B o104 (F o168) N)) (B o56 (B o88 (F o152) (F o216)) (B o120 (F o184) N)))) (B o12v13 (B o20 (B o36 (B o68 (F o132) (F o196)) (B o100 (F o164) N)) (B o52 (B o84 (F o148) (F o212)) (B o116 (F o180) N))) (B o28 (B o44 (B o76 (F o140) (F o204)) (B o108 (F o172) N)) (B o60 (B o92 (F o156) (F o220)) (B o124 (F o188) N))))) (B o6 (B o10 (B o18 (B o34 (B o66 (F o130) (F o194)) (B o98 (F (o162 P)) N)) (B o50 (B o82 (F o146) (F o210)) (B o114 (F o178) N))) (B o26 (B o42 (B o74 (F o138) (F o202)) (B o106 (F o170) N)) (B o58 (B o90 (F o154) (F o218)) (B o122 (F o186) N)))) (B o14 (B o22 (B o38 (B o70 (F o134) (F o198)) (B o102 (F o166) N)) (B o54 (B o86 (F o150) (F o214)) (B o118 (F o182) N))) (B o30 (B o46 (B o78 (F o142) (F o206)) (B o110 (F o174) N)) (B o62 (B o94 (F o158) N) (B o126 (F o190) N)))))))
noncomputable def s44 (w : World) (os : OsState) : SharedT := ⟨tr44 w.params, 221, {}, ⟨[]⟩, {}, 628, os⟩
noncomputable def o3v14 (P : Params) : Obj := ⟨(.type PySem.W.SL.s14018661285674007319x4), none, (.dict ⟨[de P [95, 95, 110, 97, 109, 101, 95, 95] 165 (vs [106, 115, 46, 116, 111, 107, 101, 110, 115] 540), de P [95, 95, 100, 111, 99, 95, 95] 166 .none, de P [95, 95, 112, 97, 99, 107, 97, 103, 101, 95, 95] 167 .none, de P [95, 95, 108, 111, 97, 100, 101, 114, 95, 95] 168 (.builtin PySem.W.SL.s7097527257260152453x26), de P [95, 95, 115, 112, 101, 99, 95, 95] 169 .none, de P [95, 95, 97, 110, 110, 111, 116, 97, 116, 105, 111, 110, 115, 95, 95] 170 (.ref 6), de P [95, 95, 98, 117, 105, 108, 116, 105, 110, 115, 95, 95] 171 (.ref 4), de P [95, 95, 102, 105, 108, 101, 95, 95] 173 (vs [47, 99, 108, 97, 105, 109, 47, 99, 117, 116, 46, 112, 121] 172), de P [95, 95, 99, 97, 99, 104, 101, 100, 95, 95] 174 .none, de P [66, 76, 65, 78, 75, 83] 200 (.ref 15), de P [76, 73, 78, 69, 95, 69, 78, 68, 83] 205 (.ref 16), de P [76, 69, 84, 84, 69, 82, 83] 270 (.ref 49), de P [80, 65, 82, 84, 83] 283 (.ref 56), de P [105, 115, 95, 97, 109, 111, 110, 103] 293 (.ref 63), de P [105, 115, 95, 119, 104, 105, 116, 101] 300 (.ref 70), de P [105, 115, 95, 108, 105, 110, 101, 95, 101, 110, 100] 307 (.ref 77), de P [105, 115, 95, 100, 105, 103, 105, 116] 314 (.ref 84), de P [105, 115, 95, 111, 99, 116, 97, 108, 95, 100, 105, 103, 105, 116] 321 (.ref 91), de P [104, 101, 120, 95, 118, 97, 108, 117, 101] 328 (.ref 98), de P [105, 115, 95, 105, 100, 95, 115, 116, 97, 114, 116] 335 (.ref 105), de P [105, 115, 95, 105, 100, 95, 112, 97, 114, 116] 342 (.ref 112), de P [83, 73, 71, 78, 95, 66, 73, 84] 348 (vj 9223372036854775808 347), de P [70, 82, 65, 67, 84, 73, 79, 78, 95, 66, 73, 84, 83] 350 (vj 52 349), de P [72, 73, 68, 68, 69, 78, 95, 66, 73, 84] 354 (vj 4503599627370496 353), de P [69, 88, 80, 79, 78, 69, 78, 84, 95, 77, 65, 83, 75] 356 (vj 2047 355), de P [69, 88, 80, 79, 78, 69, 78, 84, 95, 83, 72, 73, 70, 84] 358 (vj 1075 357), de P [76, 69, 65, 83, 84, 95, 80, 79, 87, 69, 82] 361 (.int (Int.negSucc 1073) 360), de P [90, 69, 82, 79] 363 (vj 0 362), de P [73, 78, 70] 367 (vj 9218868437227405312 366), de P [119, 105, 100, 116, 104] 376 (.ref 119), de P [112, 97, 99, 107] 385 (.ref 126), de P [115, 105, 103, 110, 101, 100] 393 (.ref 133), de P [113, 117, 111, 116, 105, 101, 110, 116] 402 (.ref 140), de P [114, 111, 117, 110, 100, 95, 114, 97, 116, 105, 111] 415 (.ref 147), de P [97, 115, 115, 101, 109, 98, 108, 101, 100] 425 (.ref 154), de P [102, 114, 111, 109, 95, 105, 110, 116] 432 (.ref 161), de P [83, 73, 78, 71, 76, 69] 453 (.ref 162), de P [99, 111, 100, 101, 95, 97, 116] 461 (.ref 169), de P [104, 101, 120, 95, 97, 116] 473 (.ref 176), de P [108, 105, 110, 101, 95, 101, 110, 100, 95, 115, 105, 122, 101] 481 (.ref 183), de P [111, 99, 116, 97, 108, 95, 101, 115, 99, 97, 112, 101] 492 (.ref 190), de P [114, 101, 97, 100, 95, 101, 115, 99, 97, 112, 101] 505 (.ref 197), de P [70, 65, 82, 84, 72, 69, 83, 84] 509 (vj 400 508), de P [102, 105, 103, 117, 114, 101, 95, 111, 102] 516 (.ref 204), de P [119, 111, 114, 116, 104] 528 (.ref 211), de P [102, 114, 111, 109, 95, 100, 101, 99, 105, 109, 97, 108] 539 (.ref 218), de P [75, 69, 89, 87, 79, 82, 68, 83] 578 (.ref 219), de P [80, 85, 78, 67, 84, 83] 627 (.ref 220), de P [80, 85, 78, 67, 84, 95, 84, 65, 66, 76, 69] 727 (.ref 274)]⟩ 49), ⟨[]⟩⟩
noncomputable def tr45 (P : Params) : BT := (B (o0 P) (B (o1 P) (B (o3v14 P) (B o7 (B o15 (B o31 (B o63 (B o127 (F o255) N) (F o191)) (B o95 (F o159) (F o223))) (B o47 (B o79 (B o143 (F o271) N) (F o207)) (B o111 (F o175) (F o239)))) (B o23 (B o39 (B o71 (B o135 (F o263) N) (F o199)) (B o103 (F o167) (F o231))) (B o55 (B o87 (B o151 (F o279) N) (F o215)) (B o119 (F o183) (F o247))))) (B o11 (B o19 (B o35 (B o67 (B o131 (F o259) N) (F o195)) (B o99 (F o163) (F o227))) (B o51 (B o83 (B o147 (F o275) N) (F o211)) (B o115 (F o179) (F o243)))) (B o27 (B o43 (B o75 (B o139 (F o267) N) (F o203)) (B o107 (F o171) (F o235))) (B o59 (B o91 (F o155) (F o219)) (B o123 (F o187) (F o251)))))) (B o5 (B o9 (B o17 (B o33 (B o65 (B o129 (F o257) N) (F o193)) (B o97 (F o161) (F o225))) (B o49 (B o81 (B o145 (F o273) N) (F o209)) (B o113 (F o177) (F o241)))) (B o25 (B o41 (B o73 (B o137 (F o265) N) (F o201)) (B o105 (F o169) (F o233))) (B o57 (B o89 (F o153) (F o217)) (B o121 (F o185) (F o249))))) (B o13 (B o21 (B o37 (B o69 (B o133 (F o261) N) (F o197)) (B o101 (F o165) (F o229))) (B o53 (B o85 (B o149 (F o277) N) (F o213)) (B o117 (F o181) (F o245)))) (B o29 (B o45 (B o77 (B o141 (F o269) N) (F o205)) (B o109 (F o173) (F o237))) (B o61 (B o93 (F o157) (F o221)) (B o125 (F o189) (F o253))))))) (B o2v0 (B o4 (B o8 (B o16 (B o32 (B o64 (B o128 (F o256) N) (F o192)) (B o96 (F o160) (F o224))) (B o48 (B o80 (B o144 (F o272) N) (F o208)) (B o112 (F o176) (F o240)))) (B o24 (B o40 (B o72 (B o136 (F o264) N) (F o200)) (B o104 (F o168) (F o232))) (B o56 (B o88 (F o152) (F o216)) (B o120 (F o184) (F o248))))) (B o12v13 (B o20 (B o36 (B o68 (B o132 (F o260) N) (F o196)) (B o100 (F o164) (F o228))) (B o52 (B o84 (B o148 (F o276) N) (F o212)) (B o116 (F o180) (F o244)))) (B o28 (B o44 (B o76 (B o140 (F o268) N) (F o204)) (B o108 (F o172) (F o236))) (B o60 (B o92 (F o156) (F o220)) (B o124 (F o188) (F o252)))))) (B o6 (B o10 (B o18 (B o34 (B o66 (B o130 (F o258) N) (F o194)) (B o98 (F (o162 P)) (F o226))) (B o50 (B o82 (B o146 (F (o274 P)) N) (F o210)) (B o114 (F o178) (F o242)))) (B o26 (B o42 (B o74 (B o138 (F o266) N) (F o202)) (B o106 (F o170) (F o234))) (B o58 (B o90 (F o154) (F o218)) (B o122 (F o186) (F o250))))) (B o14 (B o22 (B o38 (B o70 (B o134 (F o262) N) (F o198)) (B o102 (F o166) (F o230))) (B o54 (B o86 (B o150 (F o278) N) (F o214)) (B o118 (F o182) (F o246)))) (B o30 (B o46 (B o78 (B o142 (F o270) N) (F o206)) (B o110 (F o174) (F o238))) (B o62 (B o94 (F o158) (F o222)) (B o126 (F o190) (F o254))))))))
noncomputable def s45 (w : World) (os : OsState) : SharedT := ⟨tr45 w.params, 280, {}, ⟨[]⟩, {}, 728, os⟩
noncomputable def o3v15 (P : Params) : Obj := ⟨(.type PySem.W.SL.s14018661285674007319x4), none, (.dict ⟨[de P [95, 95, 110, 97, 109, 101, 95, 95] 165 (vs [106, 115, 46, 118, 97, 108, 117, 101, 115] 786), de P [95, 95, 100, 111, 99, 95, 95] 166 .none, de P [95, 95, 112, 97, 99, 107, 97, 103, 101, 95, 95] 167 .none, de P [95, 95, 108, 111, 97, 100, 101, 114, 95, 95] 168 (.builtin PySem.W.SL.s7097527257260152453x26), de P [95, 95, 115, 112, 101, 99, 95, 95] 169 .none, de P [95, 95, 97, 110, 110, 111, 116, 97, 116, 105, 111, 110, 115, 95, 95] 170 (.ref 6), de P [95, 95, 98, 117, 105, 108, 116, 105, 110, 115, 95, 95] 171 (.ref 4), de P [95, 95, 102, 105, 108, 101, 95, 95] 173 (vs [47, 99, 108, 97, 105, 109, 47, 99, 117, 116, 46, 112, 121] 172), de P [95, 95, 99, 97, 99, 104, 101, 100, 95, 95] 174 .none, de P [66, 76, 65, 78, 75, 83] 200 (.ref 15), de P [76, 73, 78, 69, 95, 69, 78, 68, 83] 205 (.ref 16), de P [76, 69, 84, 84, 69, 82, 83] 270 (.ref 49), de P [80, 65, 82, 84, 83] 283 (.ref 56), de P [105, 115, 95, 97, 109, 111, 110, 103] 293 (.ref 63), de P [105, 115, 95, 119, 104, 105, 116, 101] 300 (.ref 70), de P [105, 115, 95, 108, 105, 110, 101, 95, 101, 110, 100] 307 (.ref 77), de P [105, 115, 95, 100, 105, 103, 105, 116] 314 (.ref 84), de P [105, 115, 95, 111, 99, 116, 97, 108, 95, 100, 105, 103, 105, 116] 321 (.ref 91), de P [104, 101, 120, 95, 118, 97, 108, 117, 101] 328 (.ref 98), de P [105, 115, 95, 105, 100, 95, 115, 116, 97, 114, 116] 335 (.ref 105), de P [105, 115, 95, 105, 100, 95, 112, 97, 114, 116] 342 (.ref 112), de P [83, 73, 71, 78, 95, 66, 73, 84] 348 (vj 9223372036854775808 347), de P [70, 82, 65, 67, 84, 73, 79, 78, 95, 66, 73, 84, 83] 350 (vj 52 349), de P [72, 73, 68, 68, 69, 78, 95, 66, 73, 84] 354 (vj 4503599627370496 353), de P [69, 88, 80, 79, 78, 69, 78, 84, 95, 77, 65, 83, 75] 356 (vj 2047 355), de P [69, 88, 80, 79, 78, 69, 78, 84, 95, 83, 72, 73, 70, 84] 358 (vj 1075 357), de P [76, 69, 65, 83, 84, 95, 80, 79, 87, 69, 82] 361 (.int (Int.negSucc 1073) 360), de P [90, 69, 82, 79] 363 (vj 0 362), de P [73, 78, 70] 367 (vj 9218868437227405312 366), de P [119, 105, 100, 116, 104] 376 (.ref 119), de P [112, 97, 99, 107] 385 (.ref 126), de P [115, 105, 103, 110, 101, 100] 393 (.ref 133), de P [113, 117, 111, 116, 105, 101, 110, 116] 402 (.ref 140), de P [114, 111, 117, 110, 100, 95, 114, 97, 116, 105, 111] 415 (.ref 147), de P [97, 115, 115, 101, 109, 98, 108, 101, 100] 425 (.ref 154), de P [102, 114, 111, 109, 95, 105, 110, 116] 432 (.ref 161), de P [83, 73, 78, 71, 76, 69] 453 (.ref 162), de P [99, 111, 100, 101, 95, 97, 116] 461 (.ref 169), de P [104, 101, 120, 95, 97, 116] 473 (.ref 176), de P [108, 105, 110, 101, 95, 101, 110, 100, 95, 115, 105, 122, 101] 481 (.ref 183), de P [111, 99, 116, 97, 108, 95, 101, 115, 99, 97, 112, 101] 492 (.ref 190), de P [114, 101, 97, 100, 95, 101, 115, 99, 97, 112, 101] 505 (.ref 197), de P [70, 65, 82, 84, 72, 69, 83, 84] 509 (vj 400 508), de P [102, 105, 103, 117, 114, 101, 95, 111, 102] 516 (.ref 204), de P [119, 111, 114, 116, 104] 528 (.ref 211), de P [102, 114, 111, 109, 95, 100, 101, 99, 105, 109, 97, 108] 539 (.ref 218), de P [75, 69, 89, 87, 79, 82, 68, 83] 578 (.ref 219), de P [80, 85, 78, 67, 84, 83] 627 (.ref 220), de P [80, 85, 78, 67, 84, 95, 84, 65, 66, 76, 69] 727 (.ref 274), de P [84, 111, 107, 101, 110] 768 (.ref 296), de P [105, 115, 95, 107, 101, 121, 119, 111, 114, 100] 775 (.ref 307), de P [112, 117, 110, 99, 116, 95, 97, 116] 785 (.ref 314)]⟩ 52), ⟨[]⟩⟩
noncomputable def o12v16 : Obj := ⟨.none, none, (.fields ⟨[(vi 6), (vi 0), (.ref 62), (vi 11), (vi 0), (.ref 69), (vi 13), (vi 0), (.ref 76), (vi 15), (vi 0), (.ref 83), (vi 17), (vi 0), (.ref 90), (vi 19), (vi 0), (.ref 97), (vi 25), (vi 0), (.ref 104), (vi 29), (vi 0), (.ref 111), (vi 40), (vi 0), (.ref 118), (vi 50), (vi 0), (.ref 125), (vi 52), (vi 0), (.ref 132), (vi 54), (vi 0), (.ref 139), (vi 60), (vi 0), (.ref 146), (vi 71), (vi 0), (.ref 153), (vi 80), (vi 0), (.ref 160), (vi 84), (vi 0), (.ref 168), (vi 86), (vi 0), (.ref 175), (vi 94), (vi 0), (.ref 182), (vi 96), (vi 0), (.ref 189), (vi 105), (vi 0), (.ref 196), (vi 126), (vi 0), (.ref 203), (vi 132), (vi 0), (.ref 210), (vi 137), (vi 0), (.ref 217), (vi 152), (vi 0), (.ref 285), (vi 163), (vi 0), (.ref 306), (vi 165), (vi 0), (.ref 313)]⟩), ⟨[]⟩⟩
noncomputable def tr49 (P : Params) : BT := (B (o0 P) (B (o1 P) (B (o3v15 P) (B o7 (B o15 (B o31 (B o63 (B o127 (F o255) N) (F o191)) (B o95 (B o159 (F o287) N) (F o223))) (B o47 (B o79 (B o143 (F o271) N) (F o207)) (B o111 (B o175 (F o303) N) (F o239)))) (B o23 (B o39 (B o71 (B o135 (F o263) N) (F o199)) (B o103 (B o167 (F (o295 P)) N) (F o231))) (B o55 (B o87 (B o151 (F o279) N) (F o215)) (B o119 (B o183 (F o311) N) (F o247))))) (B o11 (B o19 (B o35 (B o67 (B o131 (F o259) N) (F o195)) (B o99 (B o163 (F o291) N) (F o227))) (B o51 (B o83 (B o147 (F o275) N) (F o211)) (B o115 (B o179 (F o307) N) (F o243)))) (B o27 (B o43 (B o75 (B o139 (F o267) N) (F o203)) (B o107 (B o171 (F o299) N) (F o235))) (B o59 (B o91 (B o155 (F o283) N) (F o219)) (B o123 (F o187) (F o251)))))) (B o5 (B o9 (B o17 (B o33 (B o65 (B o129 (F o257) N) (F o193)) (B o97 (B o161 (F o289) N) (F o225))) (B o49 (B o81 (B o145 (F o273) N) (F o209)) (B o113 (B o177 (F o305) N) (F o241)))) (B o25 (B o41 (B o73 (B o137 (F o265) N) (F o201)) (B o105 (B o169 (F o297) N) (F o233))) (B o57 (B o89 (B o153 (F o281) N) (F o217)) (B o121 (B o185 (F o313) N) (F o249))))) (B o13 (B o21 (B o37 (B o69 (B o133 (F o261) N) (F o197)) (B o101 (B o165 (F o293) N) (F o229))) (B o53 (B o85 (B o149 (F o277) N) (F o213)) (B o117 (B o181 (F o309) N) (F o245)))) (B o29 (B o45 (B o77 (B o141 (F o269) N) (F o205)) (B o109 (B o173 (F o301) N) (F o237))) (B o61 (B o93 (B o157 (F o285) N) (F o221)) (B o125 (F o189) (F o253))))))) (B o2v0 (B o4 (B o8 (B o16 (B o32 (B o64 (B o128 (F o256) N) (F o192)) (B o96 (B o160 (F o288) N) (F o224))) (B o48 (B o80 (B o144 (F o272) N) (F o208)) (B o112 (B o176 (F o304) N) (F o240)))) (B o24 (B o40 (B o72 (B o136 (F o264) N) (F o200)) (B o104 (B o168 (F o296) N) (F o232))) (B o56 (B o88 (B o152 (F o280) N) (F o216)) (B o120 (B o184 (F o312) N) (F o248))))) (B o12v16 (B o20 (B o36 (B o68 (B o132 (F o260) N) (F o196)) (B o100 (B o164 (F o292) N) (F o228))) (B o52 (B o84 (B o148 (F o276) N) (F o212)) (B o116 (B o180 (F o308) N) (F o244)))) (B o28 (B o44 (B o76 (B o140 (F o268) N) (F o204)) (B o108 (B o172 (F o300) N) (F o236))) (B o60 (B o92 (B o156 (F o284) N) (F o220)) (B o124 (F o188) (F o252)))))) (B o6 (B o10 (B o18 (B o34 (B o66 (B o130 (F o258) N) (F o194)) (B o98 (B (o162 P) (F o290) N) (F o226))) (B o50 (B o82 (B o146 (F (o274 P)) N) (F o210)) (B o114 (B o178 (F o306) N) (F o242)))) (B o26 (B o42 (B o74 (B o138 (F o266) N) (F o202)) (B o106 (B o170 (F o298) N) (F o234))) (B o58 (B o90 (B o154 (F (o282 P)) N) (F o218)) (B o122 (B o186 (F o314) N) (F o250))))) (B o14 (B o22 (B o38 (B o70 (B o134 (F o262) N) (F o198)) (B o102 (B o166 (F o294) N) (F o230))) (B o54 (B o86 (B o150 (F o278) N) (F o214)) (B o118 (B o182 (F o310) N) (F o246)))) (B o30 (B o46 (B o78 (B o142 (F o270) N) (F o206)) (B o110 (B o174 (F o302) N) (F o238))) (B o62 (B o94 (B o158 (F o286) N) (F o222)) (B o126 (F o190) (F o254))))))))
noncomputable def s49 (w : World) (os : OsState) : SharedT := ⟨tr49 w.params, 315, {}, ⟨[]⟩, {}, 788, os⟩
noncomputable def o2v17 (P : Params) : Obj := ⟨.none, none, (.dict ⟨[de P [116, 121, 112, 101, 46, 95, 95, 115, 117, 98, 99, 108, 97, 115, 115, 101, 115, 95, 95, 46, 69, 120, 99, 101, 112, 116, 105, 111, 110, 46, 48] 815 (vi 331), de P [116, 121, 112, 101, 46, 95, 95, 115, 117, 98, 99, 108, 97, 115, 115, 101, 115, 95, 95, 46, 69, 120, 99, 101, 112, 116, 105, 111, 110, 46, 110] 816 (vi 1)]⟩ 2), ⟨[]⟩⟩
noncomputable def o3v18 (P : Params) : Obj := ⟨(.type PySem.W.SL.s14018661285674007319x4), none, (.dict ⟨[de P [95, 95, 110, 97, 109, 101, 95, 95] 165 (vs [106, 115, 46, 108, 101, 120, 101, 114] 819), de P [95, 95, 100, 111, 99, 95, 95] 166 .none, de P [95, 95, 112, 97, 99, 107, 97, 103, 101, 95, 95] 167 .none, de P [95, 95, 108, 111, 97, 100, 101, 114, 95, 95] 168 (.builtin PySem.W.SL.s7097527257260152453x26), de P [95, 95, 115, 112, 101, 99, 95, 95] 169 .none, de P [95, 95, 97, 110, 110, 111, 116, 97, 116, 105, 111, 110, 115, 95, 95] 170 (.ref 6), de P [95, 95, 98, 117, 105, 108, 116, 105, 110, 115, 95, 95] 171 (.ref 4), de P [95, 95, 102, 105, 108, 101, 95, 95] 173 (vs [47, 99, 108, 97, 105, 109, 47, 99, 117, 116, 46, 112, 121] 172), de P [95, 95, 99, 97, 99, 104, 101, 100, 95, 95] 174 .none, de P [66, 76, 65, 78, 75, 83] 200 (.ref 15), de P [76, 73, 78, 69, 95, 69, 78, 68, 83] 205 (.ref 16), de P [76, 69, 84, 84, 69, 82, 83] 270 (.ref 49), de P [80, 65, 82, 84, 83] 283 (.ref 56), de P [105, 115, 95, 97, 109, 111, 110, 103] 293 (.ref 63), de P [105, 115, 95, 119, 104, 105, 116, 101] 300 (.ref 70), de P [105, 115, 95, 108, 105, 110, 101, 95, 101, 110, 100] 307 (.ref 77), de P [105, 115, 95, 100, 105, 103, 105, 116] 314 (.ref 84), de P [105, 115, 95, 111, 99, 116, 97, 108, 95, 100, 105, 103, 105, 116] 321 (.ref 91), de P [104, 101, 120, 95, 118, 97, 108, 117, 101] 328 (.ref 98), de P [105, 115, 95, 105, 100, 95, 115, 116, 97, 114, 116] 335 (.ref 105), de P [105, 115, 95, 105, 100, 95, 112, 97, 114, 116] 342 (.ref 112), de P [83, 73, 71, 78, 95, 66, 73, 84] 348 (vj 9223372036854775808 347), de P [70, 82, 65, 67, 84, 73, 79, 78, 95, 66, 73, 84, 83] 350 (vj 52 349), de P [72, 73, 68, 68, 69, 78, 95, 66, 73, 84] 354 (vj 4503599627370496 353), de P [69, 88, 80, 79, 78, 69, 78, 84, 95, 77, 65, 83, 75] 356 (vj 2047 355), de P [69, 88, 80, 79, 78, 69, 78, 84, 95, 83, 72, 73, 70, 84] 358 (vj 1075 357), de P [76, 69, 65, 83, 84, 95, 80, 79, 87, 69, 82] 361 (.int (Int.negSucc 1073) 360), de P [90, 69, 82, 79] 363 (vj 0 362), de P [73, 78, 70] 367 (vj 9218868437227405312 366), de P [119, 105, 100, 116, 104] 376 (.ref 119), de P [112, 97, 99, 107] 385 (.ref 126), de P [115, 105, 103, 110, 101, 100] 393 (.ref 133), de P [113, 117, 111, 116, 105, 101, 110, 116] 402 (.ref 140), de P [114, 111, 117, 110, 100, 95, 114, 97, 116, 105, 111] 415 (.ref 147), de P [97, 115, 115, 101, 109, 98, 108, 101, 100] 425 (.ref 154), de P [102, 114, 111, 109, 95, 105, 110, 116] 432 (.ref 161), de P [83, 73, 78, 71, 76, 69] 453 (.ref 162), de P [99, 111, 100, 101, 95, 97, 116] 461 (.ref 169), de P [104, 101, 120, 95, 97, 116] 473 (.ref 176), de P [108, 105, 110, 101, 95, 101, 110, 100, 95, 115, 105, 122, 101] 481 (.ref 183), de P [111, 99, 116, 97, 108, 95, 101, 115, 99, 97, 112, 101] 492 (.ref 190), de P [114, 101, 97, 100, 95, 101, 115, 99, 97, 112, 101] 505 (.ref 197), de P [70, 65, 82, 84, 72, 69, 83, 84] 509 (vj 400 508), de P [102, 105, 103, 117, 114, 101, 95, 111, 102] 516 (.ref 204), de P [119, 111, 114, 116, 104] 528 (.ref 211), de P [102, 114, 111, 109, 95, 100, 101, 99, 105, 109, 97, 108] 539 (.ref 218), de P [75, 69, 89, 87, 79, 82, 68, 83] 578 (.ref 219), de P [80, 85, 78, 67, 84, 83] 627 (.ref 220), de P [80, 85, 78, 67, 84, 95, 84, 65, 66, 76, 69] 727 (.ref 274), de P [84, 111, 107, 101, 110] 768 (.ref 296), de P [105, 115, 95, 107, 101, 121, 119, 111, 114, 100] 775 (.ref 307), de P [112, 117, 110, 99, 116, 95, 97, 116] 785 (.ref 314), de P [83, 121, 110, 116, 97, 120, 70, 97, 105, 108] 818 (.ref 331)]⟩ 53), ⟨[]⟩⟩
noncomputable def o12v19 : Obj := ⟨.none, none, (.fields ⟨[(vi 6), (vi 0), (.ref 62), (vi 11), (vi 0), (.ref 69), (vi 13), (vi 0), (.ref 76), (vi 15), (vi 0), (.ref 83), (vi 17), (vi 0), (.ref 90), (vi 19), (vi 0), (.ref 97), (vi 25), (vi 0), (.ref 104), (vi 29), (vi 0), (.ref 111), (vi 40), (vi 0), (.ref 118), (vi 50), (vi 0), (.ref 125), (vi 52), (vi 0), (.ref 132), (vi 54), (vi 0), (.ref 139), (vi 60), (vi 0), (.ref 146), (vi 71), (vi 0), (.ref 153), (vi 80), (vi 0), (.ref 160), (vi 84), (vi 0), (.ref 168), (vi 86), (vi 0), (.ref 175), (vi 94), (vi 0), (.ref 182), (vi 96), (vi 0), (.ref 189), (vi 105), (vi 0), (.ref 196), (vi 126), (vi 0), (.ref 203), (vi 132), (vi 0), (.ref 210), (vi 137), (vi 0), (.ref 217), (vi 152), (vi 0), (.ref 285), (vi 163), (vi 0), (.ref 306), (vi 165), (vi 0), (.ref 313), (vi 172), (vi 0), (.ref 320)]⟩), ⟨[]⟩⟩
noncomputable def tr51 (P : Params) : BT := (B (o0 P) (B (o1 P) (B (o3v18 P) (B o7 (B o15 (B o31 (B o63 (B o127 (F o255) N) (B o191 (F o319) N)) (B o95 (B o159 (F o287) N) (F o223))) (B o47 (B o79 (B o143 (F o271) N) (F o207)) (B o111 (B o175 (F o303) N) (F o239)))) (B o23 (B o39 (B o71 (B o135 (F o263) N) (B o199 (F o327) N)) (B o103 (B o167 (F (o295 P)) N) (F o231))) (B o55 (B o87 (B o151 (F o279) N) (F o215)) (B o119 (B o183 (F o311) N) (F o247))))) (B o11 (B o19 (B o35 (B o67 (B o131 (F o259) N) (B o195 (F o323) N)) (B o99 (B o163 (F o291) N) (F o227))) (B o51 (B o83 (B o147 (F o275) N) (F o211)) (B o115 (B o179 (F o307) N) (F o243)))) (B o27 (B o43 (B o75 (B o139 (F o267) N) (B o203 (F o331) N)) (B o107 (B o171 (F o299) N) (F o235))) (B o59 (B o91 (B o155 (F o283) N) (F o219)) (B o123 (B o187 (F o315) N) (F o251)))))) (B o5 (B o9 (B o17 (B o33 (B o65 (B o129 (F o257) N) (B o193 (F o321) N)) (B o97 (B o161 (F o289) N) (F o225))) (B o49 (B o81 (B o145 (F o273) N) (F o209)) (B o113 (B o177 (F o305) N) (F o241)))) (B o25 (B o41 (B o73 (B o137 (F o265) N) (B o201 (F o329) N)) (B o105 (B o169 (F o297) N) (F o233))) (B o57 (B o89 (B o153 (F o281) N) (F o217)) (B o121 (B o185 (F o313) N) (F o249))))) (B o13 (B o21 (B o37 (B o69 (B o133 (F o261) N) (B o197 (F o325) N)) (B o101 (B o165 (F o293) N) (F o229))) (B o53 (B o85 (B o149 (F o277) N) (F o213)) (B o117 (B o181 (F o309) N) (F o245)))) (B o29 (B o45 (B o77 (B o141 (F o269) N) (B o205 (F o333) N)) (B o109 (B o173 (F o301) N) (F o237))) (B o61 (B o93 (B o157 (F o285) N) (F o221)) (B o125 (B o189 (F (o317 P)) N) (F o253))))))) (B (o2v17 P) (B o4 (B o8 (B o16 (B o32 (B o64 (B o128 (F o256) N) (B o192 (F o320) N)) (B o96 (B o160 (F o288) N) (F o224))) (B o48 (B o80 (B o144 (F o272) N) (F o208)) (B o112 (B o176 (F o304) N) (F o240)))) (B o24 (B o40 (B o72 (B o136 (F o264) N) (B o200 (F o328) N)) (B o104 (B o168 (F o296) N) (F o232))) (B o56 (B o88 (B o152 (F o280) N) (F o216)) (B o120 (B o184 (F o312) N) (F o248))))) (B o12v19 (B o20 (B o36 (B o68 (B o132 (F o260) N) (B o196 (F o324) N)) (B o100 (B o164 (F o292) N) (F o228))) (B o52 (B o84 (B o148 (F o276) N) (F o212)) (B o116 (B o180 (F o308) N) (F o244)))) (B o28 (B o44 (B o76 (B o140 (F o268) N) (B o204 (F o332) N)) (B o108 (B o172 (F o300) N) (F o236))) (B o60 (B o92 (B o156 (F o284) N) (F o220)) (B o124 (B o188 (F o316) N) (F o252)))))) (B o6 (B o10 (B o18 (B o34 (B o66 (B o130 (F o258) N) (B o194 (F o322) N)) (B o98 (B (o162 P) (F o290) N) (F o226))) (B o50 (B o82 (B o146 (F (o274 P)) N) (F o210)) (B o114 (B o178 (F o306) N) (F o242)))) (B o26 (B o42 (B o74 (B o138 (F o266) N) (B o202 (F (o330 P)) N)) (B o106 (B o170 (F o298) N) (F o234))) (B o58 (B o90 (B o154 (F (o282 P)) N) (F o218)) (B o122 (B o186 (F o314) N) (F o250))))) (B o14 (B o22 (B o38 (B o70 (B o134 (F o262) N) (B o198 (F o326) N)) (B o102 (B o166 (F o294) N) (F o230))) (B o54 (B o86 (B o150 (F o278) N) (F o214)) (B o118 (B o182 (F o310) N) (F o246)))) (B o30 (B o46 (B o78 (B o142 (F o270) N) (B o206 (F o334) N)) (B o110 (B o174 (F o302) N) (F o238))) (B o62 (B o94 (B o158 (F o286) N) (F o222)) (B o126 (B o190 (F o318) N) (F o254))))))))
noncomputable def s51 (w : World) (os : OsState) : SharedT := ⟨tr51 w.params, 335, {}, ⟨[]⟩, {}, 821, os⟩
noncomputable def o3v20 (P : Params) : Obj := ⟨(.type PySem.W.SL.s14018661285674007319x4), none, (.dict ⟨[de P [95, 95, 110, 97, 109, 101, 95, 95] 165 (vs [106, 115, 46, 108, 101, 120, 101, 114] 819), de P [95, 95, 100, 111, 99, 95, 95] 166 .none, de P [95, 95, 112, 97, 99, 107, 97, 103, 101, 95, 95] 167 .none, de P [95, 95, 108, 111, 97, 100, 101, 114, 95, 95] 168 (.builtin PySem.W.SL.s7097527257260152453x26), de P [95, 95, 115, 112, 101, 99, 95, 95] 169 .none, de P [95, 95, 97, 110, 110, 111, 116, 97, 116, 105, 111, 110, 115, 95, 95] 170 (.ref 6), de P [95, 95, 98, 117, 105, 108, 116, 105, 110, 115, 95, 95] 171 (.ref 4), de P [95, 95, 102, 105, 108, 101, 95, 95] 173 (vs [47, 99, 108, 97, 105, 109, 47, 99, 117, 116, 46, 112, 121] 172), de P [95, 95, 99, 97, 99, 104, 101, 100, 95, 95] 174 .none, de P [66, 76, 65, 78, 75, 83] 200 (.ref 15), de P [76, 73, 78, 69, 95, 69, 78, 68, 83] 205 (.ref 16), de P [76, 69, 84, 84, 69, 82, 83] 270 (.ref 49), de P [80, 65, 82, 84, 83] 283 (.ref 56), de P [105, 115, 95, 97, 109, 111, 110, 103] 293 (.ref 63), de P [105, 115, 95, 119, 104, 105, 116, 101] 300 (.ref 70), de P [105, 115, 95, 108, 105, 110, 101, 95, 101, 110, 100] 307 (.ref 77), de P [105, 115, 95, 100, 105, 103, 105, 116] 314 (.ref 84), de P [105, 115, 95, 111, 99, 116, 97, 108, 95, 100, 105, 103, 105, 116] 321 (.ref 91), de P [104, 101, 120, 95, 118, 97, 108, 117, 101] 328 (.ref 98), de P [105, 115, 95, 105, 100, 95, 115, 116, 97, 114, 116] 335 (.ref 105), de P [105, 115, 95, 105, 100, 95, 112, 97, 114, 116] 342 (.ref 112), de P [83, 73, 71, 78, 95, 66, 73, 84] 348 (vj 9223372036854775808 347), de P [70, 82, 65, 67, 84, 73, 79, 78, 95, 66, 73, 84, 83] 350 (vj 52 349), de P [72, 73, 68, 68, 69, 78, 95, 66, 73, 84] 354 (vj 4503599627370496 353), de P [69, 88, 80, 79, 78, 69, 78, 84, 95, 77, 65, 83, 75] 356 (vj 2047 355), de P [69, 88, 80, 79, 78, 69, 78, 84, 95, 83, 72, 73, 70, 84] 358 (vj 1075 357), de P [76, 69, 65, 83, 84, 95, 80, 79, 87, 69, 82] 361 (.int (Int.negSucc 1073) 360), de P [90, 69, 82, 79] 363 (vj 0 362), de P [73, 78, 70] 367 (vj 9218868437227405312 366), de P [119, 105, 100, 116, 104] 376 (.ref 119), de P [112, 97, 99, 107] 385 (.ref 126), de P [115, 105, 103, 110, 101, 100] 393 (.ref 133), de P [113, 117, 111, 116, 105, 101, 110, 116] 402 (.ref 140), de P [114, 111, 117, 110, 100, 95, 114, 97, 116, 105, 111] 415 (.ref 147), de P [97, 115, 115, 101, 109, 98, 108, 101, 100] 425 (.ref 154), de P [102, 114, 111, 109, 95, 105, 110, 116] 432 (.ref 161), de P [83, 73, 78, 71, 76, 69] 453 (.ref 162), de P [99, 111, 100, 101, 95, 97, 116] 461 (.ref 169), de P [104, 101, 120, 95, 97, 116] 473 (.ref 176), de P [108, 105, 110, 101, 95, 101, 110, 100, 95, 115, 105, 122, 101] 481 (.ref 183), de P [111, 99, 116, 97, 108, 95, 101, 115, 99, 97, 112, 101] 492 (.ref 190), de P [114, 101, 97, 100, 95, 101, 115, 99, 97, 112, 101] 505 (.ref 197), de P [70, 65, 82, 84, 72, 69, 83, 84] 509 (vj 400 508), de P [102, 105, 103, 117, 114, 101, 95, 111, 102] 516 (.ref 204), de P [119, 111, 114, 116, 104] 528 (.ref 211), de P [102, 114, 111, 109, 95, 100, 101, 99, 105, 109, 97, 108] 539 (.ref 218), de P [75, 69, 89, 87, 79, 82, 68, 83] 578 (.ref 219), de P [80, 85, 78, 67, 84, 83] 627 (.ref 220), de P [80, 85, 78, 67, 84, 95, 84, 65, 66, 76, 69] 727 (.ref 274), de P [84, 111, 107, 101, 110] 768 (.ref 296), de P [105, 115, 95, 107, 101, 121, 119, 111, 114, 100] 775 (.ref 307), de P [112, 117, 110, 99, 116, 95, 97, 116] 785 (.ref 314), de P [83, 121, 110, 116, 97, 120, 70, 97, 105, 108] 818 (.ref 331), de P [76, 101, 120, 101, 114] 1021 (.ref 477)]⟩ 54), ⟨[]⟩⟩
noncomputable def o12v21 : Obj := ⟨.none, none, (.fields ⟨[(vi 6), (vi 0), (.ref 62), (vi 11), (vi 0), (.ref 69), (vi 13), (vi 0), (.ref 76), (vi 15), (vi 0), (.ref 83), (vi 17), (vi 0), (.ref 90), (vi 19), (vi 0), (.ref 97), (vi 25), (vi 0), (.ref 104), (vi 29), (vi 0), (.ref 111), (vi 40), (vi 0), (.ref 118), (vi 50), (vi 0), (.ref 125), (vi 52), (vi 0), (.ref 132), (vi 54), (vi 0), (.ref 139), (vi 60), (vi 0), (.ref 146), (vi 71), (vi 0), (.ref 153), (vi 80), (vi 0), (.ref 160), (vi 84), (vi 0), (.ref 168), (vi 86), (vi 0), (.ref 175), (vi 94), (vi 0), (.ref 182), (vi 96), (vi 0), (.ref 189), (vi 105), (vi 0), (.ref 196), (vi 126), (vi 0), (.ref 203), (vi 132), (vi 0), (.ref 210), (vi 137), (vi 0), (.ref 217), (vi 152), (vi 0), (.ref 285), (vi 163), (vi 0), (.ref 306), (vi 165), (vi 0), (.ref 313), (vi 172), (vi 0), (.ref 320), (vi 178), (vi 0), (.ref 340)]⟩), ⟨[]⟩⟩
noncomputable def tr52 (P : Params) : BT := (B (o0 P) (B (o1 P) (B (o3v20 P) (B o7 (B o15 (B o31 (B o63 (B o127 (F o255) (F o383)) (B o191 (F o319) (F o447))) (B o95 (B o159 (F o287) (F o415)) (B o223 (F o351) (F o479)))) (B o47 (B o79 (B o143 (F o271) (F o399)) (B o207 (F o335) (F o463))) (B o111 (B o175 (F o303) (F o431)) (B o239 (F o367) N)))) (B o23 (B o39 (B o71 (B o135 (F o263) (F o391)) (B o199 (F o327) (F o455))) (B o103 (B o167 (F (o295 P)) (F o423)) (B o231 (F o359) N))) (B o55 (B o87 (B o151 (F o279) (F o407)) (B o215 (F o343) (F o471))) (B o119 (B o183 (F o311) (F o439)) (B o247 (F o375) N))))) (B o11 (B o19 (B o35 (B o67 (B o131 (F o259) (F o387)) (B o195 (F o323) (F o451))) (B o99 (B o163 (F o291) (F o419)) (B o227 (F o355) N))) (B o51 (B o83 (B o147 (F o275) (F o403)) (B o211 (F o339) (F o467))) (B o115 (B o179 (F o307) (F o435)) (B o243 (F o371) N)))) (B o27 (B o43 (B o75 (B o139 (F o267) (F o395)) (B o203 (F o331) (F o459))) (B o107 (B o171 (F o299) (F o427)) (B o235 (F o363) N))) (B o59 (B o91 (B o155 (F o283) (F o411)) (B o219 (F o347) (F o475))) (B o123 (B o187 (F o315) (F o443)) (B o251 (F o379) N)))))) (B o5 (B o9 (B o17 (B o33 (B o65 (B o129 (F o257) (F o385)) (B o193 (F o321) (F o449))) (B o97 (B o161 (F o289) (F o417)) (B o225 (F o353) (F o481)))) (B o49 (B o81 (B o145 (F o273) (F o401)) (B o209 (F (o337 P)) (F o465))) (B o113 (B o177 (F o305) (F o433)) (B o241 (F o369) N)))) (B o25 (B o41 (B o73 (B o137 (F o265) (F o393)) (B o201 (F o329) (F o457))) (B o105 (B o169 (F o297) (F o425)) (B o233 (F o361) N))) (B o57 (B o89 (B o153 (F o281) (F o409)) (B o217 (F o345) (F o473))) (B o121 (B o185 (F o313) (F o441)) (B o249 (F o377) N))))) (B o13 (B o21 (B o37 (B o69 (B o133 (F o261) (F o389)) (B o197 (F o325) (F o453))) (B o101 (B o165 (F o293) (F o421)) (B o229 (F o357) N))) (B o53 (B o85 (B o149 (F o277) (F o405)) (B o213 (F o341) (F o469))) (B o117 (B o181 (F o309) (F o437)) (B o245 (F o373) N)))) (B o29 (B o45 (B o77 (B o141 (F o269) (F o397)) (B o205 (F o333) (F o461))) (B o109 (B o173 (F o301) (F o429)) (B o237 (F o365) N))) (B o61 (B o93 (B o157 (F o285) (F o413)) (B o221 (F o349) (F o477))) (B o125 (B o189 (F (o317 P)) (F o445)) (B o253 (F o381) N))))))) (B (o2v17 P) (B o4 (B o8 (B o16 (B o32 (B o64 (B o128 (F o256) (F o384)) (B o192 (F o320) (F o448))) (B o96 (B o160 (F o288) (F o416)) (B o224 (F o352) (F o480)))) (B o48 (B o80 (B o144 (F o272) (F o400)) (B o208 (F o336) (F o464))) (B o112 (B o176 (F o304) (F o432)) (B o240 (F o368) N)))) (B o24 (B o40 (B o72 (B o136 (F o264) (F o392)) (B o200 (F o328) (F o456))) (B o104 (B o168 (F o296) (F o424)) (B o232 (F o360) N))) (B o56 (B o88 (B o152 (F o280) (F o408)) (B o216 (F o344) (F o472))) (B o120 (B o184 (F o312) (F o440)) (B o248 (F o376) N))))) (B o12v21 (B o20 (B o36 (B o68 (B o132 (F o260) (F o388)) (B o196 (F o324) (F o452))) (B o100 (B o164 (F o292) (F o420)) (B o228 (F o356) N))) (B o52 (B o84 (B o148 (F o276) (F o404)) (B o212 (F o340) (F o468))) (B o116 (B o180 (F o308) (F o436)) (B o244 (F o372) N)))) (B o28 (B o44 (B o76 (B o140 (F o268) (F o396)) (B o204 (F o332) (F o460))) (B o108 (B o172 (F o300) (F o428)) (B o236 (F o364) N))) (B o60 (B o92 (B o156 (F o284) (F o412)) (B o220 (F o348) (F (o476 P)))) (B o124 (B o188 (F o316) (F o444)) (B o252 (F o380) N)))))) (B o6 (B o10 (B o18 (B o34 (B o66 (B o130 (F o258) (F o386)) (B o194 (F o322) (F o450))) (B o98 (B (o162 P) (F o290) (F o418)) (B o226 (F o354) N))) (B o50 (B o82 (B o146 (F (o274 P)) (F o402)) (B o210 (F o338) (F o466))) (B o114 (B o178 (F o306) (F o434)) (B o242 (F o370) N)))) (B o26 (B o42 (B o74 (B o138 (F o266) (F o394)) (B o202 (F (o330 P)) (F o458))) (B o106 (B o170 (F o298) (F o426)) (B o234 (F o362) N))) (B o58 (B o90 (B o154 (F (o282 P)) (F o410)) (B o218 (F o346) (F o474))) (B o122 (B o186 (F o314) (F o442)) (B o250 (F o378) N))))) (B o14 (B o22 (B o38 (B o70 (B o134 (F o262) (F o390)) (B o198 (F o326) (F o454))) (B o102 (B o166 (F o294) (F o422)) (B o230 (F o358) N))) (B o54 (B o86 (B o150 (F o278) (F o406)) (B o214 (F o342) (F o470))) (B o118 (B o182 (F o310) (F o438)) (B o246 (F o374) N)))) (B o30 (B o46 (B o78 (B o142 (F o270) (F o398)) (B o206 (F o334) (F o462))) (B o110 (B o174 (F o302) (F o430)) (B o238 (F o366) N))) (B o62 (B o94 (B o158 (F o286) (F o414)) (B o222 (F o350) (F o478))) (B o126 (B o190 (F o318) (F o446)) (B o254 (F o382) N))))))))
noncomputable def s52 (w : World) (os : OsState) : SharedT := ⟨tr52 w.params, 482, {}, ⟨[]⟩, {}, 1022, os⟩
noncomputable def o3v22 (P : Params) : Obj := ⟨(.type PySem.W.SL.s14018661285674007319x4), none, (.dict ⟨[de P [95, 95, 110, 97, 109, 101, 95, 95] 165 (vs [108, 97, 119, 95, 115, 122, 48, 48, 56, 49, 95, 48, 49] 1032), de P [95, 95, 100, 111, 99, 95, 95] 166 .none, de P [95, 95, 112, 97, 99, 107, 97, 103, 101, 95, 95] 167 .none, de P [95, 95, 108, 111, 97, 100, 101, 114, 95, 95] 168 (.builtin PySem.W.SL.s7097527257260152453x26), de P [95, 95, 115, 112, 101, 99, 95, 95] 169 .none, de P [95, 95, 97, 110, 110, 111, 116, 97, 116, 105, 111, 110, 115, 95, 95] 170 (.ref 6), de P [95, 95, 98, 117, 105, 108, 116, 105, 110, 115, 95, 95] 171 (.ref 4), de P [95, 95, 102, 105, 108, 101, 95, 95] 173 (vs [47, 99, 108, 97, 105, 109, 47, 99, 117, 116, 46, 112, 121] 172), de P [95, 95, 99, 97, 99, 104, 101, 100, 95, 95] 174 .none, de P [66, 76, 65, 78, 75, 83] 200 (.ref 15), de P [76, 73, 78, 69, 95, 69, 78, 68, 83] 205 (.ref 16), de P [76, 69, 84, 84, 69, 82, 83] 270 (.ref 49), de P [80, 65, 82, 84, 83] 283 (.ref 56), de P [105, 115, 95, 97, 109, 111, 110, 103] 293 (.ref 63), de P [105, 115, 95, 119, 104, 105, 116, 101] 300 (.ref 70), de P [105, 115, 95, 108, 105, 110, 101, 95, 101, 110, 100] 307 (.ref 77), de P [105, 115, 95, 100, 105, 103, 105, 116] 314 (.ref 84), de P [105, 115, 95, 111, 99, 116, 97, 108, 95, 100, 105, 103, 105, 116] 321 (.ref 91), de P [104, 101, 120, 95, 118, 97, 108, 117, 101] 328 (.ref 98), de P [105, 115, 95, 105, 100, 95, 115, 116, 97, 114, 116] 335 (.ref 105), de P [105, 115, 95, 105, 100, 95, 112, 97, 114, 116] 342 (.ref 112), de P [83, 73, 71, 78, 95, 66, 73, 84] 348 (vj 9223372036854775808 347), de P [70, 82, 65, 67, 84, 73, 79, 78, 95, 66, 73, 84, 83] 350 (vj 52 349), de P [72, 73, 68, 68, 69, 78, 95, 66, 73, 84] 354 (vj 4503599627370496 353), de P [69, 88, 80, 79, 78, 69, 78, 84, 95, 77, 65, 83, 75] 356 (vj 2047 355), de P [69, 88, 80, 79, 78, 69, 78, 84, 95, 83, 72, 73, 70, 84] 358 (vj 1075 357), de P [76, 69, 65, 83, 84, 95, 80, 79, 87, 69, 82] 361 (.int (Int.negSucc 1073) 360), de P [90, 69, 82, 79] 363 (vj 0 362), de P [73, 78, 70] 367 (vj 9218868437227405312 366), de P [119, 105, 100, 116, 104] 376 (.ref 119), de P [112, 97, 99, 107] 385 (.ref 126), de P [115, 105, 103, 110, 101, 100] 393 (.ref 133), de P [113, 117, 111, 116, 105, 101, 110, 116] 402 (.ref 140), de P [114, 111, 117, 110, 100, 95, 114, 97, 116, 105, 111] 415 (.ref 147), de P [97, 115, 115, 101, 109, 98, 108, 101, 100] 425 (.ref 154), de P [102, 114, 111, 109, 95, 105, 110, 116] 432 (.ref 161), de P [83, 73, 78, 71, 76, 69] 453 (.ref 162), de P [99, 111, 100, 101, 95, 97, 116] 461 (.ref 169), de P [104, 101, 120, 95, 97, 116] 473 (.ref 176), de P [108, 105, 110, 101, 95, 101, 110, 100, 95, 115, 105, 122, 101] 481 (.ref 183), de P [111, 99, 116, 97, 108, 95, 101, 115, 99, 97, 112, 101] 492 (.ref 190), de P [114, 101, 97, 100, 95, 101, 115, 99, 97, 112, 101] 505 (.ref 197), de P [70, 65, 82, 84, 72, 69, 83, 84] 509 (vj 400 508), de P [102, 105, 103, 117, 114, 101, 95, 111, 102] 516 (.ref 204), de P [119, 111, 114, 116, 104] 528 (.ref 211), de P [102, 114, 111, 109, 95, 100, 101, 99, 105, 109, 97, 108] 539 (.ref 218), de P [75, 69, 89, 87, 79, 82, 68, 83] 578 (.ref 219), de P [80, 85, 78, 67, 84, 83] 627 (.ref 220), de P [80, 85, 78, 67, 84, 95, 84, 65, 66, 76, 69] 727 (.ref 274), de P [84, 111, 107, 101, 110] 768 (.ref 296), de P [105, 115, 95, 107, 101, 121, 119, 111, 114, 100] 775 (.ref 307), de P [112, 117, 110, 99, 116, 95, 97, 116] 785 (.ref 314), de P [83, 121, 110, 116, 97, 120, 70, 97, 105, 108] 818 (.ref 331), de P [76, 101, 120, 101, 114] 1021 (.ref 477), de P [97, 108, 108, 95, 116, 111, 107, 101, 110, 115] 1031 (.ref 488), de P [95, 108, 97, 119, 95, 116, 101, 120, 116] 1045 (.ref 495), de P [95, 108, 97, 119, 95, 116, 111, 108, 100] 1051 (.ref 500), de P [108, 97, 119] 1057 (.ref 505)]⟩ 58), ⟨[]⟩⟩
noncomputable def o12v23 : Obj := ⟨.none, none, (.fields ⟨[(vi 6), (vi 0), (.ref 62), (vi 11), (vi 0), (.ref 69), (vi 13), (vi 0), (.ref 76), (vi 15), (vi 0), (.ref 83), (vi 17), (vi 0), (.ref 90), (vi 19), (vi 0), (.ref 97), (vi 25), (vi 0), (.ref 104), (vi 29), (vi 0), (.ref 111), (vi 40), (vi 0), (.ref 118), (vi 50), (vi 0), (.ref 125), (vi 52), (vi 0), (.ref 132), (vi 54), (vi 0), (.ref 139), (vi 60), (vi 0), (.ref 146), (vi 71), (vi 0), (.ref 153), (vi 80), (vi 0), (.ref 160), (vi 84), (vi 0), (.ref 168), (vi 86), (vi 0), (.ref 175), (vi 94), (vi 0), (.ref 182), (vi 96), (vi 0), (.ref 189), (vi 105), (vi 0), (.ref 196), (vi 126), (vi 0), (.ref 203), (vi 132), (vi 0), (.ref 210), (vi 137), (vi 0), (.ref 217), (vi 152), (vi 0), (.ref 285), (vi 163), (vi 0), (.ref 306), (vi 165), (vi 0), (.ref 313), (vi 172), (vi 0), (.ref 320), (vi 178), (vi 0), (.ref 340), (vi 383), (vi 0), (.ref 487), (vi 391), (vi 0), (.ref 494), (vi 399), (vi 0), (.ref 499), (vi 401), (vi 0), (.ref 504)]⟩), ⟨[]⟩⟩
noncomputable def tr57 (P : Params) : BT := (B (o0 P) (B (o1 P) (B (o3v22 P) (B o7 (B o15 (B o31 (B o63 (B o127 (F o255) (F o383)) (B o191 (F o319) (F o447))) (B o95 (B o159 (F o287) (F o415)) (B o223 (F o351) (F o479)))) (B o47 (B o79 (B o143 (F o271) (F o399)) (B o207 (F o335) (F o463))) (B o111 (B o175 (F o303) (F o431)) (B o239 (F o367) (F o495))))) (B o23 (B o39 (B o71 (B o135 (F o263) (F o391)) (B o199 (F o327) (F o455))) (B o103 (B o167 (F (o295 P)) (F o423)) (B o231 (F o359) (F o487)))) (B o55 (B o87 (B o151 (F o279) (F o407)) (B o215 (F o343) (F o471))) (B o119 (B o183 (F o311) (F o439)) (B o247 (F o375) (F o503)))))) (B o11 (B o19 (B o35 (B o67 (B o131 (F o259) (F o387)) (B o195 (F o323) (F o451))) (B o99 (B o163 (F o291) (F o419)) (B o227 (F o355) (F o483)))) (B o51 (B o83 (B o147 (F o275) (F o403)) (B o211 (F o339) (F o467))) (B o115 (B o179 (F o307) (F o435)) (B o243 (F o371) (F o499))))) (B o27 (B o43 (B o75 (B o139 (F o267) (F o395)) (B o203 (F o331) (F o459))) (B o107 (B o171 (F o299) (F o427)) (B o235 (F o363) (F o491)))) (B o59 (B o91 (B o155 (F o283) (F o411)) (B o219 (F o347) (F o475))) (B o123 (B o187 (F o315) (F o443)) (B o251 (F o379) N)))))) (B o5 (B o9 (B o17 (B o33 (B o65 (B o129 (F o257) (F o385)) (B o193 (F o321) (F o449))) (B o97 (B o161 (F o289) (F o417)) (B o225 (F o353) (F o481)))) (B o49 (B o81 (B o145 (F o273) (F o401)) (B o209 (F (o337 P)) (F o465))) (B o113 (B o177 (F o305) (F o433)) (B o241 (F o369) (F o497))))) (B o25 (B o41 (B o73 (B o137 (F o265) (F o393)) (B o201 (F o329) (F o457))) (B o105 (B o169 (F o297) (F o425)) (B o233 (F o361) (F o489)))) (B o57 (B o89 (B o153 (F o281) (F o409)) (B o217 (F o345) (F o473))) (B o121 (B o185 (F o313) (F o441)) (B o249 (F o377) (F o505)))))) (B o13 (B o21 (B o37 (B o69 (B o133 (F o261) (F o389)) (B o197 (F o325) (F o453))) (B o101 (B o165 (F o293) (F o421)) (B o229 (F o357) (F o485)))) (B o53 (B o85 (B o149 (F o277) (F o405)) (B o213 (F o341) (F o469))) (B o117 (B o181 (F o309) (F o437)) (B o245 (F o373) (F o501))))) (B o29 (B o45 (B o77 (B o141 (F o269) (F o397)) (B o205 (F o333) (F o461))) (B o109 (B o173 (F o301) (F o429)) (B o237 (F o365) (F o493)))) (B o61 (B o93 (B o157 (F o285) (F o413)) (B o221 (F o349) (F o477))) (B o125 (B o189 (F (o317 P)) (F o445)) (B o253 (F o381) N))))))) (B (o2v17 P) (B o4 (B o8 (B o16 (B o32 (B o64 (B o128 (F o256) (F o384)) (B o192 (F o320) (F o448))) (B o96 (B o160 (F o288) (F o416)) (B o224 (F o352) (F o480)))) (B o48 (B o80 (B o144 (F o272) (F o400)) (B o208 (F o336) (F o464))) (B o112 (B o176 (F o304) (F o432)) (B o240 (F o368) (F o496))))) (B o24 (B o40 (B o72 (B o136 (F o264) (F o392)) (B o200 (F o328) (F o456))) (B o104 (B o168 (F o296) (F o424)) (B o232 (F o360) (F o488)))) (B o56 (B o88 (B o152 (F o280) (F o408)) (B o216 (F o344) (F o472))) (B o120 (B o184 (F o312) (F o440)) (B o248 (F o376) (F o504)))))) (B o12v23 (B o20 (B o36 (B o68 (B o132 (F o260) (F o388)) (B o196 (F o324) (F o452))) (B o100 (B o164 (F o292) (F o420)) (B o228 (F o356) (F o484)))) (B o52 (B o84 (B o148 (F o276) (F o404)) (B o212 (F o340) (F o468))) (B o116 (B o180 (F o308) (F o436)) (B o244 (F o372) (F o500))))) (B o28 (B o44 (B o76 (B o140 (F o268) (F o396)) (B o204 (F o332) (F o460))) (B o108 (B o172 (F o300) (F o428)) (B o236 (F o364) (F o492)))) (B o60 (B o92 (B o156 (F o284) (F o412)) (B o220 (F o348) (F (o476 P)))) (B o124 (B o188 (F o316) (F o444)) (B o252 (F o380) N)))))) (B o6 (B o10 (B o18 (B o34 (B o66 (B o130 (F o258) (F o386)) (B o194 (F o322) (F o450))) (B o98 (B (o162 P) (F o290) (F o418)) (B o226 (F o354) (F o482)))) (B o50 (B o82 (B o146 (F (o274 P)) (F o402)) (B o210 (F o338) (F o466))) (B o114 (B o178 (F o306) (F o434)) (B o242 (F o370) (F o498))))) (B o26 (B o42 (B o74 (B o138 (F o266) (F o394)) (B o202 (F (o330 P)) (F o458))) (B o106 (B o170 (F o298) (F o426)) (B o234 (F o362) (F o490)))) (B o58 (B o90 (B o154 (F (o282 P)) (F o410)) (B o218 (F o346) (F o474))) (B o122 (B o186 (F o314) (F o442)) (B o250 (F o378) N))))) (B o14 (B o22 (B o38 (B o70 (B o134 (F o262) (F o390)) (B o198 (F o326) (F o454))) (B o102 (B o166 (F o294) (F o422)) (B o230 (F o358) (F o486)))) (B o54 (B o86 (B o150 (F o278) (F o406)) (B o214 (F o342) (F o470))) (B o118 (B o182 (F o310) (F o438)) (B o246 (F o374) (F o502))))) (B o30 (B o46 (B o78 (B o142 (F o270) (F o398)) (B o206 (F o334) (F o462))) (B o110 (B o174 (F o302) (F o430)) (B o238 (F o366) (F o494)))) (B o62 (B o94 (B o158 (F o286) (F o414)) (B o222 (F o350) (F o478))) (B o126 (B o190 (F o318) (F o446)) (B o254 (F o382) N))))))))
noncomputable def s57 (w : World) (os : OsState) : SharedT := ⟨tr57 w.params, 506, {}, ⟨[]⟩, {}, 1058, os⟩
noncomputable def sts (a n : Nat) : List Stmt := (PW.main.body.drop a).take n
noncomputable def env : Env := { scope := PW.main.scope, locals := mainNs, globals := mainNs, cells := [], code := .ref 13, frame := some 14 }
noncomputable def cE : Code := .body (behindTheImports PW) env
noncomputable abbrev p00 : Pos := ⟨0, 0, 0, 0⟩
noncomputable abbrev tf : Frame := topFrame p00
theorem pc0 (w : World) (os : OsState) : segRunT treeTable PW w 11 (some (.ref 6)) 1 183 (s0 w os) (piecesOf (sts 0 4) env cE ⟨0, 0, 0, 0⟩ [tf]) = some (.next, s4 w os, cE, ⟨4, 0, 4, 7⟩) := by rw [PySem.W.Fast.te10110043849684766642, PySem.W.Fast.te14364793385576792824]; kernel_rfl
theorem pc4 (w : World) (os : OsState) : segRunT treeTable PW w 11 (some (.ref 6)) 1 241 (s4 w os) (piecesOf (sts 4 8) env cE ⟨4, 0, 4, 7⟩ [tf]) = some (.next, s12 w os, cE, ⟨25, 0, 28, 34⟩) := by rw [PySem.W.Fast.te10110043849684766642, PySem.W.Fast.te14364793385576792824]; kernel_rfl
theorem pc12 (w : World) (os : OsState) : segRunT treeTable PW w 11 (some (.ref 6)) 1 196 (s12 w os) (piecesOf (sts 12 12) env cE ⟨25, 0, 28, 34⟩ [tf]) = some (.next, s24 w os, cE, ⟨50, 0, 51, 60⟩) := by rw [PySem.W.Fast.te10110043849684766642, PySem.W.Fast.te14364793385576792824]; kernel_rfl
theorem pc24 (w : World) (os : OsState) : segRunT treeTable PW w 11 (some (.ref 6)) 1 167 (s24 w os) (piecesOf (sts 24 6) env cE ⟨50, 0, 51, 60⟩ [tf]) = some (.next, s30 w os, cE, ⟨82, 0, 82, 8⟩) := by rw [PySem.W.Fast.te10110043849684766642, PySem.W.Fast.te14364793385576792824]; kernel_rfl
theorem pc30_false (w : World) (os : OsState) : segRunT treeTable PW (w.withFollow "special-get-raises" false) 11 (some (.ref 6)) 1 228 (s30 (w.withFollow "special-get-raises" false) os) (piecesOf (sts 30 5) env cE ⟨82, 0, 82, 8⟩ [tf]) = some (.next, s35 (w.withFollow "special-get-raises" false) os, cE, ⟨96, 0, 104, 24⟩) := by rw [PySem.W.Fast.te10110043849684766642, PySem.W.Fast.te14364793385576792824]; kernel_rfl
theorem pc30_true (w : World) (os : OsState) : segRunT treeTable PW (w.withFollow "special-get-raises" true) 11 (some (.ref 6)) 1 228 (s30 (w.withFollow "special-get-raises" true) os) (piecesOf (sts 30 5) env cE ⟨82, 0, 82, 8⟩ [tf]) = some (.next, s35 (w.withFollow "special-get-raises" true) os, cE, ⟨96, 0, 104, 24⟩) := by rw [PySem.W.Fast.te10110043849684766642, PySem.W.Fast.te14364793385576792824]; kernel_rfl
theorem pc30 (w : World) (os : OsState) : segRunT treeTable PW w 11 (some (.ref 6)) 1 228 (s30 w os) (piecesOf (sts 30 5) env cE ⟨82, 0, 82, 8⟩ [tf]) = some (.next, s35 w os, cE, ⟨96, 0, 104, 24⟩) := byRow2 "special-get-raises" (P := fun w => segRunT treeTable PW w 11 (some (.ref 6)) 1 228 (s30 w os) (piecesOf (sts 30 5) env cE ⟨82, 0, 82, 8⟩ [tf]) = some (.next, s35 w os, cE, ⟨96, 0, 104, 24⟩)) (fun w => pc30_false w os) (fun w => pc30_true w os) w
theorem pc35 (w : World) (os : OsState) : segRunT treeTable PW w 11 (some (.ref 6)) 1 263 (s35 w os) (piecesOf (sts 35 9) env cE ⟨96, 0, 104, 24⟩ [tf]) = some (.next, s44 w os, cE, ⟨150, 0, 150, 6⟩) := by rw [PySem.W.Fast.te10110043849684766642, PySem.W.Fast.te14364793385576792824]; kernel_rfl
theorem pc44_false_false (w : World) (os : OsState) : segRunT treeTable PW ((w.withFollow "special-get-raises" false).withFollow "comprehension-iter-twice" false) 11 (some (.ref 6)) 1 2768 (s44 ((w.withFollow "special-get-raises" false).withFollow "comprehension-iter-twice" false) os) (piecesOf (sts 44 1) env cE ⟨150, 0, 150, 6⟩ [tf]) = some (.next, s45 ((w.withFollow "special-get-raises" false).withFollow "comprehension-iter-twice" false) os, cE, ⟨151, 0, 151, 11⟩) := by rw [PySem.W.Fast.te10110043849684766642, PySem.W.Fast.te14364793385576792824]; kernel_rfl
theorem pc44_false_true (w : World) (os : OsState) : segRunT treeTable PW ((w.withFollow "special-get-raises" true).withFollow "comprehension-iter-twice" false) 11 (some (.ref 6)) 1 2768 (s44 ((w.withFollow "special-get-raises" true).withFollow "comprehension-iter-twice" false) os) (piecesOf (sts 44 1) env cE ⟨150, 0, 150, 6⟩ [tf]) = some (.next, s45 ((w.withFollow "special-get-raises" true).withFollow "comprehension-iter-twice" false) os, cE, ⟨151, 0, 151, 11⟩) := by rw [PySem.W.Fast.te10110043849684766642, PySem.W.Fast.te14364793385576792824]; kernel_rfl
theorem pc44_false (w : World) (os : OsState) : segRunT treeTable PW (w.withFollow "comprehension-iter-twice" false) 11 (some (.ref 6)) 1 2768 (s44 (w.withFollow "comprehension-iter-twice" false) os) (piecesOf (sts 44 1) env cE ⟨150, 0, 150, 6⟩ [tf]) = some (.next, s45 (w.withFollow "comprehension-iter-twice" false) os, cE, ⟨151, 0, 151, 11⟩) := byRow2 "special-get-raises" (P := fun w => segRunT treeTable PW (w.withFollow "comprehension-iter-twice" false) 11 (some (.ref 6)) 1 2768 (s44 (w.withFollow "comprehension-iter-twice" false) os) (piecesOf (sts 44 1) env cE ⟨150, 0, 150, 6⟩ [tf]) = some (.next, s45 (w.withFollow "comprehension-iter-twice" false) os, cE, ⟨151, 0, 151, 11⟩)) (fun w => pc44_false_false w os) (fun w => pc44_false_true w os) w
theorem pc44_true_false (w : World) (os : OsState) : segRunT treeTable PW ((w.withFollow "special-get-raises" false).withFollow "comprehension-iter-twice" true) 11 (some (.ref 6)) 1 2768 (s44 ((w.withFollow "special-get-raises" false).withFollow "comprehension-iter-twice" true) os) (piecesOf (sts 44 1) env cE ⟨150, 0, 150, 6⟩ [tf]) = some (.next, s45 ((w.withFollow "special-get-raises" false).withFollow "comprehension-iter-twice" true) os, cE, ⟨151, 0, 151, 11⟩) := by rw [PySem.W.Fast.te10110043849684766642, PySem.W.Fast.te14364793385576792824]; kernel_rfl
theorem pc44_true_true (w : World) (os : OsState) : segRunT treeTable PW ((w.withFollow "special-get-raises" true).withFollow "comprehension-iter-twice" true) 11 (some (.ref 6)) 1 2768 (s44 ((w.withFollow "special-get-raises" true).withFollow "comprehension-iter-twice" true) os) (piecesOf (sts 44 1) env cE ⟨150, 0, 150, 6⟩ [tf]) = some (.next, s45 ((w.withFollow "special-get-raises" true).withFollow "comprehension-iter-twice" true) os, cE, ⟨151, 0, 151, 11⟩) := by rw [PySem.W.Fast.te10110043849684766642, PySem.W.Fast.te14364793385576792824]; kernel_rfl
theorem pc44_true (w : World) (os : OsState) : segRunT treeTable PW (w.withFollow "comprehension-iter-twice" true) 11 (some (.ref 6)) 1 2768 (s44 (w.withFollow "comprehension-iter-twice" true) os) (piecesOf (sts 44 1) env cE ⟨150, 0, 150, 6⟩ [tf]) = some (.next, s45 (w.withFollow "comprehension-iter-twice" true) os, cE, ⟨151, 0, 151, 11⟩) := byRow2 "special-get-raises" (P := fun w => segRunT treeTable PW (w.withFollow "comprehension-iter-twice" true) 11 (some (.ref 6)) 1 2768 (s44 (w.withFollow "comprehension-iter-twice" true) os) (piecesOf (sts 44 1) env cE ⟨150, 0, 150, 6⟩ [tf]) = some (.next, s45 (w.withFollow "comprehension-iter-twice" true) os, cE, ⟨151, 0, 151, 11⟩)) (fun w => pc44_true_false w os) (fun w => pc44_true_true w os) w
theorem pc44 (w : World) (os : OsState) : segRunT treeTable PW w 11 (some (.ref 6)) 1 2768 (s44 w os) (piecesOf (sts 44 1) env cE ⟨150, 0, 150, 6⟩ [tf]) = some (.next, s45 w os, cE, ⟨151, 0, 151, 11⟩) := byRow2 "comprehension-iter-twice" (P := fun w => segRunT treeTable PW w 11 (some (.ref 6)) 1 2768 (s44 w os) (piecesOf (sts 44 1) env cE ⟨150, 0, 150, 6⟩ [tf]) = some (.next, s45 w os, cE, ⟨151, 0, 151, 11⟩)) (fun w => pc44_false w os) (fun w => pc44_true w os) w
theorem pc45 (w : World) (os : OsState) : segRunT treeTable PW w 11 (some (.ref 6)) 1 305 (s45 w os) (piecesOf (sts 45 4) env cE ⟨151, 0, 151, 11⟩ [tf]) = some (.next, s49 w os, cE, ⟨171, 0, 171, 8⟩) := by rw [PySem.W.Fast.te10110043849684766642, PySem.W.Fast.te14364793385576792824]; kernel_rfl
theorem pc49 (w : World) (os : OsState) : segRunT treeTable PW w 11 (some (.ref 6)) 1 240 (s49 w os) (piecesOf (sts 49 2) env cE ⟨171, 0, 171, 8⟩ [tf]) = some (.next, s51 w os, cE, ⟨177, 0, 177, 8⟩) := by rw [PySem.W.Fast.te10110043849684766642, PySem.W.Fast.te14364793385576792824]; kernel_rfl
theorem pc51 (w : World) (os : OsState) : segRunT treeTable PW w 11 (some (.ref 6)) 1 827 (s51 w os) (piecesOf (sts 51 1) env cE ⟨177, 0, 177, 8⟩ [tf]) = some (.next, s52 w os, cE, ⟨178, 0, 382, 29⟩) := by rw [PySem.W.Fast.te10110043849684766642, PySem.W.Fast.te14364793385576792824]; kernel_rfl
theorem pc52 (w : World) (os : OsState) : segRunT treeTable PW w 11 (some (.ref 6)) 1 128 (s52 w os) (piecesOf (sts 52 5) env cE ⟨178, 0, 382, 29⟩ [tf]) = some (.next, s57 w os, cE, ⟨401, 0, 412, 15⟩) := by rw [PySem.W.Fast.te10110043849684766642, PySem.W.Fast.te14364793385576792824]; kernel_rfl
end Mine
namespace Mine
theorem body_cut : behindTheImports PW = sts 0 4 ++ (sts 4 8 ++ (sts 12 12 ++ (sts 24 6 ++ (sts 30 5 ++ (sts 35 9 ++ (sts 44 1 ++ (sts 45 4 ++ (sts 49 2 ++ (sts 51 1 ++ (sts 52 5 ++ [])))))))))) := by kernel_rfl
theorem pre_go (w : World) (os : OsState) : topGo treeTable PW w 11 (some (.ref 6)) 12 ⟨boot_heap w.params, ⟨[]⟩, boot_drawn, boot_toks, os⟩ (topStub PW) = some ((s0 w os).abs, ⟨denote treeTable cE, cE, p00, [tf]⟩) := by
  rw [PySem.W.Fast.te15667345088766844465, PySem.W.Fast.te14364793385576792824, PySem.W.Fast.te11892475500146522536]; kernel_rfl
theorem blk_go (w : World) (os : OsState) : segRun treeTable PW w 11 (some (.ref 6)) 1 1 (s0 w os).abs (blockOf (behindTheImports PW) env cE p00 [tf]) = some (.next, (s0 w os).abs, cE, p00) := by
  rw [PySem.W.Fast.te14374325043358763698, PySem.W.Fast.te14364793385576792824]; kernel_rfl
theorem fin_go (w : World) (os : OsState) : topRun treeTable PW w 11 (some (.ref 6)) 2 (s57 w os).abs ⟨doneF .next, cE, ⟨401, 0, 412, 15⟩, [tf]⟩ = some (s57 w os).abs := by
  rw [PySem.W.Fast.te14082659384304107361, PySem.W.Fast.te14364793385576792824]; kernel_rfl
theorem run_go (w : World) (os : OsState) : topRun treeTable PW w 11 (some (.ref 6)) (12 + (1 + (183 + (241 + (196 + (167 + (228 + (263 + (2768 + (305 + (240 + (827 + (128 + 2))))))))))))) ⟨boot_heap w.params, ⟨[]⟩, boot_drawn, boot_toks, os⟩ (topStub PW) = some (s57 w os).abs := by
  refine go_top (pre_go w os) ?_
  refine piece_block (b := behindTheImports PW) (env := env) (blk_go w os) ?_
  rw [body_cut]
  refine piece_app (segRun_of (pc0 w os)) (piece_app (segRun_of (pc4 w os)) (piece_app (segRun_of (pc12 w os)) (piece_app (segRun_of (pc24 w os)) (piece_app (segRun_of (pc30 w os)) (piece_app (segRun_of (pc35 w os)) (piece_app (segRun_of (pc44 w os)) (piece_app (segRun_of (pc45 w os)) (piece_app (segRun_of (pc49 w os)) (piece_app (segRun_of (pc51 w os)) (piece_app (segRun_of (pc52 w os)) (piece_nil (fin_go w os))))))))))))
end Mine
namespace Mine
noncomputable def lawS : Str := S [108, 97, 119]
noncomputable def nameS : Str := S [95, 95, 110, 97, 109, 101, 95, 95]
noncomputable def looseL : List Str := PW.boundNames.filter fun n => n != lawS && n != nameS
noncomputable def Q : Program := { PW with main := { PW.main with body := [st 56] } }
noncomputable def H1 (P : Params) : Heap := absHeap (tr57 P) 506 {}
noncomputable def KK (P : Params) : Frag := (List.range 506).map fun i => (i, ((tr57 P).get i).getD default)
theorem KK_as : ∀ P, List.range 506 = (KK P).map (·.1) := fun P => by
  unfold KK; rw [List.map_map]; exact (List.map_id' _).symm
noncomputable def HK : Hook := kHook KK (List.range 506) KK_as
noncomputable def Xt : Shared → Bool := fun s => xlAt Q [] s && recOk [] s
theorem look1 (w : World) (os : OsState) : (staticsOk (importedModules PW.main.body) (boot_heap w.params) (H1 w.params) && namesBound PW (H1 w.params) && gensDone ⟨H1 w.params, ⟨[]⟩, {}, 1058, os⟩ && laidKept (boot_heap w.params) (H1 w.params)) = true := by
  rw [PySem.W.Fast.te5923862056798008813]; kernel_rfl
theorem look2 (w : World) (os : OsState) : openSeen Q looseL (importedModules PW.main.body) Xt true ⟨H1 w.params, ⟨[]⟩, {}, 1058, os⟩ = openGood Q looseL := by
  rw [PySem.W.Fast.te5923862056798008813, PySem.W.Fast.te4187177175401517315]; kernel_rfl
end Mine
namespace Mine
theorem look3b (w : World) (os : OsState) : HK.obs ⟨H1 w.params, ⟨[]⟩, {}, 1058, os⟩ = HK.val w := by
  show (List.range 506).map (H1 w.params).get? = (KK w.params).map (fun p => some p.2)
  unfold KK H1
  rw [List.map_map]
  have all : ∀ P, ((List.range 506).all fun a => ((tr57 P).get a).any fun o => (alive o).isSome) = true := fun P => by kernel_rfl
  refine List.map_congr_left fun a ha => ?_
  have h := List.all_eq_true.mp (all w.params) a ha
  obtain ⟨o, g, z⟩ : ∃ o, (tr57 w.params).get a = some o ∧ (alive o).isSome = true := by
    cases q : (tr57 w.params).get a with
    | none => rw [q] at h; cases h
    | some o => rw [q] at h; exact ⟨o, rfl, h⟩
  rw [abs_get (List.mem_range.mp ha) g]
  show alive o = some (((tr57 w.params).get a).getD default)
  rw [g]
  obtain ⟨o', e⟩ := Option.isSome_iff_exists.mp z
  unfold alive at e ⊢
  split at e
  · cases e
  · rfl
theorem size_go (w : World) : ((boot_heap w.params).isNs mainGlobals && (⟨[]⟩ : Array GenState).size == 0, (boot_heap w.params).objs.size, (boot_heap w.params).nsMap mainGlobals "__annotations__") = (true, 11, some (.ref 6)) := by kernel_rfl
theorem imp_go (w : World) : importEnds treeTable (opening PW) w 600 (start (opening PW)).1 (start (opening PW)).2 = some ⟨boot_heap w.params, ⟨[]⟩, boot_drawn, boot_toks, (start (opening PW)).1.os⟩ := by
  rw [PySem.W.Fast.te10274390034422433532, PySem.W.Fast.te14364793385576792824, PySem.W.Fast.te1435165496053646825]; kernel_rfl
theorem fence_go (w : World) : (fun os => (fenceModules? PW ⟨boot_heap w.params, ⟨[]⟩, boot_drawn, boot_toks, os⟩).map (fun s => (s.heap, s.gens, s.drawn, s.toks))) = fun _ => some (boot_heap w.params, ⟨[]⟩, boot_drawn, boot_toks) := by
  kernel_rfl
theorem left : LeftO PySem.Challenge.rw_sz0081_01.row.toRowW.prog Q looseL Xt HK.obs HK.val 12000 := by
  show LeftO PySem.Challenge.pw_sz0081_01 Q looseL Xt HK.obs HK.val 12000
  refine LeftO.of_pieces (H₀ := boot_heap) (H₁ := H1) (gs₀ := ⟨[]⟩) (gs₁ := ⟨[]⟩) (d₀ := boot_drawn) (d₁ := {}) (k₀ := boot_toks) (k₁ := 1058) (m₀ := 11) (ann := some (.ref 6)) (M := 12 + (1 + (183 + (241 + (196 + (167 + (228 + (263 + (2768 + (305 + (240 + (827 + (128 + 2)))))))))))))
    (by rw [pw_eq]; exact open_cut imp_go (by decide) fence_go) size_go (fun w os => ?_) (by decide) (fun w => ?_)
  · rw [pw_eq]; exact run_go w os
  · rw [pw_eq]
    funext os
    rw [look1, look2, look3b]
theorem hdefQ : ∃ d kwd, defOf Q PySem.Challenge.rw_sz0081_01.row.toRowW.name = some (d, kwd) ∧ PySem.Challenge.rw_sz0081_01.row.toRowW.prog.theDef PySem.Challenge.rw_sz0081_01.row.toRowW.name = some (d.params, d.body, d.scope) ∧ kwWritten? d.params.kwonlyargs d.params.kw_defaults = some kwd ∧ d.params = fP (st 56) ∧ d.body = fB (st 56) ∧ d.scope = fS (st 56) ∧ kwd = [] ∧ d.name = lawS := by
  refine ⟨⟨lawS, fP (st 56), fB (st 56), fS (st 56), ⟨401, 0, 412, 15⟩⟩, [], ?_, ?_, ?_, rfl, rfl, rfl, rfl, rfl⟩
  · kernel_rfl
  · show PySem.Challenge.pw_sz0081_01.theDef _ = _
    rw [pw_eq]; kernel_rfl
  · kernel_rfl
end Mine
namespace Mine
/-! a small interpreter over abstract values -/
/-- a piece of a law's text: the gap ahead of cell k, the token of cell k, a written piece -/
inductive TA where
  | gap (k : Nat) | tok (k : Nat) | lit (s : List Nat)
inductive AV where
  | none | bool (b : Bool) | int (i : Int) | pos (k : Int) | lin (k : Int)
  | str (s : List Nat) | pre (s : List Nat) | text | tlen
  | ref (h : Nat) | top (a : Nat)
  | flag | unk
  | txt (l : List TA) | slen (l : List TA) | slin (l : List TA)
  | cell (k : Nat) | cellq (k : Nat) | cellg (k : Nat) | cellt (k : Nat)
  | att (j k : Nat)
inductive AO where
  | inst (C d : Nat) | dict (es : List (Str × AV)) | list (vs : List AV) | tup (vs : List AV) | any
inductive Blt where
  | len | ord | chr | abs | int | max
inductive GV where
  | fn (a : Nat) | cls (C : Nat) | val (v : AV) | blt (b : Blt) | range | enumerate
structure FnI where
  params : List Str
  body : List Stmt
  scope : Scope
structure ClI where
  init : Nat
  meths : List (Str × Nat)
  attrs : List Str
noncomputable abbrev Loc := List (Str × AV)
noncomputable abbrev Hp := List AO
noncomputable abbrev R := Option (AV × Hp)
structure Tab where
  hook : Nat → List AV → Hp → R
  globs : List (Str × GV)
  fns : Nat → Option FnI
  cls : Nat → Option ClI
  tops : Nat → Option AO
  punct : List (List Nat)   -- the keys of the one table
  punctAt : Nat
/-- what is known of the text: its signs from the place p on; whether it ends there -/
structure Win where
  cs : List Nat
  fin : Bool
inductive Fl where
  | next | ret (v : AV)
noncomputable abbrev RS := Option (Fl × Loc × Hp)
/-- what a loop goes over: a list (true) or a tuple, or a range's numbers -/
inductive Src where
  | seq (isL : Bool) (v : AV) | rng (a : Int) (n : Nat)
structure Rc where
  ev : Scope → Loc → Hp → Expr → R
  evs : Scope → Loc → Hp → List Expr → Option (List AV × Hp)
  tr : Scope → Loc → Hp → Expr → Option (Bool × Hp)
  ex : Scope → Loc → Hp → List Stmt → RS
  wh : Scope → Loc → Hp → Expr → List Stmt → RS
  fo : Scope → Loc → Hp → Expr → Src → Nat → List Stmt → RS
  fe : Scope → Loc → Hp → Expr → AV → Nat → List Stmt → RS
  cl : Nat → List AV → Hp → R
noncomputable def eqL : List Nat → List Nat → Bool
  | [], [] => true
  | a :: x, b :: y => match Nat.beq a b with | true => eqL x y | false => false
  | _, _ => false
noncomputable def eqS (a b : Str) : Bool := eqL a.cps.toList b.cps.toList
noncomputable def look {α : Type} (x : Str) : List (Str × α) → Option α
  | [] => none
  | (y, v) :: r => match eqS x y with | true => some v | false => look x r
noncomputable def put (x : Str) (v : AV) : List (Str × AV) → List (Str × AV)
  | [] => [(x, v)]
  | (y, u) :: r => match eqS x y with | true => (y, v) :: r | false => (y, u) :: put x v r
noncomputable def isLoc (sc : Scope) (x : Str) : Bool := match look x sc.names with | some .local => true | _ => false
noncomputable def isGlob (sc : Scope) (x : Str) : Bool := match look x sc.names with | some .globalImplicit => true | _ => false
noncomputable def eqTA : TA → TA → Bool
  | .gap i, .gap j => Nat.beq i j
  | .tok i, .tok j => Nat.beq i j
  | .lit s, .lit t => eqL s t
  | _, _ => false
noncomputable def eqT : List TA → List TA → Bool
  | [], [] => true
  | a :: x, b :: y => match eqTA a b with | true => eqT x y | false => false
  | _, _ => false
/-- what is left of l behind l' -/
noncomputable def behindT : List TA → List TA → Option (List TA)
  | l, [] => some l
  | a :: x, b :: y => match eqTA a b with | true => behindT x y | false => Option.none
  | [], _ :: _ => Option.none
noncomputable def GAPS : List (List Nat) := [[32], [10], [32, 47, 42, 32, 43, 32, 42, 47, 32], [32, 47, 47, 32, 39, 10], [160, 8233]]
noncomputable def TOKS : List (List Nat) := [[97, 98], [43, 61], [48, 120, 49, 102], [39, 113, 59, 39], [125], [116, 121, 112, 101, 111, 102], [49, 46, 53, 101, 51], [40], [36, 49], [62, 62, 62], [34, 92, 120, 52, 49, 34], [44]]
noncomputable def eqSs : List AV → List (List Nat) → Bool
  | [], [] => true
  | .str s :: x, t :: y => match eqL s t with | true => eqSs x y | false => false
  | _, _ => false
noncomputable def litsOfS (s : List Nat) : List TA := match eqL s [10, 59, 32, 120] with
  | true => [.lit [10], .lit [59], .lit [32], .lit [120]]
  | false => [.lit s]
noncomputable def shortT : List TA → Bool
  | [] => true
  | .lit s :: r => match Nat.blt s.length 100 with | true => shortT r | false => false
  | _ :: r => shortT r
noncomputable def okT (l : List TA) : Bool := match Nat.blt l.length 100 with | true => shortT l | false => false
/-! values -/
noncomputable def truthyA (hp : Hp) : AV → Option Bool
  | .none => some false
  | .bool b => some b
  | .int i => some (!(i == 0))
  | _ => Option.none
noncomputable def addA (a b : AV) : Option AV := match a, b with
  | .int x, .int y => some (.int (x + y))
  | .pos x, .int y => some (.pos (x + y))
  | .lin x, .int y => some (.lin (x + y))
  | .str x, .str y => match Nat.blt (x.length + y.length) 1000 with | true => some (.str (x ++ y)) | false => Option.none
  | .str x, .txt l => match x, okT l with | [], true => some (.txt l) | _, _ => Option.none
  | .txt l, .txt l' => match okT l, okT l' with | true, true => some (.txt (l ++ l')) | _, _ => Option.none
  | .txt l, .str s => match okT l, Nat.blt s.length 100 with | true, true => some (.txt (l ++ litsOfS s)) | _, _ => Option.none
  | _, _ => Option.none
noncomputable def intOf : AV → Option Int
  | .int x => some x
  | _ => Option.none
noncomputable def twoI (a b : AV) : Option (Int × Int) := match intOf a, intOf b with
  | some x, some y => some (x, y)
  | _, _ => Option.none
noncomputable def fdivA (a : AV) (y : Int) : Option AV := match a with
  | .cell k => match decide (y = 12) with | true => some (.cellq k) | false => Option.none
  | .int x => if 0 < y ∧ x.natAbs < 2 ^ 512 ∧ y.natAbs < 2 ^ 512 then some (.int (x.fdiv y)) else Option.none
  | _ => Option.none
noncomputable def modA (a : AV) (y : Int) : Option AV := match a with
  | .cellq k => match decide (y = 5) with | true => some (.cellg k) | false => Option.none
  | .cell k => match decide (y = 12) with | true => some (.cellt k) | false => Option.none
  | .int x => if 0 < y then some (.int (x.fmod y)) else Option.none
  | _ => Option.none
noncomputable def ariA (op : Operator) (x y : Int) : Option Int := match op with
  | .Sub => some (x - y)
  | .Mult => if x.natAbs < 2 ^ 64 ∧ y.natAbs < 2 ^ 64 then some (x * y) else Option.none
  | .LShift => if 0 ≤ y ∧ y ≤ 1000000 ∧ x.natAbs < 2 ^ 64 then some (x * 2 ^ y.toNat) else Option.none
  | .RShift => if 0 ≤ y then some (x.fdiv (2 ^ y.toNat)) else Option.none
  | .BitOr => some (Builtin.bitOr x y)
  | .Pow => if 0 ≤ y ∧ y ≤ 1000 ∧ x.natAbs < 2 ^ 64 then some (x ^ y.toNat) else Option.none
  | _ => Option.none
noncomputable def binA (op : Operator) (a b : AV) : Option AV := match op with
  | .Add => addA a b
  | .FloorDiv => match intOf b with | some y => fdivA a y | _ => Option.none
  | .Mod => match intOf b with | some y => modA a y | _ => Option.none
  | op => match twoI a b with
    | some (x, y) => match ariA op x y with | some z => some (.int z) | _ => Option.none
    | _ => Option.none
noncomputable def ltL : List Nat → List Nat → Bool
  | _, [] => false
  | [], _ :: _ => true
  | a :: x, b :: y => Nat.blt a b || (Nat.beq a b && ltL x y)
/-- is the text's known part enough to say whether the text has a sign at p + k -/
noncomputable def ltLen (W : Win) (k : Int) : Option Bool := match k with
  | .ofNat n => match Nat.blt n W.cs.length with
    | true => some true
    | false => match W.fin with | true => some false | false => Option.none
  | .negSucc _ => Option.none
noncomputable def isPrefixOfL : List Nat → List Nat → Bool
  | [], _ => true
  | _ :: _, [] => false
  | a :: x, b :: y => Nat.beq a b && isPrefixOfL x y
/-- may a key begin with these signs, or be them -/
noncomputable def fits (ks : List (List Nat)) (s : List Nat) : Bool := ks.any fun k => isPrefixOfL s k
noncomputable def intsA : List AV → Option (List Int)
  | [] => some []
  | .int j :: r => match intsA r with | some l => some (j :: l) | _ => Option.none
  | _ => Option.none
noncomputable def strsA : List AV → Option (List (List Nat))
  | [] => some []
  | .str t :: r => match strsA r with | some l => some (t :: l) | _ => Option.none
  | _ => Option.none
noncomputable def hasI (i : Int) : List Int → Bool
  | [] => false
  | j :: r => match decide (j = i) with | true => true | false => hasI i r
noncomputable def hasS (s : List Nat) : List (List Nat) → Bool
  | [] => false
  | t :: r => match eqL t s with | true => true | false => hasS s r
noncomputable def seqAO : AO → Option (Bool × List AV)
  | .list vs => some (true, vs)
  | .tup vs => some (false, vs)
  | _ => Option.none
/-- a list's (true) or a tuple's items -/
noncomputable def seqK (D : Tab) (hp : Hp) : AV → Option (Bool × List AV)
  | .ref h => match hp[h]? with | some o => seqAO o | _ => Option.none
  | .top a => match D.tops a with | some o => seqAO o | _ => Option.none
  | _ => Option.none
noncomputable def seqOf (D : Tab) (hp : Hp) (v : AV) : Option (List AV) := match seqK D hp v with | some (_, vs) => some vs | _ => Option.none
noncomputable def srcAt (D : Tab) (hp : Hp) : Src → Nat → Option (Option AV)
  | .seq b v, k => match seqK D hp v with
    | some (c, vs) => match b, c with
      | true, true => some vs[k]?
      | false, false => some vs[k]?
      | _, _ => Option.none
    | _ => Option.none
  | .rng a n, k => match Nat.blt k n with | true => some (some (.int (a + Int.ofNat k))) | false => some Option.none
noncomputable def inA (D : Tab) (hp : Hp) (a b : AV) : Option Bool := match a, b with
  | .int i, b => match seqK D hp b with | some (_, vs) => (match intsA vs with | some l => some (hasI i l) | _ => Option.none) | _ => Option.none
  | .str s, .top t => match Nat.beq t D.punctAt with
    | true => some (hasS s D.punct)
    | false => match seqK D hp (.top t) with | some (true, vs) => (match strsA vs with | some l => some (hasS s l) | _ => Option.none) | _ => Option.none
  | .pre s, .top t => match Nat.beq t D.punctAt with
    | true => match fits D.punct s with | true => Option.none | false => some false
    | false => Option.none
  | _, _ => Option.none
/-- a number not in a tuple -/
noncomputable def ninA (D : Tab) (hp : Hp) (a b : AV) : Option Bool := match a with
  | .int i => match seqK D hp b with | some (false, vs) => (match intsA vs with | some l => some (!hasI i l) | _ => Option.none) | _ => Option.none
  | _ => Option.none
/-- is it None -/
noncomputable def isA : AV → Option Bool
  | .none => some true
  | .bool _ => some false
  | .int _ => some false
  | .str _ => some false
  | .ref _ => some false
  | _ => Option.none
/-- the same data for sure (lists and tuples of flat values, to a depth) -/
noncomputable def flatSame : AV → AV → Bool
  | .bool a, .bool b => a == b
  | .int a, .int b => decide (a = b)
  | .str a, .str b => eqL a b
  | .slen a, .slen b => eqT a b
  | .slin a, .slin b => eqT a b
  | .att i j, .att k l => Nat.beq i k && Nat.beq j l
  | _, _ => false
noncomputable def all2 (f : AV → AV → Bool) : List AV → List AV → Bool
  | [], [] => true
  | a :: x, b :: y => match f a b with | true => all2 f x y | false => false
  | _, _ => false
noncomputable def sameA (hp : Hp) : Nat → AV → AV → Bool
  | 0, _, _ => false
  | n + 1, a, b => match a, b with
    | .ref i, .ref j => match hp[i]?, hp[j]? with
      | some (.list x), some (.list y) => all2 (sameA hp n) x y
      | some (.tup x), some (.tup y) => all2 (sameA hp n) x y
      | _, _ => false
    | a, b => flatSame a b
noncomputable def neA (hp : Hp) (a b : AV) : Option Bool := match a, b with
  | .int x, .int y => some (!(x == y))
  | .str x, .str y => some (!eqL x y)
  | .att j _, .str s => match Nat.beq j 0, eqL s [101, 110, 100] with | true, true => some true | _, _ => Option.none
  | .ref a, .ref b => match hp[a]?, hp[b]? with
    | some (.list x), some (.list y) => match all2 (sameA hp 2) x y with | true => some false | false => Option.none
    | _, _ => Option.none
  | _, _ => Option.none
noncomputable def eqA (a b : AV) : Option Bool := match a, b with
  | .int x, .int y => some (x == y)
  | .str x, .str y => some (eqL x y)
  | _, _ => Option.none
noncomputable def ltA (W : Win) (a b : AV) : Option Bool := match a, b with
  | .int x, .int y => some (decide (x < y))
  | .pos k, .tlen => ltLen W k
  | _, _ => Option.none
noncomputable def leA (a b : AV) : Option Bool := match a, b with
  | .int x, .int y => some (decide (x ≤ y))
  | .str x, .str y => some (!ltL y x)
  | _, _ => Option.none
noncomputable def gtA (a b : AV) : Option Bool := match a, b with
  | .int x, .int y => some (decide (x > y))
  | .lin x, .lin y => some (decide (x > y))
  | .pos x, .pos y => some (decide (x > y))
  | _, _ => Option.none
noncomputable def geA (W : Win) (a b : AV) : Option Bool := match a, b with
  | .int x, .int y => some (decide (x ≥ y))
  | .pos k, .tlen => match ltLen W k with | some c => some (!c) | _ => Option.none
  | _, _ => Option.none
/-- None, as a thing to be asked for -/
noncomputable def isNoneA : AV → Bool
  | .none => true
  | _ => false
noncomputable def cmpA (D : Tab) (W : Win) (hp : Hp) (op : CmpOp) (a b : AV) : Option Bool := match op with
  | .Eq => eqA a b
  | .NotEq => neA hp a b
  | .Lt => ltA W a b
  | .LtE => leA a b
  | .Gt => gtA a b
  | .GtE => geA W a b
  | .In => inA D hp a b
  | .NotIn => ninA D hp a b
  | .Is => match isNoneA b with | true => isA a | false => Option.none
  | .IsNot => match isNoneA b with
    | true => match isA a with | some c => some (!c) | _ => Option.none
    | false => Option.none
/-- text[p + a : p + b] -/
noncomputable def sliceA (W : Win) (a b : Int) : Option AV := match a, b with
  | .ofNat i, .ofNat j => match Nat.ble i j && Nat.ble i W.cs.length with
    | false => Option.none
    | true => match Nat.ble j W.cs.length || W.fin with
      | true => some (.str ((W.cs.drop i).take (j - i)))
      | false => some (.pre (W.cs.drop i))
  | _, _ => Option.none
noncomputable def itemA (D : Tab) (W : Win) (hp : Hp) (v i : AV) : Option AV := match i with
  | .pos k => match v, k with
    | .text, .ofNat k => match W.cs[k]? with | some c => some (.str [c]) | _ => Option.none
    | _, _ => Option.none
  | .cellg k => match seqK D hp v with | some (true, vs) => (match eqSs vs GAPS with | true => some (.txt [.gap k]) | false => Option.none) | _ => Option.none
  | .cellt k => match seqK D hp v with | some (true, vs) => (match eqSs vs TOKS with | true => some (.txt [.tok k]) | false => Option.none) | _ => Option.none
  | .int k => match k with
    | .ofNat k => match Nat.blt k 1000 with
      | false => Option.none
      | true => match v with
        | .str s => match s[k]? with | some c => some (.str [c]) | _ => Option.none
        | v => match seqK D hp v with | some (_, vs) => vs[k]? | _ => Option.none
    | _ => Option.none
  | _ => Option.none
noncomputable def startsA (W : Win) (s : List Nat) (k : Int) : Option Bool := match k with
  | .ofNat n => match Nat.ble n W.cs.length with
    | false => Option.none
    | true => match isPrefixOfL s (W.cs.drop n) with
      | true => some true
      | false => match W.fin || !isPrefixOfL (W.cs.drop n) s with
        | true => some false
        | false => Option.none
  | _ => Option.none
noncomputable def lenA1 (v : AV) : Option AV := match v with
  | .text => some .tlen
  | .str s => match Nat.blt s.length 1000 with | true => some (.int s.length) | false => Option.none
  | .txt l => match okT l with | true => some (.slen l) | false => Option.none
  | _ => Option.none
noncomputable def strOf : AV → Option (List Nat)
  | .str s => some s
  | _ => Option.none
noncomputable def ordA (v : AV) : Option AV := match strOf v with | some [c] => some (.int c) | _ => Option.none
noncomputable def chrA (v : AV) : Option AV := match intOf v with
  | some (.ofNat n) => if n < 55296 then some (.str [n]) else Option.none
  | _ => Option.none
noncomputable def absA (v : AV) : Option AV := match intOf v with | some i => some (.int (if i < 0 then -i else i)) | _ => Option.none
noncomputable def intA1 (v : AV) : Option AV := match strOf v with
  | some s => match Nat.blt s.length 100, PySem.intText? ⟨⟨s⟩⟩ with | true, some n => some (.int n) | _, _ => Option.none
  | _ => Option.none
noncomputable def oneA : List AV → Option AV
  | [v] => some v
  | _ => Option.none
noncomputable def maxA (vs : List AV) : Option AV := match vs with
  | [u, v] => match twoI u v with | some (a, b) => some (.int (if b > a then b else a)) | _ => Option.none
  | _ => Option.none
noncomputable def bltA1 (b : Blt) (v : AV) : Option AV := match b with
  | .len => lenA1 v
  | .ord => ordA v
  | .chr => chrA v
  | .abs => absA v
  | .int => intA1 v
  | .max => Option.none
noncomputable def bltA (b : Blt) (vs : List AV) : Option AV := match oneA vs with
  | some v => bltA1 b v
  | Option.none => match b with | .max => maxA vs | _ => Option.none
noncomputable def stripL (s : List Nat) : List Nat := (Txt.lstripChars ⟨⟨s⟩⟩ ⟨⟨[48]⟩⟩).cps.toList
noncomputable def sl (s : List Nat) : Str := ⟨⟨s⟩⟩
noncomputable def nStartswith : Str := sl [115, 116, 97, 114, 116, 115, 119, 105, 116, 104]
noncomputable def nLstrip : Str := sl [108, 115, 116, 114, 105, 112]
noncomputable def nJoin : Str := sl [106, 111, 105, 110]
noncomputable def nAppend : Str := sl [97, 112, 112, 101, 110, 100]
noncomputable def setA (hp : Hp) (h : Nat) (o : AO) : Hp := hp.set h o
noncomputable def dictAt (hp : Hp) (h : Nat) : Option (Nat × Nat × List (Str × AV)) := match hp[h]? with
  | some (.inst C d) => match hp[d]? with | some (.dict es) => some (C, d, es) | _ => Option.none
  | _ => Option.none
noncomputable def attrOk (D : Tab) (C : Nat) (x : Str) : Bool := match D.cls C with | some c => c.attrs.any (eqS x ·) | _ => false
noncomputable def getA (D : Tab) (hp : Hp) (v : AV) (x : Str) : Option AV := match v with
  | .ref h => match dictAt hp h with
    | some (C, _, es) => match attrOk D C x with | true => look x es | false => Option.none
    | _ => Option.none
  | _ => Option.none
noncomputable def storeA (D : Tab) (hp : Hp) (o : AV) (x : Str) (v : AV) : Option Hp := match o with
  | .ref h => match dictAt hp h with
    | some (C, d, es) => match attrOk D C x && Nat.blt es.length 100 with | true => some (hp.set d (.dict (put x v es))) | false => Option.none
    | _ => Option.none
  | _ => Option.none
noncomputable def methA (D : Tab) (hp : Hp) (v : AV) (x : Str) : Option Nat := match v with
  | .ref h => match dictAt hp h with
    | some (C, _, es) => match look x es with
      | some _ => Option.none
      | Option.none => match D.cls C with | some c => look x c.meths | _ => Option.none
    | _ => Option.none
  | _ => Option.none
noncomputable def constA : Const → Option AV
  | .none => some .none
  | .bool b => some (.bool b)
  | .int i => some (.int i)
  | .str s => some (.str s.cps.toList)
  | _ => Option.none
noncomputable def asgLoc (sc : Scope) (x : Str) (v : AV) (loc : Loc) : Option Loc := match isLoc sc x with | true => some (put x v loc) | false => Option.none
noncomputable def asgNames (sc : Scope) : List Expr → List AV → Loc → Option Loc
  | [], [], loc => some loc
  | .Name x _ :: ts, v :: vs, loc => match asgLoc sc x v loc with | some loc' => asgNames sc ts vs loc' | _ => Option.none
  | _, _, _ => Option.none
noncomputable def allNames : List Expr → Bool
  | [] => true
  | .Name _ _ :: r => allNames r
  | _ => false
noncomputable def isConstE : Expr → Bool
  | .Constant .. => true
  | _ => false
/-! the one hook: next() on a text of pieces -/
noncomputable def kText : Str := sl [116, 101, 120, 116]
noncomputable def kAt : Str := sl [97, 116]
noncomputable def kLine : Str := sl [108, 105, 110, 101]
noncomputable def kKind : Str := sl [107, 105, 110, 100]
noncomputable def kValue : Str := sl [118, 97, 108, 117, 101]
noncomputable def kBehind : Str := sl [105, 115, 95, 98, 101, 104, 105, 110, 100, 95, 108, 105, 110, 101]
noncomputable def kStart : Str := sl [115, 116, 97, 114, 116]
noncomputable def kEnd : Str := sl [101, 110, 100]
noncomputable def kOctal : Str := sl [105, 115, 95, 111, 99, 116, 97, 108]
noncomputable def kPlain : Str := sl [105, 115, 95, 112, 108, 97, 105, 110]
/-- a token's fields as __init__ lays them -/
noncomputable def tokD (kind value line behind start fin oct plain : AV) : AO :=
  .dict [(kKind, kind), (kValue, value), (kLine, line), (kBehind, behind), (kStart, start), (kEnd, fin), (kOctal, oct), (kPlain, plain)]
noncomputable def lexD (text at_ line : AV) : AO := .dict [(kText, text), (kAt, at_), (kLine, line)]
noncomputable def atOf : AV → Option (List TA)
  | .int (.ofNat 0) => some []
  | .slen l => some l
  | _ => Option.none
noncomputable def lineOk : AV → List TA → Bool
  | .int (.ofNat 1), [] => true
  | .slin l, l' => eqT l l'
  | _, _ => false
noncomputable def follows : List TA → Bool
  | [] => true
  | .gap _ :: _ => true
  | .lit s :: _ => eqL s [10] || eqL s [32, 47, 47, 32, 43, 10]
  | _ => false
/-- the step: pieces passed by, the token's object -/
noncomputable def stepT : List TA → List TA → Option (List TA × AO)
  | l', [] => some ([], tokD (.str [101, 110, 100]) .unk .unk .unk .unk .unk .unk .unk)
  | l', .lit s :: r => match eqL s [32, 47, 47, 32, 43, 10], r with
    | true, [] => some ([.lit s], tokD (.str [101, 110, 100]) .unk .unk .unk .unk .unk .unk .unk)
    | _, _ => match eqL s [10], r with
      | true, [.lit t, .lit u, .lit v] => match eqL t [59] && eqL u [32] && eqL v [120] with
        | true => some ([.lit s, .lit t], tokD (.str [112, 117, 110, 99, 116]) .unk .unk .unk .unk .unk .unk .unk)
        | false => Option.none
      | _, _ => match eqL s [32], r with
        | true, [.lit t] => match eqL t [120] with
          | true => some ([.lit s, .lit t], tokD (.str [110, 97, 109, 101]) .unk .unk .unk .unk .unk .unk .unk)
          | false => Option.none
        | _, _ => Option.none
  | l', .gap k :: .tok k' :: r => match Nat.beq k k' && follows r with
    | true => some ([.gap k, .tok k], tokD (.att 0 k) (.att 1 k) (.slin (l' ++ [.gap k])) (.att 3 k) (.slen (l' ++ [.gap k])) (.slen (l' ++ [.gap k, .tok k])) (.att 6 k) (.att 7 k))
    | false => Option.none
  | _, _ => Option.none
noncomputable def hookN (nxt lexC tokC : Nat) (a : Nat) (vs : List AV) (hp : Hp) : R := match Nat.beq a nxt, vs with
  | true, [.ref h] => match hp[h]? with
    | some (.inst C d) => match Nat.beq C lexC, hp[d]? with
      | true, some (.dict [(x, .txt l), (y, at_), (z, line)]) => match eqS x kText && eqS y kAt && eqS z kLine, atOf at_ with
        | true, some l' => match lineOk line l', behindT l l' with
          | true, some r => match stepT l' r with
            | some (p, o) => some (.ref (hp.length + 1), (hp.set d (lexD (.txt l) (.slen (l' ++ p)) (.slin (l' ++ p)))) ++ [o, .inst tokC hp.length])
            | _ => Option.none
          | _, _ => Option.none
        | _, _ => Option.none
      | _, _ => Option.none
    | _ => Option.none
  | _, _ => Option.none
end Mine
namespace Mine
noncomputable def notSet : Expr → Bool
  | .Set .. => false
  | _ => true
noncomputable def notComp : Expr → Bool
  | .ListComp .. => false
  | .SetComp .. => false
  | .DictComp .. => false
  | _ => true
/-- a base of an attribute that the interpreter takes -/
noncomputable def baseOk : Expr → Bool
  | .Name .. => true
  | .Attribute .. => true
  | .Constant .. => true
  | _ => false
noncomputable def noStar : List Expr → Bool
  | [] => true
  | .Starred .. :: _ => false
  | _ :: r => noStar r
noncomputable def chainA (D : Tab) (W : Win) (r : Rc) (sc : Scope) (loc : Loc) : Hp → AV → List CmpOp → List Expr → Option (Bool × Hp)
  | hp, a, [op], [e] => match r.ev sc loc hp e with
    | some (b, hp') => match cmpA D W hp' op a b with | some c => some (c, hp') | _ => Option.none
    | _ => Option.none
  | hp, a, op :: op' :: ops, e :: e' :: es => match r.ev sc loc hp e with
    | some (b, hp') => match cmpA D W hp' op a b with
      | some true => chainA D W r sc loc hp' b (op' :: ops) (e' :: es)
      | some false => some (false, hp')
      | _ => Option.none
    | _ => Option.none
  | _, _, _, _ => Option.none
noncomputable def boolOpA (r : Rc) (sc : Scope) (loc : Loc) (op : BoolOp) : Hp → List Expr → R
  | hp, [e] => r.ev sc loc hp e
  | hp, e :: e' :: es => match r.ev sc loc hp e with
    | some (v, hp') => match truthyA hp' v, op with
      | some true, .And => boolOpA r sc loc op hp' (e' :: es)
      | some false, .And => some (v, hp')
      | some true, .Or => some (v, hp')
      | some false, .Or => boolOpA r sc loc op hp' (e' :: es)
      | _, _ => Option.none
    | _ => Option.none
  | _, _ => Option.none
noncomputable def boolTrA (r : Rc) (sc : Scope) (loc : Loc) (op : BoolOp) : Hp → List Expr → Option (Bool × Hp)
  | hp, [] => match op with | .And => some (true, hp) | .Or => some (false, hp)
  | hp, e :: es => match r.tr sc loc hp e with
    | some (c, hp') => match op, c with
      | .And, true => boolTrA r sc loc op hp' es
      | .And, false => some (false, hp')
      | .Or, true => some (true, hp')
      | .Or, false => boolTrA r sc loc op hp' es
    | _ => Option.none
noncomputable def bltH (D : Tab) (hp : Hp) (b : Blt) (vs : List AV) : Option AV := match b, vs with
  | .len, [.ref h] => match seqK D hp (.ref h) with | some (_, l) => (match Nat.blt l.length 1000 with | true => some (.int l.length) | false => Option.none) | _ => Option.none
  | b, vs => bltA b vs
noncomputable def callGA (D : Tab) (r : Rc) (sc : Scope) (loc : Loc) (hp : Hp) (g : Str) (args : List Expr) : R :=
  match noStar args with
  | false => Option.none
  | true => match isGlob sc g with
    | false => Option.none
    | true => match look g D.globs with
      | some (.fn a) => match args with
        | [] => Option.none
        | e :: es => match r.evs sc loc hp (e :: es) with
          | some (vs, hp') => r.cl a vs hp'
          | _ => Option.none
      | some (.cls C) => match args, D.cls C with
        | e :: es, some c => match r.evs sc loc hp (e :: es) with
          | some (vs, hp') => match r.cl c.init (.ref (hp'.length + 1) :: vs) (hp' ++ [.dict [], .inst C hp'.length]) with
            | some (.none, hp'') => some (.ref (hp'.length + 1), hp'')
            | _ => Option.none
          | _ => Option.none
        | _, _ => Option.none
      | some (.blt b) => match args with
        | [] => Option.none
        | e :: es => match r.evs sc loc hp (e :: es) with
          | some (vs, hp') => match bltH D hp' b vs with | some v => some (v, hp') | _ => Option.none
          | _ => Option.none
      | _ => Option.none
noncomputable def neL : List Expr → Bool
  | [] => false
  | _ :: _ => true
noncomputable def callMA (D : Tab) (W : Win) (r : Rc) (sc : Scope) (loc : Loc) (hp : Hp) (o : Expr) (m : Str) (apos : Pos) (args : List Expr) (pos : Pos) : R :=
  match noStar args && baseOk o && Nat.blt args.length 30 && Nat.beq apos.endLine pos.line with
  | false => Option.none
  | true => match r.ev sc loc hp o with
  | some (v, hp₁) => match v with
    | .text => match eqS m nStartswith && neL args, r.evs sc loc hp₁ args with
      | true, some ([.str s, .pos k], hp₂) => match startsA W s k with | some b => some (.bool b, hp₂) | _ => Option.none
      | _, _ => Option.none
    | .str s => match r.evs sc loc hp₁ args with
      | some ([.str t], hp₂) => match eqS m nLstrip && neL args && eqL t [48] && Nat.blt s.length 1000 with
        | true => some (.str (stripL s), hp₂)
        | false => Option.none
      | some ([.ref h], hp₂) => match eqS m nJoin && neL args && s.isEmpty, hp₂[h]? with
        | true, some (.list vs) => match strsA vs with
          | some t => match Nat.blt ((t.map (·.length)).sum + t.length) 1000 with | true => some (.str t.flatten, hp₂) | false => Option.none
          | _ => Option.none
        | _, _ => Option.none
      | _ => Option.none
    | .ref h => match hp₁[h]? with
      | some (.list _) => match eqS m nAppend && neL args, r.evs sc loc hp₁ args with
        | true, some ([x], hp₂) => match hp₂[h]? with
          | some (.list vs) => match Nat.blt vs.length 1000 with | true => some (.none, hp₂.set h (.list (vs ++ [x]))) | false => Option.none
          | _ => Option.none
        | _, _ => Option.none
      | some (.inst _ _) => match methA D hp₁ v m with
        | some a => match args with
          | [] => r.cl a [v] hp₁
          | e :: es => match r.evs sc loc hp₁ (e :: es) with
            | some (vs, hp₂) => r.cl a (v :: vs) hp₂
            | _ => Option.none
        | _ => Option.none
      | _ => Option.none
    | _ => Option.none
  | _ => Option.none
noncomputable def sliceTo (hp : Hp) (x j : AV) : R := match x, j with
  | .txt l, .slen l' => match okT l, behindT l l' with | true, some _ => some (.txt l', hp) | _, _ => Option.none
  | .ref h, .int k => match k with
    | .ofNat n => match hp[h]? with
      | some (.list vs) => match Nat.blt vs.length 1000 with | true => some (.ref hp.length, hp ++ [.list (vs.take n)]) | false => Option.none
      | some (.tup vs) => match Nat.blt n vs.length && Nat.blt vs.length 1000 with | true => some (.ref hp.length, hp ++ [.tup (vs.take n)]) | false => Option.none
      | _ => Option.none
    | _ => Option.none
  | _, _ => Option.none
noncomputable def sliceFrom (hp : Hp) (x i : AV) : R := match x, i with
  | .txt l, .slen l' => match okT l, behindT l l' with | true, some r => some (.txt r, hp) | _, _ => Option.none
  | .ref h, .int k => match k with
    | .ofNat n => match hp[h]? with
      | some (.list vs) => match Nat.blt vs.length 1000 with | true => some (.ref hp.length, hp ++ [.list (vs.drop n)]) | false => Option.none
      | _ => Option.none
    | _ => Option.none
  | _, _ => Option.none
noncomputable def subA (D : Tab) (W : Win) (r : Rc) (sc : Scope) (loc : Loc) (hp : Hp) (v s : Expr) : R := match r.ev sc loc hp v with
  | some (x, hp₁) => match s with
    | .Slice (some a) (some b) Option.none _ => match r.ev sc loc hp₁ a with
      | some (i, hp₂) => match r.ev sc loc hp₂ b with
        | some (j, hp₃) => match x, i, j with
          | .text, .pos i, .pos j => match sliceA W i j with | some y => some (y, hp₃) | _ => Option.none
          | _, _, _ => Option.none
        | _ => Option.none
      | _ => Option.none
    | .Slice Option.none (some b) Option.none _ => match r.ev sc loc hp₁ b with
      | some (j, hp₂) => sliceTo hp₂ x j
      | _ => Option.none
    | .Slice (some a) Option.none Option.none _ => match r.ev sc loc hp₁ a with
      | some (i, hp₂) => sliceFrom hp₂ x i
      | _ => Option.none
    | .Slice .. => Option.none
    | s => match r.ev sc loc hp₁ s with
      | some (i, hp₂) => match itemA D W hp₂ x i with | some y => some (y, hp₂) | _ => Option.none
      | _ => Option.none
  | _ => Option.none
/-- the items of a comprehension -/
noncomputable def compA (D : Tab) (r : Rc) (sc : Scope) (x : Str) (elt : Expr) (src : Src) : Nat → Nat → Hp → Option (List AV × Hp)
  | 0, _, _ => Option.none
  | n + 1, k, hp => match srcAt D hp src k with
    | some (some v) => match r.ev sc [(x, v)] hp elt with
      | some (y, hp₁) => match compA D r sc x elt src n (k + 1) hp₁ with | some (ys, hp₂) => some (y :: ys, hp₂) | _ => Option.none
      | _ => Option.none
    | some Option.none => some ([], hp)
    | _ => Option.none
noncomputable def compScL (sc : Scope) : List (Str × NameKind) → Bool
  | [] => true
  | (x, .local) :: r => match isLoc sc x with | true => compScL sc r | false => false
  | (_, .globalImplicit) :: r => compScL sc r
  | _ => false
noncomputable def isFun (sc : Scope) : Bool := match sc.kind with | .function => true | _ => false
/-- a comprehension's scope that the interpreter takes: its own names and names of the module -/
noncomputable def compSc (sc : Scope) : Bool := isFun sc && compScL sc sc.names
noncomputable def dbg : Str := sl [95, 95, 100, 101, 98, 117, 103, 95, 95]
noncomputable def evA (D : Tab) (W : Win) (r : Rc) (sc : Scope) (loc : Loc) (hp : Hp) (e : Expr) : R := match e with
  | .Constant c _ _ => match constA c with | some v => some (v, hp) | _ => Option.none
  | .Name x _ => match eqS x dbg with
   | true => Option.none
   | false => match look x loc with
    | some v => some (v, hp)
    | Option.none => match isGlob sc x, look x D.globs with
      | true, some (.val v) => some (v, hp)
      | _, _ => Option.none
  | .Attribute v x _ => match baseOk v, r.ev sc loc hp v with
    | true, some (o, hp') => match getA D hp' o x with | some y => some (y, hp') | _ => Option.none
    | _, _ => Option.none
  | .Call f args kws pos => match kws with
    | [] => match f with
      | .Name g _ => callGA D r sc loc hp g args
      | .Attribute o m apos => callMA D W r sc loc hp o m apos args pos
      | _ => Option.none
    | _ :: _ => Option.none
  | .BinOp a op b _ => match r.ev sc loc hp a with
    | some (x, hp₁) => match r.ev sc loc hp₁ b with
      | some (y, hp₂) => match binA op x y with | some v => some (v, hp₂) | _ => Option.none
      | _ => Option.none
    | _ => Option.none
  | .UnaryOp op a _ => match r.ev sc loc hp a with
    | some (x, hp₁) => match op with
      | .Not => match truthyA hp₁ x with | some b => some (.bool (!b), hp₁) | _ => Option.none
      | .USub => match intOf x with | some i => some (.int (-i), hp₁) | _ => Option.none
      | _ => Option.none
    | _ => Option.none
  | .Compare l ops es _ => match lastMarks ops es, r.ev sc loc hp l with
    | false, some (a, hp₁) => match chainA D W r sc loc hp₁ a ops es with | some (b, hp₂) => some (.bool b, hp₂) | _ => Option.none
    | _, _ => Option.none
  | .BoolOp op es _ => boolOpA r sc loc op hp es
  | .IfExp t a b _ => match r.tr sc loc hp t with
    | some (true, hp₁) => r.ev sc loc hp₁ a
    | some (false, hp₁) => r.ev sc loc hp₁ b
    | _ => Option.none
  | .Tuple es _ _ => match r.evs sc loc hp es with
    | some (vs, hp₁) => match Nat.blt vs.length 1000 with | true => some (.ref hp₁.length, hp₁ ++ [.tup vs]) | false => Option.none
    | _ => Option.none
  | .List es _ => match r.evs sc loc hp es with
    | some (vs, hp₁) => match Nat.blt vs.length 1000 with | true => some (.ref hp₁.length, hp₁ ++ [.list vs]) | false => Option.none
    | _ => Option.none
  | .Subscript v s _ => subA D W r sc loc hp v s
  | .ListComp elt gs csc _ => match gs with
    | [⟨.Name x _, it, [], 0⟩] => match r.ev sc loc hp it with
      | some (v, hp₁) => match seqK D hp₁ v, isLoc csc x && notSet it && compSc csc with
        | some (true, _), true => match compA D r csc x elt (.seq true v) 1000 0 hp₁ with
          | some (ys, hp₂) => match Nat.blt ys.length 1000 with | true => some (.ref hp₂.length, hp₂ ++ [.list ys]) | false => Option.none
          | _ => Option.none
        | _, _ => Option.none
      | _ => Option.none
    | _ => Option.none
  | _ => Option.none
noncomputable def evsA (r : Rc) (sc : Scope) (loc : Loc) : Hp → List Expr → Option (List AV × Hp)
  | hp, [] => some ([], hp)
  | hp, e :: es => match e with
    | .Starred .. => Option.none
    | e => match r.ev sc loc hp e with
      | some (v, hp₁) => match evsA r sc loc hp₁ es with | some (vs, hp₂) => some (v :: vs, hp₂) | _ => Option.none
      | _ => Option.none
noncomputable def trA (D : Tab) (W : Win) (r : Rc) (sc : Scope) (loc : Loc) (hp : Hp) (e : Expr) : Option (Bool × Hp) := match e with
  | .UnaryOp .Not x _ => match r.tr sc loc hp x with | some (b, hp') => some (!b, hp') | _ => Option.none
  | .BoolOp op es _ => boolTrA r sc loc op hp es
  | .IfExp t a b _ => match r.tr sc loc hp t with
    | some (true, hp₁) => r.tr sc loc hp₁ a
    | some (false, hp₁) => r.tr sc loc hp₁ b
    | _ => Option.none
  | .Compare l ops es _ => match lastMarks ops es, r.ev sc loc hp l with
    | false, some (a, hp₁) => chainA D W r sc loc hp₁ a ops es
    | _, _ => Option.none
  | e => match r.ev sc loc hp e with
    | some (v, hp') => match truthyA hp' v with | some b => some (b, hp') | _ => Option.none
    | _ => Option.none
/-- are the stores of (t, u) = (a, b) laid in the other order -/
noncomputable def swapNames (sc : Scope) (line : Nat) : List Expr → Option (List Str)
  | [] => some []
  | .Name x p :: r => match isLoc sc x && Nat.beq p.line line, swapNames sc line r with
    | true, some l => some (x :: l)
    | _, _ => Option.none
  | _ => Option.none
noncomputable def distinctS : List Str → Bool
  | [] => true
  | x :: r => !(r.any (eqS x)) && distinctS r
noncomputable def firstLine : List Expr → Nat
  | .Name _ p :: _ => p.line
  | _ => 0
noncomputable def swapA (sc : Scope) (ts vs : List Expr) : Option Bool := match (Nat.beq ts.length 2 || Nat.beq ts.length 3) && Nat.beq vs.length ts.length && noStar vs with
  | false => Option.none
  | true => match swapNames sc (firstLine ts) ts with
    | some names => match distinctS names with
      | false => Option.none
      | true => match vs.all (foldedForSure 8) with
        | true => some false
        | false => match vs.all (constantsAlone 8) with
          | true => Option.none
          | false => some true
    | _ => Option.none
noncomputable def asgA (D : Tab) (r : Rc) (sc : Scope) (loc : Loc) (hp : Hp) (t v : Expr) : RS := match notComp v with
 | false => Option.none
 | true => match t with
  | .Name x _ => match r.ev sc loc hp v with
    | some (y, hp₁) => match asgLoc sc x y loc with | some loc' => some (.next, loc', hp₁) | _ => Option.none
    | _ => Option.none
  | .Attribute o x _ => match r.ev sc loc hp v with
    | some (y, hp₁) => match r.ev sc loc hp₁ o with
      | some (ov, hp₂) => match storeA D hp₂ ov x y with | some hp₃ => some (.next, loc, hp₃) | _ => Option.none
      | _ => Option.none
    | _ => Option.none
  | .Tuple ts _ _ => match v with
    | .Tuple vs k p => match swapA sc ts vs with
      | Option.none => Option.none
      | some b => match r.ev sc loc hp (.Tuple vs k p) with
        | some (y, hp₁) => match seqK D hp₁ y with
          | some (false, ys) => match (match b with | true => asgNames sc ts.reverse ys.reverse loc | false => asgNames sc ts ys loc) with | some loc' => some (.next, loc', hp₁) | _ => Option.none
          | _ => Option.none
        | _ => Option.none
    | v => match r.ev sc loc hp v with
      | some (y, hp₁) => match seqK D hp₁ y with
        | some (false, ys) => match asgNames sc ts ys loc with | some loc' => some (.next, loc', hp₁) | _ => Option.none
        | _ => Option.none
      | _ => Option.none
  | _ => Option.none
/-- a number added in place -/
noncomputable def iaddA : Operator → AV → AV → Option AV
  | .Add, .int x, .int y => some (.int (x + y))
  | .Add, .pos x, .int y => some (.pos (x + y))
  | .Add, .lin x, .int y => some (.lin (x + y))
  | _, _, _ => Option.none
noncomputable def augA (D : Tab) (r : Rc) (sc : Scope) (loc : Loc) (hp : Hp) (t : Expr) (op : Operator) (v : Expr) : RS := match t with
  | .Name x _ => match look x loc with
    | some old => match r.ev sc loc hp v with
      | some (y, hp₁) => match iaddA op old y with
        | some z => match asgLoc sc x z loc with | some loc' => some (.next, loc', hp₁) | _ => Option.none
        | _ => Option.none
      | _ => Option.none
    | _ => Option.none
  | .Attribute o x _ => match r.ev sc loc hp o with
    | some (ov, hp₀) => match getA D hp₀ ov x with
      | some old => match r.ev sc loc hp₀ v with
        | some (y, hp₁) => match iaddA op old y with
          | some z => match storeA D hp₁ ov x z with | some hp₂ => some (.next, loc, hp₂) | _ => Option.none
          | _ => Option.none
        | _ => Option.none
      | _ => Option.none
    | _ => Option.none
  | _ => Option.none
noncomputable def iterA (D : Tab) (r : Rc) (sc : Scope) (loc : Loc) (hp : Hp) (it : Expr) : Option (Src × Hp) := match it with
  | .Call (.Name g _) args [] _ => match isGlob sc g, look g D.globs with
    | true, some .range => match noStar args && neL args, r.evs sc loc hp args with
      | true, some ([.int b], hp₁) => match decide (0 ≤ b ∧ b < 1000) with | true => some (.rng 0 b.toNat, hp₁) | false => Option.none
      | true, some ([.int a, .int b], hp₁) => match decide (a ≤ b ∧ b < 1000 ∧ -1000 < a) with | true => some (.rng a (b - a).toNat, hp₁) | false => Option.none
      | _, _ => Option.none
    | _, _ => Option.none
  | it => match notSet it, r.ev sc loc hp it with
    | true, some (v, hp₁) => match seqK D hp₁ v with | some (b, _) => some (.seq b v, hp₁) | _ => Option.none
    | _, _ => Option.none
/-- is this the call enumerate(x) of the built-in -/
noncomputable def enumOf (D : Tab) (sc : Scope) : Expr → Option Expr
  | .Call (.Name g _) [a] [] _ => match isGlob sc g, look g D.globs with
    | true, some .enumerate => match noStar [a] with | true => some a | false => Option.none
    | _, _ => Option.none
  | _ => Option.none
noncomputable def exOneA (D : Tab) (r : Rc) (sc : Scope) (loc : Loc) (hp : Hp) (s : Stmt) : RS := match s with
  | .Assign [t] v _ => asgA D r sc loc hp t v
  | .AugAssign t op v _ => augA D r sc loc hp t op v
  | .If t b o _ => match r.tr sc loc hp t with
    | some (true, hp₁) => r.ex sc loc hp₁ b
    | some (false, hp₁) => r.ex sc loc hp₁ o
    | _ => Option.none
  | .While t b [] _ => r.wh sc loc hp t b
  | .For t it b [] _ => match enumOf D sc it with
    | some a => match r.ev sc loc hp a with
      | some (v, hp₁) => match seqK D hp₁ v with
        | some (true, _) => r.fe sc loc hp₁ t v 0 b
        | _ => Option.none
      | _ => Option.none
    | Option.none => match iterA D r sc loc hp it with
      | some (src, hp₁) => r.fo sc loc hp₁ t src 0 b
      | _ => Option.none
  | .Return (some e) _ => match r.ev sc loc hp e with | some (v, hp₁) => some (.ret v, loc, hp₁) | _ => Option.none
  | .Expr e _ => match notComp e, r.ev sc loc hp e with | true, some (.none, hp₁) => some (.next, loc, hp₁) | _, _ => Option.none
  | _ => Option.none
noncomputable def exA (D : Tab) (r : Rc) (sc : Scope) (loc : Loc) (hp : Hp) : List Stmt → RS
  | [] => some (.next, loc, hp)
  | s :: rest => match exOneA D r sc loc hp s with
    | some (.next, loc', hp') => r.ex sc loc' hp' rest
    | some (.ret v, loc', hp') => some (.ret v, loc', hp')
    | _ => Option.none
noncomputable def whA (r : Rc) (sc : Scope) (loc : Loc) (hp : Hp) (t : Expr) (b : List Stmt) : RS := match r.tr sc loc hp t with
  | some (false, hp₁) => some (.next, loc, hp₁)
  | some (true, hp₁) => match r.ex sc loc hp₁ b with
    | some (.next, loc', hp₂) => r.wh sc loc' hp₂ t b
    | some (.ret v, loc', hp₂) => some (.ret v, loc', hp₂)
    | _ => Option.none
  | _ => Option.none
noncomputable def targetA (D : Tab) (sc : Scope) (hp : Hp) (t : Expr) (v : AV) (loc : Loc) : Option Loc := match t with
  | .Name x _ => asgLoc sc x v loc
  | .Tuple ts _ _ => match seqK D hp v with | some (false, ys) => asgNames sc ts ys loc | _ => Option.none
  | _ => Option.none
noncomputable def foA (D : Tab) (r : Rc) (sc : Scope) (loc : Loc) (hp : Hp) (t : Expr) (src : Src) (k : Nat) (b : List Stmt) : RS := match srcAt D hp src k with
  | some Option.none => some (.next, loc, hp)
  | some (some v) => match targetA D sc hp t v loc with
    | some loc₁ => match r.ex sc loc₁ hp b with
      | some (.next, loc₂, hp₂) => r.fo sc loc₂ hp₂ t src (k + 1) b
      | some (.ret v, loc₂, hp₂) => some (.ret v, loc₂, hp₂)
      | _ => Option.none
    | _ => Option.none
  | _ => Option.none
noncomputable def feA (D : Tab) (r : Rc) (sc : Scope) (loc : Loc) (hp : Hp) (t : Expr) (l : AV) (k : Nat) (b : List Stmt) : RS := match srcAt D hp (.seq true l) k with
  | some Option.none => some (.next, loc, hp)
  | some (some v) => match t with
    | .Tuple ts _ _ => match asgNames sc ts [.int (Int.ofNat k), v] loc with
      | some loc₁ => match r.ex sc loc₁ hp b with
        | some (.next, loc₂, hp₂) => r.fe sc loc₂ hp₂ t l (k + 1) b
        | some (.ret v, loc₂, hp₂) => some (.ret v, loc₂, hp₂)
        | _ => Option.none
      | _ => Option.none
    | _ => Option.none
  | _ => Option.none
noncomputable def bindA : List Str → List AV → Option Loc
  | [], [] => some []
  | x :: xs, v :: vs => (bindA xs vs).map ((x, v) :: ·)
  | _, _ => Option.none
noncomputable def clA (D : Tab) (r : Rc) (a : Nat) (vs : List AV) (hp : Hp) : R := match D.hook a vs hp with
 | some x => some x
 | Option.none => match D.fns a with
  | some f => match bindA f.params vs with
    | some loc => match r.ex f.scope loc hp f.body with
      | some (.ret v, _, hp') => some (v, hp')
      | some (.next, _, hp') => some (.none, hp')
      | _ => Option.none
    | _ => Option.none
  | _ => Option.none
noncomputable def rc0 : Rc := ⟨fun _ _ _ _ => none, fun _ _ _ _ => none, fun _ _ _ _ => none, fun _ _ _ _ => none, fun _ _ _ _ _ => none, fun _ _ _ _ _ _ _ => none, fun _ _ _ _ _ _ _ => none, fun _ _ _ => none⟩
noncomputable def rcS (D : Tab) (W : Win) (r : Rc) : Rc where
  ev := evA D W r
  evs := evsA r
  tr := trA D W r
  ex := exA D r
  wh := whA r
  fo := foA D r
  fe := feA D r
  cl := clA D r
noncomputable def rc (D : Tab) (W : Win) : Nat → Rc
  | 0 => rc0
  | n + 1 => rcS D W (rc D W n)
end Mine
namespace Mine
noncomputable def fnL : List (Nat × Stmt) := [(63, st 5), (70, st 6), (77, st 7), (84, st 8), (91, st 9), (98, st 10), (105, st 11), (112, st 12), (119, st 22), (126, st 23), (140, st 25), (147, st 26), (154, st 27), (161, st 28), (169, st 31), (176, st 32), (183, st 33), (197, st 35), (204, st 38), (211, st 39), (218, st 40), (293, sm 45 0), (307, st 46), (314, st 47), (348, sm 51 0), (355, sm 51 1), (369, sm 51 3), (376, sm 51 4), (383, sm 51 5), (390, sm 51 6), (397, sm 51 7), (404, sm 51 8), (411, sm 51 9), (418, sm 51 10), (432, sm 51 12), (439, sm 51 13), (460, sm 51 16), (467, sm 51 17), (474, sm 51 18), (488, st 52), (495, st 54), (500, st 55), (505, st 56)]
noncomputable def lexMeths : List (Str × Nat) := [((S [95, 95, 105, 110, 105, 116, 95, 95]), 348), ((S [110, 101, 120, 116]), 355), ((S [102, 97, 105, 108]), 362), ((S [101, 110, 100, 95, 108, 105, 110, 101]), 369), ((S [115, 107, 105, 112, 95, 98, 108, 97, 110, 107, 115]), 376), ((S [115, 107, 105, 112, 95, 99, 111, 109, 109, 101, 110, 116]), 383), ((S [110, 97, 109, 101, 95, 115, 105, 103, 110]), 390), ((S [114, 101, 97, 100, 95, 110, 97, 109, 101]), 397), ((S [115, 107, 105, 112, 95, 100, 105, 103, 105, 116, 115]), 404), ((S [114, 101, 97, 100, 95, 110, 117, 109, 98, 101, 114]), 411), ((S [114, 101, 97, 100, 95, 104, 101, 120]), 418), ((S [114, 101, 97, 100, 95, 111, 99, 116, 97, 108]), 425), ((S [114, 101, 97, 100, 95, 100, 101, 99, 105, 109, 97, 108]), 432), ((S [114, 101, 97, 100, 95, 101, 120, 112, 111, 110, 101, 110, 116]), 439), ((S [114, 101, 103, 101, 120]), 446), ((S [114, 101, 103, 101, 120, 95, 98, 111, 100, 121]), 453), ((S [114, 101, 97, 100, 95, 116, 101, 120, 116]), 460), ((S [101, 115, 99, 97, 112, 101, 100]), 467), ((S [114, 101, 97, 100, 95, 112, 117, 110, 99, 116]), 474)]
noncomputable def lexAttrs : List Str := [(S [116, 101, 120, 116]), (S [97, 116]), (S [108, 105, 110, 101])]
noncomputable def tokAttrs : List Str := [(S [107, 105, 110, 100]), (S [118, 97, 108, 117, 101]), (S [108, 105, 110, 101]), (S [105, 115, 95, 98, 101, 104, 105, 110, 100, 95, 108, 105, 110, 101]), (S [115, 116, 97, 114, 116]), (S [101, 110, 100]), (S [105, 115, 95, 111, 99, 116, 97, 108]), (S [105, 115, 95, 112, 108, 97, 105, 110])]
noncomputable def clsK : Nat → Option ClI := fun C => match Nat.beq C 477 with | true => some ⟨348, lexMeths, lexAttrs⟩ | false => match Nat.beq C 296 with | true => some ⟨293, [], tokAttrs⟩ | false => none
noncomputable def globK : List (Str × GV) := [((S [66, 76, 65, 78, 75, 83]), .val (.top 15)), ((S [76, 73, 78, 69, 95, 69, 78, 68, 83]), .val (.top 16)), ((S [76, 69, 84, 84, 69, 82, 83]), .val (.top 49)), ((S [80, 65, 82, 84, 83]), .val (.top 56)), ((S [105, 115, 95, 97, 109, 111, 110, 103]), .fn 63), ((S [105, 115, 95, 119, 104, 105, 116, 101]), .fn 70), ((S [105, 115, 95, 108, 105, 110, 101, 95, 101, 110, 100]), .fn 77), ((S [105, 115, 95, 100, 105, 103, 105, 116]), .fn 84), ((S [105, 115, 95, 111, 99, 116, 97, 108, 95, 100, 105, 103, 105, 116]), .fn 91), ((S [104, 101, 120, 95, 118, 97, 108, 117, 101]), .fn 98), ((S [105, 115, 95, 105, 100, 95, 115, 116, 97, 114, 116]), .fn 105), ((S [105, 115, 95, 105, 100, 95, 112, 97, 114, 116]), .fn 112), ((S [83, 73, 71, 78, 95, 66, 73, 84]), .val (.int (Int.ofNat 9223372036854775808))), ((S [70, 82, 65, 67, 84, 73, 79, 78, 95, 66, 73, 84, 83]), .val (.int (Int.ofNat 52))), ((S [72, 73, 68, 68, 69, 78, 95, 66, 73, 84]), .val (.int (Int.ofNat 4503599627370496))), ((S [69, 88, 80, 79, 78, 69, 78, 84, 95, 77, 65, 83, 75]), .val (.int (Int.ofNat 2047))), ((S [69, 88, 80, 79, 78, 69, 78, 84, 95, 83, 72, 73, 70, 84]), .val (.int (Int.ofNat 1075))), ((S [76, 69, 65, 83, 84, 95, 80, 79, 87, 69, 82]), .val (.int (Int.negSucc 1073))), ((S [90, 69, 82, 79]), .val (.int (Int.ofNat 0))), ((S [73, 78, 70]), .val (.int (Int.ofNat 9218868437227405312))), ((S [119, 105, 100, 116, 104]), .fn 119), ((S [112, 97, 99, 107]), .fn 126), ((S [115, 105, 103, 110, 101, 100]), .fn 133), ((S [113, 117, 111, 116, 105, 101, 110, 116]), .fn 140), ((S [114, 111, 117, 110, 100, 95, 114, 97, 116, 105, 111]), .fn 147), ((S [97, 115, 115, 101, 109, 98, 108, 101, 100]), .fn 154), ((S [102, 114, 111, 109, 95, 105, 110, 116]), .fn 161), ((S [99, 111, 100, 101, 95, 97, 116]), .fn 169), ((S [104, 101, 120, 95, 97, 116]), .fn 176), ((S [108, 105, 110, 101, 95, 101, 110, 100, 95, 115, 105, 122, 101]), .fn 183), ((S [111, 99, 116, 97, 108, 95, 101, 115, 99, 97, 112, 101]), .fn 190), ((S [114, 101, 97, 100, 95, 101, 115, 99, 97, 112, 101]), .fn 197), ((S [70, 65, 82, 84, 72, 69, 83, 84]), .val (.int (Int.ofNat 400))), ((S [102, 105, 103, 117, 114, 101, 95, 111, 102]), .fn 204), ((S [119, 111, 114, 116, 104]), .fn 211), ((S [102, 114, 111, 109, 95, 100, 101, 99, 105, 109, 97, 108]), .fn 218), ((S [75, 69, 89, 87, 79, 82, 68, 83]), .val (.top 219)), ((S [80, 85, 78, 67, 84, 95, 84, 65, 66, 76, 69]), .val (.top 274)), ((S [84, 111, 107, 101, 110]), .cls 296), ((S [105, 115, 95, 107, 101, 121, 119, 111, 114, 100]), .fn 307), ((S [112, 117, 110, 99, 116, 95, 97, 116]), .fn 314), ((S [76, 101, 120, 101, 114]), .cls 477), ((S [97, 108, 108, 95, 116, 111, 107, 101, 110, 115]), .fn 488), ((S [95, 108, 97, 119, 95, 116, 101, 120, 116]), .fn 495), ((S [95, 108, 97, 119, 95, 116, 111, 108, 100]), .fn 500), ((S [108, 97, 119]), .fn 505), ((S [108, 101, 110]), .blt .len), ((S [111, 114, 100]), .blt .ord), ((S [99, 104, 114]), .blt .chr), ((S [97, 98, 115]), .blt .abs), ((S [105, 110, 116]), .blt .int), ((S [109, 97, 120]), .blt .max), ((S [114, 97, 110, 103, 101]), .range), ((S [101, 110, 117, 109, 101, 114, 97, 116, 101]), .enumerate)]
noncomputable def topL : List (Nat × AO) := [(15, .list [.int 9, .int 11, .int 12, .int 32, .int 160, .int 5760, .int 6158, .int 8239, .int 8287, .int 12288, .int 65279]), (16, .list [.int 10, .int 13, .int 8232, .int 8233]), (49, .list [.top 17, .top 18, .top 19, .top 20, .top 21, .top 22, .top 23, .top 24, .top 25, .top 26, .top 27, .top 28, .top 29, .top 30, .top 31, .top 32, .top 33, .top 34, .top 35, .top 36, .top 37, .top 38, .top 39, .top 40, .top 41, .top 42, .top 43, .top 44, .top 45, .top 46, .top 47, .top 48]), (56, .list [.top 50, .top 51, .top 52, .top 53, .top 54, .top 55]), (219, .list [.str [98, 114, 101, 97, 107], .str [99, 97, 115, 101], .str [99, 97, 116, 99, 104], .str [99, 111, 110, 116, 105, 110, 117, 101], .str [100, 101, 98, 117, 103, 103, 101, 114], .str [100, 101, 102, 97, 117, 108, 116], .str [100, 101, 108, 101, 116, 101], .str [100, 111], .str [101, 108, 115, 101], .str [102, 105, 110, 97, 108, 108, 121], .str [102, 111, 114], .str [102, 117, 110, 99, 116, 105, 111, 110], .str [105, 102], .str [105, 110], .str [105, 110, 115, 116, 97, 110, 99, 101, 111, 102], .str [110, 101, 119], .str [114, 101, 116, 117, 114, 110], .str [115, 119, 105, 116, 99, 104], .str [116, 104, 105, 115], .str [116, 104, 114, 111, 119], .str [116, 114, 121], .str [116, 121, 112, 101, 111, 102], .str [118, 97, 114], .str [118, 111, 105, 100], .str [119, 104, 105, 108, 101], .str [119, 105, 116, 104], .str [99, 108, 97, 115, 115], .str [99, 111, 110, 115, 116], .str [101, 110, 117, 109], .str [101, 120, 112, 111, 114, 116], .str [101, 120, 116, 101, 110, 100, 115], .str [105, 109, 112, 111, 114, 116], .str [115, 117, 112, 101, 114], .str [110, 117, 108, 108], .str [116, 114, 117, 101], .str [102, 97, 108, 115, 101]]), (17, .tup [.int 170, .int 170]), (18, .tup [.int 181, .int 181]), (19, .tup [.int 186, .int 186]), (20, .tup [.int 192, .int 214]), (21, .tup [.int 216, .int 246]), (22, .tup [.int 248, .int 705]), (23, .tup [.int 880, .int 883]), (24, .tup [.int 886, .int 887]), (25, .tup [.int 891, .int 893]), (26, .tup [.int 902, .int 902]), (27, .tup [.int 904, .int 906]), (28, .tup [.int 908, .int 908]), (29, .tup [.int 910, .int 929]), (30, .tup [.int 931, .int 1013]), (31, .tup [.int 1015, .int 1153]), (32, .tup [.int 1162, .int 1315]), (33, .tup [.int 1329, .int 1366]), (34, .tup [.int 1377, .int 1415]), (35, .tup [.int 1488, .int 1514]), (36, .tup [.int 1569, .int 1594]), (37, .tup [.int 1601, .int 1610]), (38, .tup [.int 2308, .int 2361]), (39, .tup [.int 4256, .int 4293]), (40, .tup [.int 4304, .int 4346]), (41, .tup [.int 7680, .int 7835]), (42, .tup [.int 7840, .int 7929]), (43, .tup [.int 8544, .int 8578]), (44, .tup [.int 12353, .int 12438]), (45, .tup [.int 12449, .int 12538]), (46, .tup [.int 12549, .int 12588]), (47, .tup [.int 19968, .int 40891]), (48, .tup [.int 44032, .int 55203]), (50, .tup [.int 768, .int 879]), (51, .tup [.int 1632, .int 1641]), (52, .tup [.int 2406, .int 2415]), (53, .tup [.int 8204, .int 8205]), (54, .tup [.int 8255, .int 8256]), (55, .tup [.int 8276, .int 8276])]
noncomputable def punctK : List (List Nat) := [[62, 62, 62, 61], [61, 61, 61], [33, 61, 61], [62, 62, 62], [60, 60, 61], [62, 62, 61], [60, 61], [62, 61], [61, 61], [33, 61], [43, 43], [45, 45], [60, 60], [62, 62], [38, 38], [124, 124], [43, 61], [45, 61], [42, 61], [37, 61], [38, 61], [124, 61], [94, 61], [47, 61], [123], [125], [40], [41], [91], [93], [46], [59], [44], [60], [62], [43], [45], [42], [37], [38], [124], [94], [33], [126], [63], [58], [61], [47]]
noncomputable def lookN {α : Type} (a : Nat) : List (Nat × α) → Option α
  | [] => none
  | (b, v) :: r => match Nat.beq a b with | true => some v | false => lookN a r
noncomputable def fnI (s : Stmt) : FnI := ⟨(fP s).args.map (·.arg), fB s, fS s⟩
noncomputable def tabH (hook : Nat → List AV → Hp → R) : Tab where
  hook := hook
  globs := globK
  fns := fun a => match lookN a fnL with | some s => some (fnI s) | none => none
  cls := clsK
  tops := fun a => lookN a topL
  punct := punctK
  punctAt := 274
noncomputable def tabK : Tab := tabH fun _ _ _ => none
end Mine
namespace Mine
/-! what the abstract values stand for -/
structure Kap where
  T : List Nat
  p : Nat
  l : Int
  flag : Bool
  cell : Nat → Int
noncomputable def qOf (κ : Kap) (k : Nat) : Int := (κ.cell k).fdiv 12
noncomputable def gOf (κ : Kap) (k : Nat) : Int := (qOf κ k).fmod 5
noncomputable def tOf (κ : Kap) (k : Nat) : Int := (κ.cell k).fmod 12
noncomputable def gapS (κ : Kap) (k : Nat) : List Nat := (GAPS[(gOf κ k).toNat]?).getD []
noncomputable def tokS (κ : Kap) (k : Nat) : List Nat := (TOKS[(tOf κ k).toNat]?).getD []
noncomputable def taS (κ : Kap) : TA → List Nat
  | .gap k => gapS κ k
  | .tok k => tokS κ k
  | .lit s => s
noncomputable def conc (κ : Kap) : List TA → List Nat
  | [] => []
  | a :: r => taS κ a ++ conc κ r
noncomputable def isNl (c : Nat) : Bool := Nat.beq c 10 || Nat.beq c 13 || Nat.beq c 8232 || Nat.beq c 8233
noncomputable def nls : List Nat → Nat
  | [] => 0
  | c :: r => (match isNl c with | true => 1 | false => 0) + nls r
/-- the fields of a token that hang on it alone -/
noncomputable def attV (κ : Kap) (j k : Nat) : AV := match j, (tOf κ k).toNat with
  | 0, 0 => .str [110, 97, 109, 101]
  | 0, 2 => .str [110, 117, 109, 98, 101, 114]
  | 0, 3 => .str [116, 101, 120, 116]
  | 0, 5 => .str [107, 101, 121, 119, 111, 114, 100]
  | 0, 6 => .str [110, 117, 109, 98, 101, 114]
  | 0, 8 => .str [110, 97, 109, 101]
  | 0, 10 => .str [116, 101, 120, 116]
  | 0, _ => .str [112, 117, 110, 99, 116]
  | 1, 2 => .int 4629418941960159232
  | 1, 3 => .str [113, 59]
  | 1, 6 => .int 4654311885213007872
  | 1, 10 => .str [65]
  | 1, _ => .str (tokS κ k)
  | 3, _ => .bool (Nat.blt 0 (nls (gapS κ k)))
  | 6, _ => .bool false
  | 7, 10 => .bool false
  | _, _ => .bool true
noncomputable def RVb : AV → Value → Prop
  | .bool b, v => v = .bool b
  | .int i, v => ∃ t, v = .int i t
  | .str s, v => ∃ t, v = .str ⟨⟨s⟩⟩ t
  | _, _ => False
noncomputable def RV (κ : Kap) (as : List Addr) : AV → Value → Prop
  | .none, v => v = .none
  | .bool b, v => v = .bool b
  | .int i, v => ∃ t, v = .int i t
  | .pos k, v => ∃ t, v = .int (Int.ofNat κ.p + k) t
  | .lin k, v => ∃ t, v = .int (κ.l + k) t
  | .str s, v => ∃ t, v = .str ⟨⟨s⟩⟩ t
  | .pre s, v => ∃ r t, v = .str ⟨⟨s ++ r⟩⟩ t
  | .text, v => ∃ t, v = .str ⟨⟨κ.T⟩⟩ t
  | .tlen, v => ∃ t, v = .int (Int.ofNat κ.T.length) t
  | .ref h, v => ∃ a, as[h]? = some a ∧ v = .ref a
  | .top a, v => v = .ref a
  | .flag, v => v = .bool κ.flag
  | .unk, v => handedIn v = true
  | .txt l, v => ∃ t, v = .str ⟨⟨conc κ l⟩⟩ t
  | .slen l, v => ∃ t, v = .int (Int.ofNat (conc κ l).length) t
  | .slin l, v => ∃ t, v = .int (1 + Int.ofNat (nls (conc κ l))) t
  | .cell k, v => ∃ t, v = .int (κ.cell k) t
  | .cellq k, v => ∃ t, v = .int (qOf κ k) t
  | .cellg k, v => ∃ t, v = .int (gOf κ k) t
  | .cellt k, v => ∃ t, v = .int (tOf κ k) t
  | .att j k, v => RVb (attV κ j k) v
inductive All2 {α β : Type} (R : α → β → Prop) : List α → List β → Prop
  | nil : All2 R [] []
  | cons {a b x y} (h : R a b) (t : All2 R x y) : All2 R (a :: x) (b :: y)
noncomputable def RE (κ : Kap) (as : List Addr) (e : Str × AV) (d : DictEntry) : Prop := (∃ t, d.key = .str e.1 t) ∧ RV κ as e.2 d.val
noncomputable def RO (κ : Kap) (as : List Addr) : AO → Obj → Prop
  | .inst C d, o => ∃ a, as[d]? = some a ∧ o = instObj C a
  | .dict es, o => ∃ ents n, o = dictOf ents n ∧ All2 (RE κ as) es ents
  | .list vs, o => ∃ its n, o = W.listOf its n ∧ All2 (RV κ as) vs its.toList
  | .tup vs, o => ∃ its n, o = { cls := .type "tuple", data := .seq its n } ∧ All2 (RV κ as) vs its.toList
  | .any, _ => True
/-- the facts of the text and the window -/
structure Kw (κ : Kap) (W : Win) : Prop where
  win : ∃ r, κ.T.drop κ.p = W.cs ++ r ∧ (W.fin = true → r = [])
  ple : κ.p ≤ κ.T.length
  short : κ.T.length ≤ 100000
  cells : ∀ k, 0 ≤ κ.cell k
namespace All2
variable {α β γ : Type} {R : α → β → Prop}
theorem mono {R' : α → β → Prop} (f : ∀ a b, R a b → R' a b) : ∀ {x : List α} {y : List β}, All2 R x y → All2 R' x y
  | _, _, .nil => .nil
  | _, _, .cons h t => .cons (f _ _ h) (mono f t)
theorem length : ∀ {x : List α} {y : List β}, All2 R x y → x.length = y.length
  | _, _, .nil => rfl
  | _, _, .cons _ t => congrArg (· + 1) (length t)
theorem append : ∀ {x : List α} {y : List β} {x' : List α} {y' : List β}, All2 R x y → All2 R x' y' → All2 R (x ++ x') (y ++ y')
  | _, _, _, _, .nil, h => h
  | _, _, _, _, .cons h t, h' => .cons h (append t h')
theorem at_ : ∀ {x : List α} {y : List β}, All2 R x y → ∀ {k : Nat} {a : α}, x[k]? = some a → ∃ b, y[k]? = some b ∧ R a b
  | _, _, .cons h t, 0, _, e => by simp at e; subst e; exact ⟨_, rfl, h⟩
  | _, _, .cons h t, k + 1, _, e => by simp at e; obtain ⟨b, hb, r⟩ := at_ t e; exact ⟨b, by simpa using hb, r⟩
theorem drop : ∀ {x : List α} {y : List β}, All2 R x y → ∀ k, All2 R (x.drop k) (y.drop k)
  | _, _, h, 0 => h
  | _, _, .nil, k + 1 => by simp; exact .nil
  | _, _, .cons h t, k + 1 => by simpa using drop t k
theorem take : ∀ {x : List α} {y : List β}, All2 R x y → ∀ k, All2 R (x.take k) (y.take k)
  | _, _, h, 0 => by simp; exact .nil
  | _, _, .nil, k + 1 => by simp; exact .nil
  | _, _, .cons h t, k + 1 => by simpa using .cons h (take t k)
theorem set : ∀ {x : List α} {y : List β}, All2 R x y → ∀ {k : Nat} {a : α} {b : β}, R a b → All2 R (x.set k a) (y.set k b)
  | _, _, .nil, k, _, _, _ => by simp; exact .nil
  | _, _, .cons h t, 0, _, _, e => by simpa using .cons e t
  | _, _, .cons h t, k + 1, _, _, e => by simpa using .cons h (set t e)
theorem one {a : α} {b : β} (h : R a b) : All2 R [a] [b] := .cons h .nil
theorem inv1 {a : α} {x : List α} {y : List β} (h : All2 R (a :: x) y) : ∃ b y', y = b :: y' ∧ R a b ∧ All2 R x y' := by
  cases h with | cons h t => exact ⟨_, _, rfl, h, t⟩
theorem inv0 {y : List β} (h : All2 R [] y) : y = [] := by cases h; rfl
theorem rev : ∀ {x : List α} {y : List β}, All2 R x y → All2 R x.reverse y.reverse
  | _, _, .nil => .nil
  | _, _, .cons h t => by simpa using append (rev t) (one h)
theorem map_right {f : γ → β} : ∀ {x : List α} {y : List γ}, All2 (fun a c => R a (f c)) x y → All2 R x (y.map f)
  | _, _, .nil => .nil
  | _, _, .cons h t => .cons h (map_right t)
end All2
theorem RV.mono {κ : Kap} {as as' : List Addr} (e : as <+: as') : ∀ {v : AV} {vv : Value}, RV κ as v vv → RV κ as' v vv := by
  intro v vv h
  cases v <;> try exact h
  obtain ⟨a, ha, r⟩ := h
  refine ⟨a, ?_, r⟩
  obtain ⟨t, rfl⟩ := e
  rw [List.getElem?_append_left (by
    have := List.getElem?_eq_some_iff.mp ha; exact this.1)]
  exact ha
theorem pre_get {α : Type} {as as' : List α} (e : as <+: as') {d : Nat} {a : α} (h : as[d]? = some a) : as'[d]? = some a := by
  obtain ⟨t, rfl⟩ := e
  rw [List.getElem?_append_left (List.getElem?_eq_some_iff.mp h).1]
  exact h
theorem RE.mono {κ : Kap} {as as' : List Addr} (e : as <+: as') {a : Str × AV} {d : DictEntry} (h : RE κ as a d) : RE κ as' a d := ⟨h.1, RV.mono e h.2⟩
theorem RO.mono {κ : Kap} {as as' : List Addr} (e : as <+: as') : ∀ {v : AO} {o : Obj}, RO κ as v o → RO κ as' v o := by
  intro v o h
  cases v with
  | inst C d => obtain ⟨a, ha, r⟩ := h; exact ⟨a, pre_get e ha, r⟩
  | dict es => obtain ⟨a, b, r, h⟩ := h; exact ⟨a, b, r, h.mono fun _ _ => RE.mono e⟩
  | list es => obtain ⟨a, b, r, h⟩ := h; exact ⟨a, b, r, h.mono fun _ _ => RV.mono e⟩
  | tup es => obtain ⟨a, b, r, h⟩ := h; exact ⟨a, b, r, h.mono fun _ _ => RV.mono e⟩
  | any => trivial
/-! names -/
theorem eqL_iff : ∀ {a b : List Nat}, eqL a b = true ↔ a = b
  | [], [] => by simp [eqL]
  | [], _ :: _ => by simp [eqL]
  | _ :: _, [] => by simp [eqL]
  | a :: x, b :: y => by
    unfold eqL
    cases h : Nat.beq a b with
    | true => simp only [Nat.eq_of_beq_eq_true h, List.cons.injEq, true_and]; exact eqL_iff
    | false => simp only [Bool.false_eq_true, List.cons.injEq, false_iff]; intro e; rw [e.1] at h; simp at h
theorem eqS_iff {a b : Str} : eqS a b = true ↔ a = b := by
  unfold eqS
  rw [eqL_iff]
  obtain ⟨⟨a⟩⟩ := a; obtain ⟨⟨b⟩⟩ := b
  simp
theorem eqS_beq (a b : Str) : eqS a b = (a == b) := by
  rw [Bool.eq_iff_iff, eqS_iff, beq_iff_eq]
theorem look_eq {α : Type} (x : Str) : ∀ l : List (Str × α), look x l = l.lookup x
  | [] => rfl
  | (y, v) :: r => by
    unfold look
    rw [eqS_beq, List.lookup_cons, look_eq x r]
    cases x == y <;> rfl
theorem isLoc_iff {sc : Scope} {x : Str} : isLoc sc x = true ↔ sc.names.lookup x = some .local := by
  unfold isLoc
  rw [look_eq]
  cases h : sc.names.lookup x with
  | none => simp
  | some k => cases k <;> simp
theorem isGlob_iff {sc : Scope} {x : Str} : isGlob sc x = true ↔ sc.names.lookup x = some .globalImplicit := by
  unfold isGlob
  rw [look_eq]
  cases h : sc.names.lookup x with
  | none => simp
  | some k => cases k <;> simp
theorem look_cons {α : Type} (y x : Str) (v : α) (l : List (Str × α)) : look y ((x, v) :: l) = if y = x then some v else look y l := by
  rw [look_eq, look_eq, List.lookup_cons]
  by_cases h : y = x
  · subst h; simp
  · have : (y == x) = false := by simpa using h
    rw [this]; simp [h]
theorem look_nil {α : Type} (y : Str) : look y ([] : List (Str × α)) = none := rfl
theorem look_put {x y : Str} {v : AV} : ∀ {l : List (Str × AV)}, look y (put x v l) = if y = x then some v else look y l
  | [] => by unfold put; rw [look_cons]
  | (z, u) :: r => by
    unfold put
    rw [eqS_beq]
    by_cases hz : x = z
    · subst hz
      simp only [beq_self_eq_true]
      rw [look_cons, look_cons]
      by_cases h : y = x <;> simp [h]
    · have : (x == z) = false := by simpa using hz
      rw [this]
      simp only
      rw [look_cons, look_cons, look_put (l := r)]
      by_cases h : y = z
      · subst h; simp; intro e; exact absurd e.symm hz
      · simp [h]
end Mine
namespace Mine
noncomputable abbrev adr (news : List (Addr × Obj)) : List Addr := news.map (·.1)
structure Led (κ : Kap) (hp : Hp) (h₀ : Heap) (L : Addr) (h : Heap) (ext news : List (Addr × Obj)) : Prop where
  ns : News h₀ L h (ext ++ news)
  nd : ((ext ++ news).map (·.1)).Nodup
  ho : All2 (RO κ (adr news)) hp (news.map (·.2))
structure At (κ : Kap) (hp : Hp) (h₀ : Heap) (L : Addr) (m : Str → Option Value) (ext news : List (Addr × Obj)) (h : Heap) : Prop where
  fr : Fr h₀ L h m
  led : Led κ hp h₀ L h ext news
noncomputable def LocOk (κ : Kap) (as : List Addr) (sc : Scope) (loc : Loc) (m : Str → Option Value) : Prop :=
  ∀ x v, look x loc = some v → isLoc sc x = true ∧ ∃ vv, m x = some vv ∧ RV κ as v vv
structure EnvOk (env : Env) (sc : Scope) (L : Addr) : Prop where
  scope : env.scope = sc
  kind : sc.kind = .function
  loc : env.locals = L
  glob : env.globals = mainGlobals
  blt : env.builtins = builtinsNs
structure Room (n : Nat) (A : Around) : Prop where
  hh : A.handled = none
  depth : A.depth + 2 * n ≤ 900
  units : A.units + 20 * n ≤ 9000
structure Bs (w : World) (h₀ : Heap) : Prop where
  X : (KK w.params).In h₀
  T : ∃ mg mb, TopRead Q (looseW Q looseL) mg mb h₀
variable {κ : Kap} {hp hp' : Hp} {h₀ h h' : Heap} {L : Addr} {m m' : Str → Option Value} {ext news news' : List (Addr × Obj)} {sc : Scope} {loc loc' : Loc}
theorem Bs.keeps {w : World} {h₁ : Heap} (B : Bs w h₀) (k : ∀ b o, h₀.get? b = some o → h₁.get? b = some o) : Bs w h₁ :=
  ⟨B.X.keeps k, by obtain ⟨a, b, T⟩ := B.T; exact ⟨a, b, T.keeps k⟩⟩
theorem Room.le {n k : Nat} {A : Around} (R : Room n A) (h : k ≤ n) : Room k A := ⟨R.hh, by have := R.depth; omega, by have := R.units; omega⟩
theorem Room.at {n : Nat} {A : Around} (R : Room n A) : A.depth < recursionLimit := by have := R.depth; unfold recursionLimit; omega
theorem Room.un {n : Nat} {A : Around} (R : Room n A) : A.units < cLine := by have := R.units; unfold cLine; omega
theorem LocOk.mono {as as' : List Addr} (l : LocOk κ as sc loc m) (e : as <+: as') : LocOk κ as' sc loc m := fun x v h => by
  obtain ⟨a, vv, b, c⟩ := l x v h
  exact ⟨a, vv, b, c.mono e⟩
theorem LocOk.set {as : List Addr} (l : LocOk κ as sc loc m) {x : Str} {v : AV} {vv : Value} (hx : isLoc sc x = true) (r : RV κ as v vv) :
    LocOk κ as sc (put x v loc) (fun y => if y = x then some vv else m y) := fun y u h => by
  rw [look_put] at h
  by_cases e : y = x
  · subst e; simp at h; subst h; exact ⟨hx, vv, by simp, r⟩
  · rw [if_neg e] at h
    obtain ⟨a, w, b, c⟩ := l y u h
    exact ⟨a, w, by simp [e, b], c⟩
/-! the ledger -/
theorem Led.len (l : Led κ hp h₀ L h ext news) : hp.length = news.length := by rw [l.ho.length, List.length_map]
theorem Led.nd2 (l : Led κ hp h₀ L h ext news) : (adr news).Nodup := by
  have := l.nd; rw [List.map_append] at this; exact (List.nodup_append.mp this).2.1
theorem Led.get (l : Led κ hp h₀ L h ext news) {i : Nat} {o : AO} (e : hp[i]? = some o) : ∃ a ob, news[i]? = some (a, ob) ∧ h.get? a = some ob ∧ RO κ (adr news) o ob ∧ (adr news)[i]? = some a := by
  obtain ⟨ob, e1, r⟩ := l.ho.at_ e
  rw [List.getElem?_map] at e1
  cases q : news[i]? with
  | none => rw [q] at e1; cases e1
  | some p =>
    rw [q] at e1
    obtain ⟨a, ob'⟩ := p
    cases e1
    exact ⟨a, ob', rfl, (l.ns (a, ob') (List.mem_append_right _ (List.mem_of_getElem? q))).1, r, by rw [List.getElem?_map, q]; rfl⟩
/-- the heap changed, but neither the base, nor the names, nor the ledger -/
theorem At.keep (a : At κ hp h₀ L m ext news h) {wr : List Addr} (hk : ∀ b o, b ∉ wr → h.get? b = some o → h'.get? b = some o)
    (hw : ∀ b ∈ wr, b ≠ L ∧ h₀.get? b = none ∧ b ∉ adr (ext ++ news)) : At κ hp h₀ L m ext news h' := by
  refine ⟨⟨?_, fun b o e => hk b o (fun q => ?_) (a.fr.keep b o e), a.fr.above⟩, ⟨fun p hp => ⟨hk _ _ (fun q => ?_) (a.led.ns p hp).1, (a.led.ns p hp).2⟩, a.led.nd, a.led.ho⟩⟩
  · exact a.fr.ns.at' fun o e => hk L o (fun q => (hw L q).1 rfl) e
  · have := (hw b q).2.1; rw [e] at this; cases this
  · exact (hw _ q).2.2 (List.mem_map_of_mem hp)
theorem At.keeps (a : At κ hp h₀ L m ext news h) (hk : ∀ b o, h.get? b = some o → h'.get? b = some o) : At κ hp h₀ L m ext news h' :=
  a.keep (wr := []) (fun b o _ e => hk b o e) (fun b hb => by cases hb)
theorem adr_lt (a : At κ hp h₀ L m ext news h) : ∀ b ∈ adr (ext ++ news), b < h.objs.size := fun b hb => by
  obtain ⟨p, hp, rfl⟩ := List.mem_map.mp hb
  exact Heap.lt_size (a.led.ns p hp).1
theorem size_fresh (a : At κ hp h₀ L m ext news h) : h.objs.size ∉ adr (ext ++ news) := fun q => Nat.lt_irrefl _ (adr_lt a _ q)
theorem L_lt (a : At κ hp h₀ L m ext news h) : L < h.objs.size := by
  obtain ⟨o, _, _, e, _⟩ := a.fr.ns
  exact Heap.lt_size e
theorem base_lt (a : At κ hp h₀ L m ext news h) {b : Addr} {o : Obj} (e : h₀.get? b = some o) : b < h.objs.size := Heap.lt_size (a.fr.keep b o e)
theorem base_size_none (a : At κ hp h₀ L m ext news h) : h₀.get? h.objs.size = none := by
  cases q : h₀.get? h.objs.size with
  | none => rfl
  | some o => exact absurd (base_lt a q) (Nat.lt_irrefl _)
/-- a new object at the end -/
theorem At.grow (a : At κ hp h₀ L m ext news h) {x : Addr} {o : Obj} {ao : AO} (ha : At κ hp h₀ L m ext news h') (hx : h'.get? x = some o) (hL : x ≠ L) (h0 : h₀.get? x = none) (hn : x ∉ adr (ext ++ news))
    (r : RO κ (adr (news ++ [(x, o)])) ao o) : At κ (hp ++ [ao]) h₀ L m ext (news ++ [(x, o)]) h' := by
  refine ⟨ha.fr, ⟨fun p hp => ?_, ?_, ?_⟩⟩
  · rw [← List.append_assoc] at hp
    rcases List.mem_append.mp hp with hp | hp
    · exact ha.led.ns p hp
    · rw [List.mem_singleton.mp hp]; exact ⟨hx, hL, h0⟩
  · rw [← List.append_assoc, List.map_append]
    refine List.nodup_append.mpr ⟨ha.led.nd, by simp, ?_⟩
    intro u hu v hv e
    simp at hv; subst hv; subst e
    exact hn hu
  · rw [List.map_append]
    refine All2.append (ha.led.ho.mono fun _ _ q => q.mono ?_) (.one r)
    exact ⟨_, by simp [adr]; rfl⟩
theorem adr_pre (news : List (Addr × Obj)) (p : List (Addr × Obj)) : adr news <+: adr (news ++ p) := ⟨_, by simp [adr]; rfl⟩
theorem adr_last {x : Addr} {o : Obj} (l : hp.length = news.length) : (adr (news ++ [(x, o)]))[hp.length]? = some x := by
  rw [l]; simp [adr]
theorem At.ref_last (a : At κ hp h₀ L m ext news h) {x : Addr} {o : Obj} : RV κ (adr (news ++ [(x, o)])) (.ref hp.length) (.ref x) := ⟨x, adr_last a.led.len, rfl⟩
/-- an object changed -/
theorem set_adr {i : Nat} {a : Addr} {o o' : Obj} (e : news[i]? = some (a, o)) : adr (news.set i (a, o')) = adr news := by
  apply List.ext_getElem?
  intro j
  simp only [adr, List.getElem?_map, List.getElem?_set]
  by_cases h : i = j
  · subst h
    have h1 := (List.getElem?_eq_some_iff.mp e).1
    have h2 := (List.getElem?_eq_some_iff.mp e).2
    simp [h1, h2]
  · simp [h]
theorem At.put (a : At κ hp h₀ L m ext news h) {i : Nat} {x : Addr} {o o' : Obj} {ao : AO} (e : news[i]? = some (x, o)) (hk : ∀ b ob, b ≠ x → h.get? b = some ob → h'.get? b = some ob) (hx : h'.get? x = some o')
    (r : RO κ (adr news) ao o') : At κ (hp.set i ao) h₀ L m ext (news.set i (x, o')) h' := by
  have mem : (x, o) ∈ ext ++ news := List.mem_append_right _ (List.mem_of_getElem? e)
  have hxx := a.led.ns _ mem
  refine ⟨⟨a.fr.ns.at' fun ob e => hk L ob (Ne.symm hxx.2.1) e, fun b ob q => hk b ob (fun z => ?_) (a.fr.keep b ob q), a.fr.above⟩, ⟨fun p hp => ?_, ?_, ?_⟩⟩
  · have := hxx.2.2; rw [← z, q] at this; cases this
  · have nd := a.led.nd
    rcases List.mem_append.mp hp with hp | hp
    · refine ⟨hk _ _ (fun z => ?_) (a.led.ns p (List.mem_append_left _ hp)).1, (a.led.ns p (List.mem_append_left _ hp)).2⟩
      rw [List.map_append] at nd
      exact (List.nodup_append.mp nd).2.2 p.1 (List.mem_map_of_mem hp) x (List.mem_map.mpr ⟨_, List.mem_of_getElem? e, rfl⟩) z
    · obtain ⟨j, hj⟩ := List.mem_iff_getElem?.mp hp
      rw [List.getElem?_set] at hj
      by_cases q : i = j
      · subst q
        have hl := (List.getElem?_eq_some_iff.mp e).1
        simp [hl] at hj
        subst hj
        exact ⟨hx, hxx.2⟩
      · simp [q] at hj
        refine ⟨hk _ _ (fun z => ?_) (a.led.ns p (List.mem_append_right _ (List.mem_of_getElem? hj))).1, (a.led.ns p (List.mem_append_right _ (List.mem_of_getElem? hj))).2⟩
        have nd2 := a.led.nd2
        have e1 : (adr news)[i]? = some x := by simp [adr, e]
        have e2 : (adr news)[j]? = some x := by simp [adr, hj, z]
        have hi := (List.getElem?_eq_some_iff.mp e1).1
        exact q ((List.getElem?_inj hi nd2).mp (e1.trans e2.symm))
  · rw [List.map_append]
    have := a.led.nd
    rw [List.map_append] at this
    show (List.map _ ext ++ adr (news.set i (x, o'))).Nodup
    rw [set_adr e]
    exact this
  · rw [set_adr e, List.map_set]
    exact a.led.ho.set r
theorem At.upd (a : At κ hp h₀ L m ext news h) {i : Nat} {x : Addr} {o o' : Obj} (e : news[i]? = some (x, o)) : Upd x o o' (ext ++ news) (ext ++ news.set i (x, o')) := by
  have nd := a.led.nd
  have main : ∀ (l : List (Addr × Obj)) (k : Nat), (l.map (·.1)).Nodup → l[k]? = some (x, o) → Upd x o o' l (l.set k (x, o')) := by
    intro l
    induction l with
    | nil => intro k _ q; simp at q
    | cons p r ih =>
      intro k nd q
      simp only [List.map_cons, List.nodup_cons] at nd
      cases k with
      | zero =>
        simp at q; subst q
        simp only [List.set_cons_zero]
        exact .head fun p hp z => nd.1 (List.mem_map.mpr ⟨p, hp, z⟩)
      | succ k =>
        simp at q
        simp only [List.set_cons_succ]
        refine .tail (fun z => nd.1 ?_) (ih k nd.2 q)
        rw [z]; exact List.mem_map.mpr ⟨_, List.mem_of_getElem? q, rfl⟩
  have q : (ext ++ news)[ext.length + i]? = some (x, o) := by rw [List.getElem?_append_right (by omega)]; simpa using e
  have := main (ext ++ news) (ext.length + i) nd q
  rw [List.set_append_right _ _ (by omega)] at this
  simpa using this
/-- from what a rule says of the ledger -/
theorem At.of_upd (a : At κ hp h₀ L m ext news h) {i : Nat} {x : Addr} {o o' : Obj} {ao : AO} (e : news[i]? = some (x, o)) (F : Fr h₀ L h' m) (N : News h₀ L h' (ext ++ news.set i (x, o')))
    (r : RO κ (adr news) ao o') : At κ (hp.set i ao) h₀ L m ext (news.set i (x, o')) h' := by
  refine ⟨F, ⟨N, ?_, ?_⟩⟩
  · rw [List.map_append]
    have := a.led.nd
    rw [List.map_append] at this
    show (List.map _ ext ++ adr (news.set i (x, o'))).Nodup
    rw [set_adr e]
    exact this
  · rw [set_adr e, List.map_set]
    exact a.led.ho.set r
theorem At.withNews (a : At κ hp h₀ L m ext news h) (F : Fr h₀ L h' m') (N : News h₀ L h' (ext ++ news)) : At κ hp h₀ L m' ext news h' := ⟨F, N, a.led.nd, a.led.ho⟩
/-! the facts at a place of a walk -/
structure Cx (κ : Kap) (w : World) (n : Nat) (A : Around) (env : Env) (sc : Scope) (loc : Loc) (hp : Hp) (h₀ : Heap) (L : Addr) (m : Str → Option Value) (ext news : List (Addr × Obj)) (h : Heap) : Prop where
  bs : Bs w h₀
  room : Room n A
  env : EnvOk env sc L
  st : At κ hp h₀ L m ext news h
  loc : LocOk κ (adr news) sc loc m
variable {w : World} {n : Nat} {A : Around} {env : Env}
theorem Cx.next (c : Cx κ w n A env sc loc hp h₀ L m ext news h) (a : At κ hp' h₀ L m ext news' h') (e : adr news <+: adr news') : Cx κ w n A env sc loc hp' h₀ L m ext news' h' :=
  ⟨c.bs, c.room, c.env, a, c.loc.mono e⟩
theorem Cx.le (c : Cx κ w n A env sc loc hp h₀ L m ext news h) {k : Nat} (q : k ≤ n) : Cx κ w k A env sc loc hp h₀ L m ext news h := ⟨c.bs, c.room.le q, c.env, c.st, c.loc⟩
/-- what is owed behind a value -/
noncomputable abbrev PV (κ : Kap) (hp' : Hp) (h₀ : Heap) (L : Addr) (m : Str → Option Value) (ext news : List (Addr × Obj)) (s : Shared) (v : AV) (Q : Value → Shared → Prop) : Prop :=
  ∀ vv h' news' tk, RV κ (adr news') v vv → At κ hp' h₀ L m ext news' h' → adr news <+: adr news' → Q vv { s with heap := h', toks := tk }
noncomputable abbrev PL (κ : Kap) (hp' : Hp) (h₀ : Heap) (L : Addr) (m : Str → Option Value) (ext news : List (Addr × Obj)) (s : Shared) (vs : List AV) (Q : List Value → Shared → Prop) : Prop :=
  ∀ vvs h' news' tk, All2 (RV κ (adr news')) vs vvs → At κ hp' h₀ L m ext news' h' → adr news <+: adr news' → Q vvs { s with heap := h', toks := tk }
noncomputable abbrev PB (κ : Kap) (hp' : Hp) (h₀ : Heap) (L : Addr) (m : Str → Option Value) (ext news : List (Addr × Obj)) (s : Shared) (b : Bool) (Q : Bool → Shared → Prop) : Prop :=
  ∀ h' news' tk, At κ hp' h₀ L m ext news' h' → adr news <+: adr news' → Q b { s with heap := h', toks := tk }
noncomputable def flOk (κ : Kap) (as : List Addr) : Fl → Flow → Prop
  | .next, f => f = .next
  | .ret v, f => ∃ vv, f = .ret vv ∧ RV κ as v vv
noncomputable abbrev PS (κ : Kap) (hp' : Hp) (loc' : Loc) (sc : Scope) (h₀ : Heap) (L : Addr) (ext news : List (Addr × Obj)) (s : Shared) (fl : Fl) (Q : Flow → Shared → Prop) : Prop :=
  ∀ f h' m' news' tk, flOk κ (adr news') fl f → At κ hp' h₀ L m' ext news' h' → LocOk κ (adr news') sc loc' m' → adr news <+: adr news' → Q f { s with heap := h', toks := tk }
theorem pre_refl {α : Type} (l : List α) : l <+: l := ⟨[], by simp⟩
/-! the tables -/
noncomputable def bltV : Blt → Value
  | .len => .builtin "len"
  | .ord => .builtin "ord"
  | .chr => .builtin "chr"
  | .abs => .builtin "abs"
  | .int => .type "int"
  | .max => .builtin "max"
structure FnOk (K : Frag) (a : Nat) (f : FnI) : Prop where
  rec_ : ∃ name qual params dV kV doc pm cdv ct oc an od osl, K.lookup a = some { cls := oc, dict := od, data := .func (fnOf name qual params f.body f.scope dV kV doc pm an cdv ct), slots := osl } ∧ codeIn K cdv qual = true ∧
    ∀ vs : List Value, vs.length = f.params.length → bindArgs (fnOf name qual params f.body f.scope dV kV doc pm an cdv ct) ⟨vs, []⟩ = pure (f.params.zip vs)
  nocell : ∀ x ∈ f.scope.names, x.2 ≠ .cell
  pars : ∀ x ∈ f.params, isLoc f.scope x = true
  dist : f.params.Nodup
  co : f.scope.isCoroutine = false
  gen : f.scope.isGenerator = false
  kind : f.scope.kind = .function
structure ClOk (K : Frag) (C : Nat) (c : ClI) : Prop where
  makes : makesIn K C = true
  init : findIn K (.ref C) "__init__" = some (some (.ref c.init)) ∧ isFn K (.ref c.init) = true
  over : findIn K (.ref C) "__setattr__" = some (some (.builtin "object.__setattr__")) ∧ plainOver K C = true
  hasD : hasDictIn K C = true
  plain : ∀ x, plainGet K C x = true
  attr : ∀ x ∈ c.attrs, takerIn K C x = some none ∧ ∃ at_, findIn K (.ref C) x = some at_ ∧ noGet K at_ = true
  meth : ∀ x a, look x c.meths = some a → findIn K (.ref C) x = some (some (.ref a)) ∧ isFn K (.ref a) = true ∧ keepIn K (.ref a) = true
structure TabOk (D : Tab) (w : World) (K : Frag) : Prop where
  fn : ∀ g a, look g D.globs = some (.fn a) → nsIn K mainGlobals g = some (some (.ref a)) ∧ keepIn K (.ref a) = true
  cls : ∀ g C, look g D.globs = some (.cls C) → nsIn K mainGlobals g = some (some (.ref C)) ∧ keepIn K (.ref C) = true
  val : ∀ g v, look g D.globs = some (.val v) → ∃ vv, nsIn K mainGlobals g = some (some vv) ∧ ∀ κ as, RV κ as v vv
  blt : ∀ g b, look g D.globs = some (.blt b) → nsIn K mainGlobals g = some none ∧ bootBuiltins g = some (bltV b) ∧ g ≠ "__name__"
  range : ∀ g, look g D.globs = some .range → nsIn K mainGlobals g = some none ∧ bootBuiltins g = some (.type "range") ∧ g ≠ "__name__"
  enum : ∀ g, look g D.globs = some .enumerate → nsIn K mainGlobals g = some none ∧ bootBuiltins g = some (.type "enumerate") ∧ g ≠ "__name__"
  nodbg : ∀ g v, look g D.globs = some v → (g == ("__debug__" : Str)) = false
  fns : ∀ a f, D.fns a = some f → FnOk K a f
  clss : ∀ C c, D.cls C = some c → ClOk K C c
  tops : ∀ a o b vs, D.tops a = some o → seqAO o = some (b, vs) → ∃ ob items n, K.lookup a = some ob ∧ ob.cls = .type (if b then "list" else "tuple") ∧ ob.data = .seq items n ∧ ∀ κ as, All2 (RV κ as) vs items.toList
  punct : ∃ es n, K.lookup D.punctAt = some { cls := .type "dict", data := .dict es n } ∧ KeysLit w.params es.toList ∧ (D.punctAt == sysModules) = false ∧
    ∀ x : Str, ∃ r, nsIn K D.punctAt x = some r ∧ r.isSome = hasS x.cps.toList D.punct
end Mine
namespace Mine
section
variable {prog : Program} {w : World} {A : Around} {E : Value → Shared → Prop} {s : Shared} {κ : Kap} {as : List Addr} {W : Win} {D : Tab} {hp : Hp}
theorem str_append (x y : List Nat) : (⟨⟨x⟩⟩ : Str) ++ (⟨⟨y⟩⟩ : Str) = ⟨⟨x ++ y⟩⟩ := by
  show Str.mk _ = _
  simp
theorem str_length (x : List Nat) : (⟨⟨x⟩⟩ : Str).length = x.length := rfl
theorem conc_append (κ : Kap) : ∀ x y, conc κ (x ++ y) = conc κ x ++ conc κ y
  | [], y => rfl
  | a :: r, y => by simp only [List.cons_append, conc, conc_append κ r y, List.append_assoc]
theorem gap_short (κ : Kap) (k : Nat) : (gapS κ k).length < 100 := by
  unfold gapS
  cases h : GAPS[(gOf κ k).toNat]? with
  | none => simp
  | some x =>
    have := List.mem_of_getElem? h
    simp only [GAPS, List.mem_cons, List.not_mem_nil, or_false] at this
    rcases this with rfl | rfl | rfl | rfl | rfl <;> decide
theorem tok_short (κ : Kap) (k : Nat) : (tokS κ k).length < 100 := by
  unfold tokS
  cases h : TOKS[(tOf κ k).toNat]? with
  | none => simp
  | some x =>
    have := List.mem_of_getElem? h
    simp only [TOKS, List.mem_cons, List.not_mem_nil, or_false] at this
    rcases this with rfl | rfl | rfl | rfl | rfl | rfl | rfl | rfl | rfl | rfl | rfl | rfl <;> decide
theorem shortT_len (κ : Kap) : ∀ l, shortT l = true → (conc κ l).length ≤ 100 * l.length
  | [], _ => by simp [conc]
  | .gap k :: r, h => by
    have := shortT_len κ r h
    have := gap_short κ k
    simp only [conc, taS, List.length_append, List.length_cons]; omega
  | .tok k :: r, h => by
    have := shortT_len κ r h
    have := tok_short κ k
    simp only [conc, taS, List.length_append, List.length_cons]; omega
  | .lit x :: r, h => by
    unfold shortT at h
    cases q : Nat.blt x.length 100 with
    | false => rw [q] at h; cases h
    | true =>
      rw [q] at h
      have := shortT_len κ r h
      have := Nat.le_of_ble_eq_true q
      simp only [conc, taS, List.length_append, List.length_cons]; omega
theorem okT_len (κ : Kap) {l : List TA} (h : okT l = true) : (conc κ l).length < 10000 := by
  unfold okT at h
  cases q : Nat.blt l.length 100 with
  | false => rw [q] at h; cases h
  | true =>
    rw [q] at h
    have := shortT_len κ l h
    have := Nat.le_of_ble_eq_true q
    omega
theorem lits_conc (κ : Kap) (x : List Nat) : conc κ (litsOfS x) = x := by
  unfold litsOfS
  cases q : eqL x [10, 59, 32, 120] with
  | true => rw [eqL_iff] at q; subst q; rfl
  | false => simp [conc, taS]
theorem nblt {a b : Nat} (h : Nat.blt a b = true) : a < b := Nat.le_of_ble_eq_true h
theorem intBits_le {a : Int} {n : Nat} (h : a.natAbs < 2 ^ n) : Builtin.Int.intBits a ≤ n := by
  unfold Builtin.Int.intBits
  split
  · omega
  · rename_i q
    have hz : a.natAbs ≠ 0 := by intro e; exact q (by simpa using Int.natAbs_eq_zero.mp e)
    exact (Nat.log2_lt hz).mpr h
theorem intOf_ok {v : AV} {i : Int} {as : List Addr} {vv : Value} (h : intOf v = some i) (r : RV κ as v vv) : ∃ t, vv = .int i t := by
  unfold intOf at h
  split at h
  · cases h; exact r
  · cases h
theorem strOf_ok {v : AV} {s : List Nat} {as : List Addr} {vv : Value} (h : strOf v = some s) (r : RV κ as v vv) : ∃ t, vv = .str ⟨⟨s⟩⟩ t := by
  unfold strOf at h
  split at h
  · cases h; exact r
  · cases h
theorem twoI_ok {u v : AV} {i j : Int} {as : List Addr} {x y : Value} (h : twoI u v = some (i, j)) (r : RV κ as u x) (r2 : RV κ as v y) : (∃ t, x = .int i t) ∧ ∃ t, y = .int j t := by
  unfold twoI at h
  split at h
  · rename_i q1 q2; cases h; exact ⟨intOf_ok q1 r, intOf_ok q2 r2⟩
  · cases h
theorem addA_ok {a b v : AV} {va vb : Value} {Q : Value → Shared → Prop} (h : addA a b = some v) (ra : RV κ as a va) (rb : RV κ as b vb)
    (hQ : ∀ vv tk, RV κ as v vv → Q vv { s with toks := tk }) : wpAny (model prog w) A (binaryOp .Add va vb) Q E s := by
  unfold addA at h
  split at h
  · cases h; obtain ⟨t, rfl⟩ := ra; obtain ⟨u, rfl⟩ := rb
    exact add_int (hQ _ _ ⟨_, rfl⟩)
  · cases h; obtain ⟨t, rfl⟩ := ra; obtain ⟨u, rfl⟩ := rb
    exact add_int (hQ _ _ ⟨_, by rw [Int.add_assoc]⟩)
  · cases h; obtain ⟨t, rfl⟩ := ra; obtain ⟨u, rfl⟩ := rb
    exact add_int (hQ _ _ ⟨_, by rw [Int.add_assoc]⟩)
  · split at h
    · rename_i q; cases h; obtain ⟨t, rfl⟩ := ra; obtain ⟨u, rfl⟩ := rb
      refine add_str (fun t' tk => hQ _ _ ⟨t', by rw [str_append]⟩) ?_
      rw [str_length, str_length]; have := nblt q; unfold sizeLine; omega
    · cases h
  · split at h
    · rename_i q; cases h; obtain ⟨t, rfl⟩ := ra; obtain ⟨u, rfl⟩ := rb
      refine add_str (fun t' tk => hQ _ _ ⟨t', by rw [str_append, List.nil_append]⟩) ?_
      rw [str_length, str_length]; have := okT_len κ q; simp [sizeLine]; omega
    · cases h
  · split at h
    · rename_i q1 q2; cases h; obtain ⟨t, rfl⟩ := ra; obtain ⟨u, rfl⟩ := rb
      refine add_str (fun t' tk => hQ _ _ ⟨t', by rw [str_append, conc_append]⟩) ?_
      rw [str_length, str_length]; have := okT_len κ q1; have := okT_len κ q2; unfold sizeLine; omega
    · cases h
  · split at h
    · rename_i q1 q2; cases h; obtain ⟨t, rfl⟩ := ra; obtain ⟨u, rfl⟩ := rb
      refine add_str (fun t' tk => hQ _ _ ⟨t', by rw [str_append, conc_append, lits_conc]⟩) ?_
      rw [str_length, str_length]; have := okT_len κ q1; have := nblt q2; unfold sizeLine; omega
    · cases h
  · cases h
theorem ariA_ok {op : Operator} {x y z : Int} {t u : Tok} {Q : Value → Shared → Prop} (h : ariA op x y = some z) (hQ : ∀ tk u, Q (.int z u) { s with toks := tk }) : wpAny (model prog w) A (binaryOp op (.int x t) (.int y u)) Q E s := by
  unfold ariA at h
  split at h
  · cases h
    exact sub_int (hQ _ _)
  · split at h
    · rename_i q; cases h
      refine mul_int (hQ _ _) ?_
      unfold IntMulOk
      have h1 := intBits_le q.1
      have : decide (Builtin.Int.intBits _ > shortFactorBits) = false := decide_eq_false (Nat.not_lt.mpr h1)
      rw [this]; simp
    · cases h
  · split at h
    · rename_i q; cases h
      exact lshift_int_small q.1 q.2.1 q.2.2 (hQ _ _)
    · cases h
  · split at h
    · rename_i q; cases h
      exact rshift_int q (hQ _ _)
    · cases h
  · cases h
    exact or_int (hQ _ _)
  · split at h
    · rename_i q; cases h
      refine pow_int q.1 ?_ (hQ _ _)
      have := intBits_le q.2.2
      have h1 : (Builtin.Int.intBits _ : Int) ≤ 64 := Int.ofNat_le.mpr this
      have h2 := Int.mul_le_mul h1 q.2.1 q.1 (by decide)
      refine Int.le_trans h2 (by decide)
    · cases h
  · cases h
theorem binA_ok {op : Operator} {a b v : AV} {va vb : Value} {Q : Value → Shared → Prop} (h : binA op a b = some v) (ra : RV κ as a va) (rb : RV κ as b vb)
    (hQ : ∀ vv tk, RV κ as v vv → Q vv { s with toks := tk }) : wpAny (model prog w) A (binaryOp op va vb) Q E s := by
  unfold binA at h
  split at h
  · exact addA_ok h ra rb hQ
  · split at h
    · rename_i y q0
      obtain ⟨u, rfl⟩ := intOf_ok q0 rb
      unfold fdivA at h
      split at h
      · split at h
        · rename_i q; cases h; obtain ⟨t, rfl⟩ := ra
          have q := of_decide_eq_true q; subst q
          exact floordiv_int (by decide) (hQ _ _ ⟨_, rfl⟩) (.inl rfl)
        · cases h
      · split at h
        · rename_i q; cases h; obtain ⟨t, rfl⟩ := ra
          refine floordiv_int (by omega) (hQ _ _ ⟨_, rfl⟩) (.inl ?_)
          unfold Builtin.divisionGoesByPylong
          simp only
          have hy : y ≠ 0 := by omega
          have : y.natAbs.log2 < 512 := (Nat.log2_lt (by omega)).mpr q.2.2
          have : ¬ ((if (y == 0) = true then 0 else y.natAbs.log2 / 30 + 1) > 300) := by split <;> omega
          rw [decide_eq_false this]; rfl
        · cases h
      · cases h
    · cases h
  · split at h
    · rename_i y q0
      obtain ⟨u, rfl⟩ := intOf_ok q0 rb
      unfold modA at h
      split at h
      · split at h
        · rename_i q; cases h; obtain ⟨t, rfl⟩ := ra
          have q := of_decide_eq_true q; subst q
          exact mod_int' (by decide) (hQ _ _ ⟨_, rfl⟩)
        · cases h
      · split at h
        · rename_i q; cases h; obtain ⟨t, rfl⟩ := ra
          have q := of_decide_eq_true q; subst q
          exact mod_int' (by decide) (hQ _ _ ⟨_, rfl⟩)
        · cases h
      · split at h
        · rename_i q; cases h; obtain ⟨t, rfl⟩ := ra
          exact mod_int' (by omega) (hQ _ _ ⟨_, rfl⟩)
        · cases h
      · cases h
    · cases h
  · split at h
    · rename_i q0
      obtain ⟨⟨t, rfl⟩, u, rfl⟩ := twoI_ok q0 ra rb
      split at h
      · rename_i q; cases h
        exact ariA_ok q fun tk u => hQ _ tk ⟨u, rfl⟩
      · cases h
    · cases h
theorem truthyA_ok {v : AV} {b : Bool} {vv : Value} {Q : Bool → Shared → Prop} (h : truthyA hp v = some b) (r : RV κ as v vv) (hQ : Q b s) : wpAny (model prog w) A (truthy vv) Q E s := by
  unfold truthyA at h
  split at h
  · cases h; cases r; exact truthy_none hQ
  · cases h; cases r; exact wpAny_truthy_bool hQ
  · cases h; obtain ⟨t, rfl⟩ := r
    exact truthy_int hQ
  · cases h
theorem iaddA_ok {op : Operator} {a b v : AV} {va vb : Value} {Q : Value → Shared → Prop} (h : iaddA op a b = some v) (ra : RV κ as a va) (rb : RV κ as b vb)
    (hQ : ∀ vv tk, RV κ as v vv → Q vv { s with toks := tk }) : wpAny (model prog w) A (inplaceOp op va vb) Q E s := by
  unfold iaddA at h
  split at h
  · cases h; obtain ⟨t, rfl⟩ := ra; obtain ⟨u, rfl⟩ := rb
    exact iadd_int (hQ _ _ ⟨_, rfl⟩)
  · cases h; obtain ⟨t, rfl⟩ := ra; obtain ⟨u, rfl⟩ := rb
    exact iadd_int (hQ _ _ ⟨_, by rw [Int.add_assoc]⟩)
  · cases h; obtain ⟨t, rfl⟩ := ra; obtain ⟨u, rfl⟩ := rb
    exact iadd_int (hQ _ _ ⟨_, by rw [Int.add_assoc]⟩)
  · cases h
theorem ltL_iff : ∀ {a b : List Nat}, ltL a b = decide (a < b)
  | a, [] => by cases a <;> simp [ltL]
  | [], _ :: _ => by simp [ltL]
  | a :: x, b :: y => by
    unfold ltL
    rw [ltL_iff (a := x) (b := y)]
    rw [Bool.eq_iff_iff]
    simp [List.cons_lt_cons_iff, Nat.blt_eq]
theorem str_beq (x y : List Nat) : ((⟨⟨x⟩⟩ : Str) == ⟨⟨y⟩⟩) = eqL x y := by
  rw [Bool.eq_iff_iff, eqL_iff, beq_iff_eq]; simp
theorem str_bne (x y : List Nat) : ((⟨⟨x⟩⟩ : Str) != ⟨⟨y⟩⟩) = !eqL x y := by
  show (!((⟨⟨x⟩⟩ : Str) == ⟨⟨y⟩⟩)) = _
  rw [str_beq]
theorem ltLen_ok (K : Kw κ W) {k : Int} {b : Bool} (h : ltLen W k = some b) : decide (Int.ofNat κ.p + k < Int.ofNat κ.T.length) = b := by
  obtain ⟨r, hr, hf⟩ := K.win
  have hp := K.ple
  have hl : κ.T.length - κ.p = W.cs.length + r.length := by rw [← List.length_drop, hr, List.length_append]
  unfold ltLen at h
  split at h
  · split at h
    · rename_i q; cases h
      have := nblt q
      simp; omega
    · rename_i q
      have q : ¬ _ := fun e => by rw [Nat.blt_eq.mpr e] at q; cases q
      split at h
      · rename_i q2; cases h
        have := hf q2; subst this
        simp at hl ⊢; omega
      · cases h
  · cases h
theorem hasI_any : ∀ (i : Int) (l : List Int), hasI i l = l.any (fun x => x == i)
  | i, [] => rfl
  | i, j :: r => by
    unfold hasI
    rw [hasI_any i r, List.any_cons]
    by_cases e : j = i
    · simp [e]
    · have : (j == i) = false := by simpa using e
      simp [e, this]
theorem hasS_any : ∀ (x : List Nat) (l : List (List Nat)), hasS x l = l.any (fun y => eqL y x)
  | i, [] => rfl
  | i, j :: r => by
    unfold hasS
    rw [hasS_any i r, List.any_cons]
    cases eqL j i <;> rfl
theorem intsA_ok : ∀ {vs : List AV} {l : List Int} {vvs : List Value}, intsA vs = some l → All2 (RV κ as) vs vvs → IntsAre vvs l
  | [], l, vvs, h, r => by cases h; cases r; exact .nil
  | v :: vs, l, vvs, h, r => by
    obtain ⟨b, y, rfl, hb, hr⟩ := r.inv1
    unfold intsA at h
    split at h
    · rename_i e; cases e
    · rename_i e
      split at h
      · rename_i q; cases h; cases e
        obtain ⟨t, rfl⟩ := hb
        exact .cons _ _ (intsA_ok q hr)
      · cases h
    · cases h
theorem strsA_ok : ∀ {vs : List AV} {l : List (List Nat)} {vvs : List Value}, strsA vs = some l → All2 (RV κ as) vs vvs → StrsAre vvs (l.map fun x => ⟨⟨x⟩⟩)
  | [], l, vvs, h, r => by cases h; cases r; exact .nil
  | v :: vs, l, vvs, h, r => by
    obtain ⟨b, y, rfl, hb, hr⟩ := r.inv1
    unfold strsA at h
    split at h
    · rename_i e; cases e
    · rename_i e
      split at h
      · rename_i q; cases h; cases e
        obtain ⟨t, rfl⟩ := hb
        exact .cons _ _ (strsA_ok q hr)
      · cases h
    · cases h
section
variable {h₀ : Heap} {L : Addr} {m : Str → Option Value} {ext news : List (Addr × Obj)}
theorem seqK_ok (TO : TabOk D w (KK w.params)) (B : Bs w h₀) (a : At κ hp h₀ L m ext news s.heap) {v : AV} {b : Bool} {vs : List AV} {vv : Value} (h : seqK D hp v = some (b, vs)) (r : RV κ (adr news) v vv) :
    ∃ x items, vv = .ref x ∧ All2 (RV κ (adr news)) vs items.toList ∧ (b = true → s.heap.IsList x items) ∧ (b = false → IsTup s.heap x items) := by
  unfold seqK at h
  split at h
  · rename_i i
    split at h
    · rename_i o e
      obtain ⟨x, ob, e1, hx, ro, e2⟩ := a.led.get e
      obtain ⟨x', hx', rfl⟩ := r
      have : x' = x := by rw [e2] at hx'; exact (Option.some.inj hx').symm
      subst this
      unfold seqAO at h
      split at h
      · cases h
        obtain ⟨its, n, rfl, r2⟩ := ro
        exact ⟨x', its, rfl, r2, fun _ => ⟨_, hx, rfl, n, rfl⟩, fun z => (by cases z)⟩
      · cases h
        obtain ⟨its, n, rfl, r2⟩ := ro
        exact ⟨x', its, rfl, r2, fun z => (by cases z), fun _ => ⟨_, hx, rfl, n, rfl⟩⟩
      · cases h
    · cases h
  · rename_i t
    split at h
    · rename_i o e
      obtain ⟨ob, items, n, hl, hc, hd, r2⟩ := TO.tops t o b vs e h
      have hg := a.fr.keep _ _ (B.X _ _ hl)
      cases r
      refine ⟨t, items, rfl, r2 _ _, fun z => ?_, fun z => ?_⟩
      · subst z; exact ⟨ob, hg, hc, n, hd⟩
      · subst z; exact ⟨ob, hg, hc, n, hd⟩
    · cases h
  · cases h
theorem fits_not {ks : List (List Nat)} {x r : List Nat} (h : fits ks x = false) : hasS (x ++ r) ks = false := by
  rw [hasS_any]
  unfold fits at h
  rw [List.any_eq_false] at h ⊢
  intro k hk e
  refine h k hk ?_
  rw [eqL_iff] at e
  subst e
  have : ∀ (a b : List Nat), isPrefixOfL a (a ++ b) = true := by
    intro a
    induction a with
    | nil => intro b; rfl
    | cons c a ih => intro b; simp [isPrefixOfL, ih]
  exact this x r
theorem any_strs (x : List Nat) (l : List (List Nat)) : ((l.map fun x => (⟨⟨x⟩⟩ : Str)).any fun y => y == (⟨⟨x⟩⟩ : Str)) = hasS x l := by
  rw [hasS_any, List.any_map]
  congr 1
  funext y
  exact str_beq y x
theorem inA_ok (TO : TabOk D w (KK w.params)) (B : Bs w h₀) (a : At κ hp h₀ L m ext news s.heap) {x y : AV} {b : Bool} {vx vy : Value} {Q : Value → Shared → Prop}
    (h : inA D hp x y = some b) (rx : RV κ (adr news) x vx) (ry : RV κ (adr news) y vy) (hQ : ∀ tk, Q (.bool b) { s with toks := tk }) : wpAny (model prog w) A (compareOp .In vx vy) Q E s := by
  unfold inA at h
  split at h
  · split at h
    · rename_i e
      split at h
      · rename_i q; cases h
        obtain ⟨z, items, rfl, r2, hl, ht⟩ := seqK_ok TO B a e ry
        obtain ⟨t, rfl⟩ := rx
        have ia := intsA_ok q r2
        rename_i bb _ _ _
        cases bb with
        | true => exact in_list_ints (vs := items.toList) (by simpa using hl rfl) ia (by rw [← hasI_any]; exact hQ _)
        | false => exact in_tuple_ints (ht rfl) ia (by rw [← hasI_any]; exact hQ _)
      · cases h
    · cases h
  · rename_i x0 t0
    split at h
    · rename_i q; cases h
      have q := Nat.eq_of_beq_eq_true q; subst q
      obtain ⟨es, n, hl, hk, hs, hall⟩ := TO.punct
      obtain ⟨t, rfl⟩ := rx
      cases ry
      obtain ⟨r, hr, hrs⟩ := hall ⟨⟨x0⟩⟩
      exact topIn_K a.fr B.X hl hk hr hs (by rw [hrs]; exact hQ _)
    · split at h
      · rename_i e
        split at h
        · rename_i q; cases h
          obtain ⟨z, items, rfl, r2, hl, ht⟩ := seqK_ok TO B a e ry
          obtain ⟨t, rfl⟩ := rx
          refine in_list_strs (vs := items.toList) (by simpa using hl rfl) (strsA_ok q r2) ?_
          rw [any_strs]
          exact hQ _
        · cases h
      · cases h
  · rename_i x0 t0
    split at h
    · rename_i q
      split at h
      · cases h
      · rename_i q2; cases h
        have q := Nat.eq_of_beq_eq_true q; subst q
        obtain ⟨es, n, hl, hk, hs, hall⟩ := TO.punct
        obtain ⟨rr, t, rfl⟩ := rx
        cases ry
        obtain ⟨r, hr, hrs⟩ := hall ⟨⟨x0 ++ rr⟩⟩
        exact topIn_K a.fr B.X hl hk hr hs (by rw [hrs, fits_not q2]; exact hQ _)
    · cases h
  · cases h
theorem ninA_ok (TO : TabOk D w (KK w.params)) (B : Bs w h₀) (a : At κ hp h₀ L m ext news s.heap) {x y : AV} {b : Bool} {vx vy : Value} {Q : Value → Shared → Prop}
    (h : ninA D hp x y = some b) (rx : RV κ (adr news) x vx) (ry : RV κ (adr news) y vy) (hQ : ∀ tk, Q (.bool b) { s with toks := tk }) : wpAny (model prog w) A (compareOp .NotIn vx vy) Q E s := by
  unfold ninA at h
  split at h
  · split at h
    · rename_i e
      split at h
      · rename_i q; cases h
        obtain ⟨z, items, rfl, r2, hl, ht⟩ := seqK_ok TO B a e ry
        obtain ⟨t, rfl⟩ := rx
        exact notin_tuple_ints (ht rfl) (intsA_ok q r2) (by rw [← hasI_any]; exact hQ _)
      · cases h
    · cases h
  · cases h
end
end
end Mine
namespace Mine
section
variable {prog : Program} {w : World} {A : Around} {E : Value → Shared → Prop} {s : Shared} {κ : Kap} {as : List Addr} {W : Win} {D : Tab} {hp : Hp}
variable {h₀ : Heap} {L : Addr} {m : Str → Option Value} {ext news : List (Addr × Obj)}
theorem eqTA_iff {a b : TA} (h : eqTA a b = true) : a = b := by
  unfold eqTA at h
  split at h
  · rw [Nat.eq_of_beq_eq_true h]
  · rw [Nat.eq_of_beq_eq_true h]
  · rw [eqL_iff.mp h]
  · cases h
theorem eqT_iff : ∀ {a b : List TA}, eqT a b = true → a = b
  | [], [], _ => rfl
  | [], _ :: _, h => by cases h
  | _ :: _, [], h => by cases h
  | a :: x, b :: y, h => by
    unfold eqT at h
    cases q : eqTA a b with
    | true => rw [q] at h; rw [eqTA_iff q, eqT_iff h]
    | false => rw [q] at h; cases h
theorem RVb_same {v : AV} {x y : Value} (hx : RVb v x) (hy : RVb v y) : SeqAt.EqAt A s x y true := by
  cases v with
  | bool b => cases hx; cases hy; exact .same _
  | int i => obtain ⟨t, rfl⟩ := hx; obtain ⟨u, rfl⟩ := hy; have := SeqAt.EqAt.int_int (A := A) (s := s) i t i u; rwa [beq_self_eq_true] at this
  | str i => obtain ⟨t, rfl⟩ := hx; obtain ⟨u, rfl⟩ := hy; have := SeqAt.EqAt.str_str (A := A) (s := s) ⟨⟨i⟩⟩ t ⟨⟨i⟩⟩ u; rwa [beq_self_eq_true] at this
  | _ => exact hx.elim
theorem eqI (i : Int) (t u : Tok) : SeqAt.EqAt A s (.int i t) (.int i u) true := by
  have := SeqAt.EqAt.int_int (A := A) (s := s) i t i u; rwa [beq_self_eq_true] at this
theorem eqSt (i : Str) (t u : Tok) : SeqAt.EqAt A s (.str i t) (.str i u) true := by
  have := SeqAt.EqAt.str_str (A := A) (s := s) i t i u; rwa [beq_self_eq_true] at this
theorem flatSame_ok {a b : AV} {x y : Value} (h : flatSame a b = true) (hx : RV κ as a x) (hy : RV κ as b y) : SeqAt.EqAt A s x y true := by
  unfold flatSame at h
  split at h
  · cases hx; cases hy; have e := beq_iff_eq.mp h; subst e; exact .same _
  · obtain ⟨t, rfl⟩ := hx; obtain ⟨u, rfl⟩ := hy; have e := of_decide_eq_true h; subst e; exact eqI _ _ _
  · obtain ⟨t, rfl⟩ := hx; obtain ⟨u, rfl⟩ := hy; have e := eqL_iff.mp h; subst e; exact eqSt _ _ _
  · obtain ⟨t, rfl⟩ := hx; obtain ⟨u, rfl⟩ := hy; have e := eqT_iff h; subst e; exact eqI _ _ _
  · obtain ⟨t, rfl⟩ := hx; obtain ⟨u, rfl⟩ := hy; have e := eqT_iff h; subst e; exact eqI _ _ _
  · obtain ⟨e1, e2⟩ := Bool.and_eq_true_iff.mp h
    have e1 := Nat.eq_of_beq_eq_true e1; have e2 := Nat.eq_of_beq_eq_true e2; subst e1 e2
    exact RVb_same hx hy
  · cases h
theorem all2_at {f : AV → AV → Bool} : ∀ {x y : List AV}, all2 f x y = true → x.length = y.length ∧ ∀ (j : Nat) (a b : AV), x[j]? = some a → y[j]? = some b → f a b = true
  | [], [], _ => ⟨rfl, fun j a b h => by simp at h⟩
  | [], _ :: _, h => by cases h
  | _ :: _, [], h => by cases h
  | a :: x, b :: y, h => by
    unfold all2 at h
    cases q : f a b with
    | false => rw [q] at h; cases h
    | true =>
      rw [q] at h
      obtain ⟨h1, h2⟩ := all2_at h
      refine ⟨by simp [h1], fun j c d e1 e2 => ?_⟩
      cases j with
      | zero => simp at e1 e2; subst e1 e2; exact q
      | succ j => simp at e1 e2; exact h2 j c d e1 e2
theorem All2.at_r {α β : Type} {R : α → β → Prop} : ∀ {x : List α} {y : List β}, All2 R x y → ∀ {j : Nat} (h1 : j < y.length), ∃ a, x[j]? = some a ∧ R a y[j]
  | _, _, .nil, j, h => by simp at h
  | _, _, .cons h t, 0, _ => ⟨_, rfl, h⟩
  | _, _, .cons h t, j + 1, q => by
    obtain ⟨a, e, r⟩ := All2.at_r t (j := j) (by simpa using q)
    exact ⟨a, by simpa using e, by simpa using r⟩
theorem RO_list (a : At κ hp h₀ L m ext news s.heap) {i : Nat} {x : List AV} (e : hp[i]? = some (.list x)) {v : Value} (r : RV κ (adr news) (.ref i) v) :
    ∃ l items, v = .ref l ∧ s.heap.IsList l items ∧ All2 (RV κ (adr news)) x items.toList := by
  obtain ⟨l, ob, e1, hx, ro, e2⟩ := a.led.get e
  obtain ⟨x', hx', rfl⟩ := r
  have : x' = l := by rw [e2] at hx'; exact (Option.some.inj hx').symm
  subst this
  obtain ⟨its, n, rfl, r2⟩ := ro
  exact ⟨x', its, rfl, ⟨_, hx, rfl, n, rfl⟩, r2⟩
theorem RO_tup (a : At κ hp h₀ L m ext news s.heap) {i : Nat} {x : List AV} (e : hp[i]? = some (.tup x)) {v : Value} (r : RV κ (adr news) (.ref i) v) :
    ∃ l items, v = .ref l ∧ IsTup s.heap l items ∧ All2 (RV κ (adr news)) x items.toList := by
  obtain ⟨l, ob, e1, hx, ro, e2⟩ := a.led.get e
  obtain ⟨x', hx', rfl⟩ := r
  have : x' = l := by rw [e2] at hx'; exact (Option.some.inj hx').symm
  subst this
  obtain ⟨its, n, rfl, r2⟩ := ro
  exact ⟨x', its, rfl, ⟨_, hx, rfl, n, rfl⟩, r2⟩
theorem range_all (n : Nat) : ((List.range n).all fun _ => true) = true := by rw [List.all_eq_true]; intros; rfl
theorem sameA_ok (a : At κ hp h₀ L m ext news s.heap) : ∀ (n : Nat) {x y : AV} {vx vy : Value} {A : Around}, sameA hp n x y = true → RV κ (adr news) x vx → RV κ (adr news) y vy → A.units + n ≤ 9800 → SeqAt.EqAt A s vx vy true
  | 0, _, _, _, _, _, h, _, _, _ => by cases h
  | n + 1, x, y, vx, vy, A, h, hx, hy, hu => by
    have hu' : A.units < cLine := by unfold cLine; omega
    unfold sameA at h
    split at h
    · rename_i i j
      split at h
      · rename_i e1 e2
        obtain ⟨h1, h2⟩ := all2_at h
        obtain ⟨l, its, rfl, hl, r1⟩ := RO_list a e1 hx
        obtain ⟨b, jts, rfl, hb, r2⟩ := RO_list a e2 hy
        by_cases hlb : l = b
        · subst hlb; exact .same _
        · have sz : its.size = jts.size := by have := r1.length; have := r2.length; simp at *; omega
          have := SeqAt.RcAt.lists (A := A) (e := fun _ => true) hl hb sz hu' (fun k k1 k2 => by
            obtain ⟨u, e3, r3⟩ := r1.at_r (j := k) (by simpa using k1)
            obtain ⟨v, e4, r4⟩ := r2.at_r (j := k) (by simpa using k2)
            exact sameA_ok a n (h2 k u v e3 e4) (by simpa using r3) (by simpa using r4) (by show A.units + 1 + n ≤ _; omega))
          rw [range_all] at this
          exact .of_refs hlb this
      · rename_i e1 e2
        obtain ⟨h1, h2⟩ := all2_at h
        obtain ⟨l, its, rfl, hl, r1⟩ := RO_tup a e1 hx
        obtain ⟨b, jts, rfl, hb, r2⟩ := RO_tup a e2 hy
        by_cases hlb : l = b
        · subst hlb; exact .same _
        · have sz : its.size = jts.size := by have := r1.length; have := r2.length; simp at *; omega
          have := SeqAt.RcAt.tuples (A := A) (e := fun _ => true) hl hb hu' (fun k k1 k2 => by
            obtain ⟨u, e3, r3⟩ := r1.at_r (j := k) (by simpa using k1)
            obtain ⟨v, e4, r4⟩ := r2.at_r (j := k) (by simpa using k2)
            exact sameA_ok a n (h2 k u v e3 e4) (by simpa using r3) (by simpa using r4) (by show A.units + 1 + n ≤ _; omega))
          rw [range_all, sz, beq_self_eq_true, Bool.and_self] at this
          exact .of_refs hlb this
      · cases h
    · exact flatSame_ok h hx hy
theorem att_not_end (κ : Kap) (k : Nat) : ∃ x, attV κ 0 k = .str x ∧ eqL x [101, 110, 100] = false := by
  unfold attV
  split <;> first | exact ⟨_, rfl, rfl⟩ | (exfalso; omega) | (rename_i e _; cases e) | (rename_i e _ _; cases e) | (rename_i e; cases e) | (exfalso; simp_all; done) | (exfalso; omega)
theorem isNoneA_ok {v : AV} {as : List Addr} {vv : Value} (h : isNoneA v = true) (r : RV κ as v vv) : vv = .none := by
  unfold isNoneA at h
  split at h
  · exact r
  · cases h
theorem neA_ok (a : At κ hp h₀ L m ext news s.heap) (hu : A.units ≤ 9000) {x y : AV} {b : Bool} {vx vy : Value} {Q : Value → Shared → Prop}
    (h : neA hp x y = some b) (rx : RV κ (adr news) x vx) (ry : RV κ (adr news) y vy) (hQ0 : Q (.bool b) s) : wpAny (model prog w) A (compareOp .NotEq vx vy) Q E s := by
  unfold neA at h
  split at h
  · cases h; obtain ⟨t, rfl⟩ := rx; obtain ⟨u, rfl⟩ := ry; exact ne_int hQ0
  · cases h; obtain ⟨t, rfl⟩ := rx; obtain ⟨u, rfl⟩ := ry
    exact ne_str (by rw [str_bne]; exact hQ0)
  · rename_i j k z
    split at h
    · rename_i q1 q2; cases h
      have q1 := Nat.eq_of_beq_eq_true q1; subst q1
      obtain ⟨x0, e0, e1⟩ := att_not_end κ k
      have rx : RVb (attV κ 0 k) vx := rx
      rw [e0] at rx
      obtain ⟨t, rfl⟩ := rx; obtain ⟨u, rfl⟩ := ry
      rw [eqL_iff] at q2; subst q2
      exact ne_str (by rw [str_bne, e1]; exact hQ0)
    · cases h
  · rename_i i j
    split at h
    · rename_i e1 e2
      split at h
      · rename_i q; cases h
        have h2 := all2_at q
        obtain ⟨l, its, rfl, hl, r1⟩ := RO_list a e1 rx
        obtain ⟨b, jts, rfl, hb, r2⟩ := RO_list a e2 ry
        have sz : its.size = jts.size := by have := r1.length; have := r2.length; simp at *; omega
        have := SeqAt.RcNeAt.lists (A := A) (e := fun _ => true) hl hb sz (by unfold cLine; omega) (fun k k1 k2 => by
          obtain ⟨u, e3, r3⟩ := r1.at_r (j := k) (by simpa using k1)
          obtain ⟨v, e4, r4⟩ := r2.at_r (j := k) (by simpa using k2)
          exact sameA_ok a 2 (h2.2 k u v e3 e4) (by simpa using r3) (by simpa using r4) (by show A.units + 1 + 2 ≤ _; omega))
        rw [range_all] at this
        exact this prog w E Q hQ0
      · cases h
    · cases h
  · cases h
theorem isA_ok {x : AV} {b : Bool} {as : List Addr} {vx : Value} (h : isA x = some b) (rx : RV κ as x vx) :
    (∀ {R : Value → Shared → Prop}, R (.bool b) s → wpAny (model prog w) A (compareOp .Is vx .none) R E s) ∧ ∀ {R : Value → Shared → Prop}, R (.bool !b) s → wpAny (model prog w) A (compareOp .IsNot vx .none) R E s := by
  unfold isA at h
  split at h
  · cases h; cases rx; exact ⟨fun q => is_none_none q, fun q => isnot_none_none q⟩
  · cases h; cases rx; exact ⟨fun q => is_none_ne (by intro e; cases e) q, fun q => isnot_none_ne (by intro e; cases e) q⟩
  · cases h; obtain ⟨t, rfl⟩ := rx; exact ⟨fun q => is_none_ne (by intro e; cases e) q, fun q => isnot_none_ne (by intro e; cases e) q⟩
  · cases h; obtain ⟨t, rfl⟩ := rx; exact ⟨fun q => is_none_ne (by intro e; cases e) q, fun q => isnot_none_ne (by intro e; cases e) q⟩
  · cases h; obtain ⟨t, _, rfl⟩ := rx; exact ⟨fun q => is_none_ne (by intro e; cases e) q, fun q => isnot_none_ne (by intro e; cases e) q⟩
  · cases h
theorem cmpA_ok (TO : TabOk D w (KK w.params)) (B : Bs w h₀) (KW : Kw κ W) (a : At κ hp h₀ L m ext news s.heap) (hu : A.units ≤ 9000) {op : CmpOp} {x y : AV} {b : Bool} {vx vy : Value} {Q : Value → Shared → Prop}
    (h : cmpA D W hp op x y = some b) (rx : RV κ (adr news) x vx) (ry : RV κ (adr news) y vy) (hQ : ∀ tk, Q (.bool b) { s with toks := tk }) : wpAny (model prog w) A (compareOp op vx vy) Q E s := by
  have hQ0 : Q (.bool b) s := hQ s.toks
  have e1 : ∀ p q r : Int, decide (p + q < p + r) = decide (q < r) := fun p q r => by simp
  cases op with
  | Eq =>
    have h : eqA x y = some b := h
    unfold eqA at h
    split at h
    · cases h; obtain ⟨t, rfl⟩ := rx; obtain ⟨u, rfl⟩ := ry; exact eq_int hQ0
    · cases h; obtain ⟨t, rfl⟩ := rx; obtain ⟨u, rfl⟩ := ry
      exact eq_str (by rw [str_beq]; exact hQ0)
    · cases h
  | NotEq => exact neA_ok a hu h rx ry hQ0
  | Lt =>
    have h : ltA W x y = some b := h
    unfold ltA at h
    split at h
    · cases h; obtain ⟨t, rfl⟩ := rx; obtain ⟨u, rfl⟩ := ry; exact lt_int hQ0
    · obtain ⟨t, rfl⟩ := rx; obtain ⟨u, rfl⟩ := ry
      refine lt_int ?_
      rw [ltLen_ok KW h]; exact hQ0
    · cases h
  | LtE =>
    have h : leA x y = some b := h
    unfold leA at h
    split at h
    · cases h; obtain ⟨t, rfl⟩ := rx; obtain ⟨u, rfl⟩ := ry; exact le_int hQ0
    · cases h; obtain ⟨t, rfl⟩ := rx; obtain ⟨u, rfl⟩ := ry
      refine P.le_str ?_
      show Q (.bool !decide (_ < _)) s
      rw [← ltL_iff]; exact hQ0
    · cases h
  | Gt =>
    have h : gtA x y = some b := h
    unfold gtA at h
    split at h
    · cases h; obtain ⟨t, rfl⟩ := rx; obtain ⟨u, rfl⟩ := ry; exact gt_int hQ0
    · cases h; obtain ⟨t, rfl⟩ := rx; obtain ⟨u, rfl⟩ := ry
      refine gt_int ?_
      rw [e1]; exact hQ0
    · cases h; obtain ⟨t, rfl⟩ := rx; obtain ⟨u, rfl⟩ := ry
      refine gt_int ?_
      rw [e1]; exact hQ0
    · cases h
  | GtE =>
    have h : geA W x y = some b := h
    unfold geA at h
    split at h
    · cases h; obtain ⟨t, rfl⟩ := rx; obtain ⟨u, rfl⟩ := ry; exact ge_int hQ0
    · split at h
      · rename_i q; cases h; obtain ⟨t, rfl⟩ := rx; obtain ⟨u, rfl⟩ := ry
        refine ge_int ?_
        have e : ∀ p q : Int, decide (q ≤ p) = !decide (p < q) := fun p q => by
          by_cases h : p < q
          · simp [h]
          · simp [h]; omega
        rw [e, ltLen_ok KW q]; exact hQ0
      · cases h
    · cases h
  | In => exact inA_ok TO B a h rx ry hQ
  | NotIn => exact ninA_ok TO B a h rx ry hQ
  | Is =>
    have h : (match isNoneA y with | true => isA x | false => Option.none) = some b := h
    split at h
    · rename_i q
      obtain rfl := isNoneA_ok q ry
      exact (isA_ok h rx).1 hQ0
    · cases h
  | IsNot =>
    have h : (match isNoneA y with | true => (match isA x with | some c => some (!c) | _ => Option.none) | false => Option.none) = some b := h
    split at h
    · rename_i q
      obtain rfl := isNoneA_ok q ry
      split at h
      · rename_i q2; cases h
        exact (isA_ok q2 rx).2 hQ0
      · cases h
    · cases h
end
end Mine
namespace Mine
section
variable {prog : Program} {w : World} {A : Around} {E : Value → Shared → Prop} {s : Shared} {κ : Kap} {as : List Addr} {W : Win} {D : Tab} {hp : Hp}
variable {h₀ : Heap} {L : Addr} {m : Str → Option Value} {ext news : List (Addr × Obj)} {value slice : Expr}
/-! texts -/
noncomputable def notSlice : Expr → Bool
  | .Slice .. => false
  | _ => true
noncomputable def nm0 : Expr := .Name Str.empty ⟨0, 0, 0, 0⟩
theorem subscripted_item (h : notSlice slice = true) (o i : Value) : subscripted slice false o i = operate [o, i] (getItem o i) := by
  cases slice <;> first | rfl | cases h
theorem getD_eq {α : Type} {l : List α} {k : Nat} {d : α} : l.getD k d = (l[k]?).getD d := by simp
theorem item_text_ok (KW : Kw κ W) (hs : notSlice slice = true) {k : Nat} {c : Nat} (h : W.cs[k]? = some c) {t u : Tok} {Q : Value → Shared → Prop}
    (hQ : ∀ vv tk, RV κ as (.str [c]) vv → Q vv { s with toks := tk }) :
    wpAny (model prog w) A (subscriptTail value slice (.str ⟨⟨κ.T⟩⟩ t) (.int (Int.ofNat κ.p + Int.ofNat k) u)) Q E s := by
  obtain ⟨r, hr, _⟩ := KW.win
  have hk := (List.getElem?_eq_some_iff.mp h).1
  have hp := KW.ple
  have hsh := KW.short
  have hl : κ.T.length - κ.p = W.cs.length + r.length := by rw [← List.length_drop, hr, List.length_append]
  have hT : κ.T[κ.p + k]? = some c := by
    have : (κ.T.drop κ.p)[k]? = some c := by rw [hr, List.getElem?_append_left hk]; exact h
    rwa [List.getElem?_drop] at this
  refine kba_turn (value' := nm0) (fun _ => rfl) (subscriptTail_builtin (T := "str") (id := "str.__getitem__") (typeIs_str _ _ _) (by exact F.slot_str_getitem.lookup) ?_ (subscripted_item hs _ _) (fun _ => rfl))
  refine getItem_str (c := c) ?_ ?_ (hQ _ _ ⟨_, rfl⟩)
  · simp; constructor <;> omega
  · have e : seqIndex? (Int.ofNat κ.p + Int.ofNat k) (⟨⟨κ.T⟩⟩ : Str).length = some (κ.p + k) := by
      unfold seqIndex?
      rw [str_length]
      have h1 : ¬ (Int.ofNat κ.p + Int.ofNat k < 0) := by simp; omega
      simp only [h1, if_false]
      have h2 : (decide (0 ≤ Int.ofNat κ.p + Int.ofNat k) && decide (Int.ofNat κ.p + Int.ofNat k < (κ.T.length : Int))) = true := by simp; omega
      rw [if_pos h2]
      congr 1
    rw [e]
    show (⟨κ.T⟩ : Array Nat)[κ.p + k]? = some c
    simpa using hT
theorem item_str_ok (hs : notSlice slice = true) {x : List Nat} {k : Nat} {c : Nat} (h : x[k]? = some c) (hx : k < 1000000) {t u : Tok} {Q : Value → Shared → Prop}
    (hQ : ∀ vv tk, RV κ as (.str [c]) vv → Q vv { s with toks := tk }) :
    wpAny (model prog w) A (subscriptTail value slice (.str ⟨⟨x⟩⟩ t) (.int (Int.ofNat k) u)) Q E s := by
  have hk := (List.getElem?_eq_some_iff.mp h).1
  refine kba_turn (value' := nm0) (fun _ => rfl) (subscriptTail_builtin (T := "str") (id := "str.__getitem__") (typeIs_str _ _ _) (by exact F.slot_str_getitem.lookup) ?_ (subscripted_item hs _ _) (fun _ => rfl))
  refine getItem_str (c := c) ?_ ?_ (hQ _ _ ⟨_, rfl⟩)
  · rw [Bool.or_eq_false_iff]
    exact ⟨decide_eq_false (show ¬ ((k : Int) < -2 ^ 63) by omega), decide_eq_false (show ¬ ((k : Int) ≥ 2 ^ 63) by omega)⟩
  · have e : seqIndex? (Int.ofNat k) (⟨⟨x⟩⟩ : Str).length = some k := by
      unfold seqIndex?
      rw [str_length]
      have h1 : ¬ (Int.ofNat k < 0) := by simp
      simp only [h1, if_false]
      have h2 : (decide (0 ≤ Int.ofNat k) && decide (Int.ofNat k < (x.length : Int))) = true := by
        rw [Bool.and_eq_true_iff, decide_eq_true_iff, decide_eq_true_iff]
        exact ⟨Int.natCast_nonneg k, Int.ofNat_lt.mpr hk⟩
      rw [if_pos h2]
      congr 1
    rw [e]
    show (⟨x⟩ : Array Nat)[k]? = some c
    simpa using h
theorem slice_nat {x : List Nat} {i j : Nat} (h1 : i ≤ j) (h2 : i ≤ x.length) : Txt.slice ⟨⟨x⟩⟩ (some (Int.ofNat i)) (some (Int.ofNat j)) = ⟨⟨(x.drop i).take (j - i)⟩⟩ := by
  have e1 : Txt.slice ⟨⟨x⟩⟩ (some (Int.ofNat i)) (some (Int.ofNat j)) = Txt.slice ⟨⟨x⟩⟩ (some (Int.ofNat i)) (some (Int.ofNat (min j x.length))) := by
    have : Builtin.Str.strSliceIndices (some (Int.ofNat i)) (some (Int.ofNat j)) 1 (⟨⟨x⟩⟩ : Str).length = Builtin.Str.strSliceIndices (some (Int.ofNat i)) (some (Int.ofNat (min j x.length))) 1 (⟨⟨x⟩⟩ : Str).length := by
      unfold Builtin.Str.strSliceIndices
      rw [str_length]
      have a1 : ¬ (Int.ofNat i < 0) := by simp
      have a2 : ¬ (Int.ofNat j < 0) := by simp
      have a3 : ¬ (Int.ofNat (min j x.length) < 0) := by simp
      have a4 : (1 : Int) > 0 := by decide
      simp only [a1, a2, a3, a4, if_true, if_false]
      congr 1
      simp; omega
    unfold Txt.slice
    rw [this]
  have e2 := beq_iff_eq.mp (slice_closes (x := ⟨⟨x⟩⟩) (i := Int.ofNat i) (j := Int.ofNat (min j x.length)) ⟨by simp, by simp; try omega, by show Int.ofNat _ ≤ (x.length : Int); simp; try omega⟩)
  rw [e1, e2]
  show (⟨((x.drop (Int.ofNat i).toNat).take (Int.ofNat (min j x.length) - Int.ofNat i).toNat).toArray⟩ : Str) = _
  have e3 : (Int.ofNat (min j x.length) - Int.ofNat i).toNat = min j x.length - i := by simp; try omega
  have e4 : (Int.ofNat i).toNat = i := rfl
  rw [e3, e4]
  have : (x.drop i).take (min j x.length - i) = (x.drop i).take (j - i) := by
    by_cases h : j ≤ x.length
    · rw [Nat.min_eq_left h]
    · rw [Nat.min_eq_right (by omega), List.take_of_length_le (by simp), List.take_of_length_le (by simp; omega)]
  rw [this]
theorem sliceA_ok (KW : Kw κ W) {i j : Int} {v : AV} (h : sliceA W i j = some v) (t : Tok) :
    RV κ as v (.str (Txt.slice ⟨⟨κ.T⟩⟩ (some (Int.ofNat κ.p + i)) (some (Int.ofNat κ.p + j))) t) := by
  obtain ⟨r, hr, hf⟩ := KW.win
  have hp := KW.ple
  have hl : κ.T.length - κ.p = W.cs.length + r.length := by rw [← List.length_drop, hr, List.length_append]
  unfold sliceA at h
  split at h
  · rename_i i j
    split at h
    · cases h
    · rename_i q
      obtain ⟨q1, q2⟩ := Bool.and_eq_true_iff.mp q
      have q1 := Nat.le_of_ble_eq_true q1
      have q2 := Nat.le_of_ble_eq_true q2
      have e : Txt.slice ⟨⟨κ.T⟩⟩ (some (Int.ofNat κ.p + Int.ofNat i)) (some (Int.ofNat κ.p + Int.ofNat j)) = ⟨⟨(W.cs.drop i ++ r).take (j - i)⟩⟩ := by
        have := slice_nat (x := κ.T) (i := κ.p + i) (j := κ.p + j) (by omega) (by omega)
        have d : κ.T.drop (κ.p + i) = W.cs.drop i ++ r := by
          rw [← List.drop_drop, hr, List.drop_append_of_le_length q2]
        rw [d] at this
        have s : κ.p + j - (κ.p + i) = j - i := by omega
        rw [s] at this
        exact this
      rw [e]
      split at h
      · rename_i q3; cases h
        refine ⟨t, ?_⟩
        rcases Bool.or_eq_true_iff.mp q3 with q3 | q3
        · have q3 := Nat.le_of_ble_eq_true q3
          rw [List.take_append_of_le_length (by simp; omega)]
        · rw [hf q3, List.append_nil]
      · rename_i q3; cases h
        have q3 : ¬ j ≤ W.cs.length := fun z => by
          rw [Nat.ble_eq.mpr z] at q3; cases q3
        refine ⟨r.take (j - i - (W.cs.drop i).length), t, ?_⟩
        rw [List.take_append, List.take_of_length_le (by simp; omega)]
  · cases h
theorem isPrefix_iff : ∀ {a b : List Nat}, isPrefixOfL a b = true ↔ a <+: b
  | [], b => by simp [isPrefixOfL]
  | _ :: _, [] => by simp [isPrefixOfL]
  | a :: x, b :: y => by
    unfold isPrefixOfL
    rw [Bool.and_eq_true_iff, isPrefix_iff (a := x) (b := y), List.cons_prefix_cons]
    simp [Nat.beq_eq]
theorem startsA_ok (KW : Kw κ W) {x : List Nat} {k : Int} {b : Bool} (h : startsA W x k = some b) {t u v : Tok} {Q : Value → Shared → Prop} (hQ : Q (.bool b) s) :
    wpAny (model prog w) A (call (.builtin "str.startswith") [.str ⟨⟨κ.T⟩⟩ t, .str ⟨⟨x⟩⟩ u, .int (Int.ofNat κ.p + k) v]) Q E s := by
  obtain ⟨r, hr, hf⟩ := KW.win
  have hp := KW.ple
  have hl : κ.T.length - κ.p = W.cs.length + r.length := by rw [← List.length_drop, hr, List.length_append]
  refine call_gives F.slot_str_startswith (typeIs_str _ _ _) F.entry_str_startswith (F.args_str_startswith_3 _ _ _) (gives_str_startswith_from _ _ _ t u v) ?_
  unfold startsA at h
  split at h
  · rename_i n
    split at h
    · cases h
    · rename_i q
      have q := Nat.le_of_ble_eq_true q
      have e1 : fromIndex (⟨⟨κ.T⟩⟩ : Str).length (Int.ofNat κ.p + Int.ofNat n) = κ.p + n := by
        unfold fromIndex
        have h1 : ¬ (Int.ofNat κ.p + Int.ofNat n < 0) := by simp; omega
        rw [if_neg h1]
        simp; omega
      have d : κ.T.drop (κ.p + n) = W.cs.drop n ++ r := by
        rw [← List.drop_drop, hr, List.drop_append_of_le_length q]
      have e2 : (decide (κ.p + n + (⟨⟨x⟩⟩ : Str).length ≤ (⟨⟨κ.T⟩⟩ : Str).length) && Builtin.Str.subAt ⟨⟨κ.T⟩⟩ ⟨⟨x⟩⟩ (κ.p + n)) = isPrefixOfL x (W.cs.drop n ++ r) := by
        rw [Bool.eq_iff_iff, isPrefix_iff, Bool.and_eq_true_iff, decide_eq_true_iff, str_length, str_length]
        unfold Builtin.Str.subAt
        rw [beq_iff_eq, str_length, ← d]
        have e3 : (⟨κ.T⟩ : Array Nat).extract (κ.p + n) (κ.p + n + x.length) = ⟨(κ.T.drop (κ.p + n)).take x.length⟩ := by
          simp [List.extract_eq_take_drop]
        show _ ∧ (⟨κ.T⟩ : Array Nat).extract (κ.p + n) (κ.p + n + x.length) = ⟨x⟩ ↔ _
        rw [e3]
        constructor
        · rintro ⟨_, h⟩
          have h : (κ.T.drop (κ.p + n)).take x.length = x := congrArg Array.toList h
          exact ⟨_, by conv => lhs; lhs; rw [← h]
                       exact List.take_append_drop _ _⟩
        · rintro ⟨y, h⟩
          refine ⟨?_, ?_⟩
          · have := congrArg List.length h
            simp at this; omega
          · rw [← h, List.take_append_of_le_length (Nat.le_refl _), List.take_length]
      show Q (.bool (decide (fromIndex (⟨⟨κ.T⟩⟩ : Str).length (Int.ofNat κ.p + Int.ofNat n) + (⟨⟨x⟩⟩ : Str).length ≤ (⟨⟨κ.T⟩⟩ : Str).length) && Builtin.Str.subAt ⟨⟨κ.T⟩⟩ ⟨⟨x⟩⟩ (fromIndex (⟨⟨κ.T⟩⟩ : Str).length (Int.ofNat κ.p + Int.ofNat n)))) s
      rw [e1, e2]
      split at h
      · rename_i q2; cases h
        have : isPrefixOfL x (W.cs.drop n ++ r) = true := by
          rw [isPrefix_iff] at q2 ⊢
          exact q2.trans (List.prefix_append _ _)
        rw [this]; exact hQ
      · rename_i q2
        split at h
        · rename_i q3; cases h
          have : isPrefixOfL x (W.cs.drop n ++ r) = false := by
            cases q4 : isPrefixOfL x (W.cs.drop n ++ r) with
            | false => rfl
            | true =>
              rw [isPrefix_iff] at q4
              rcases Bool.or_eq_true_iff.mp q3 with q3 | q3
              · rw [hf q3, List.append_nil, ← isPrefix_iff, q2] at q4; cases q4
              · have q5 : ¬ isPrefixOfL (W.cs.drop n) x = true := by simpa using q3
                rw [isPrefix_iff] at q5
                rcases Nat.le_total x.length (W.cs.drop n).length with hle | hle
                · have := List.prefix_of_prefix_length_le q4 (List.prefix_append _ _) hle
                  rw [← isPrefix_iff, q2] at this; cases this
                · exact absurd (List.prefix_of_prefix_length_le (List.prefix_append _ _) q4 hle) q5
          rw [this]; exact hQ
        · cases h
  · cases h
end
end Mine
namespace Mine
section
variable {prog : Program} {w : World} {A : Around} {E : Value → Shared → Prop} {s : Shared} {κ : Kap} {as : List Addr} {W : Win} {D : Tab} {hp hp' : Hp}
variable {h₀ : Heap} {L : Addr} {m : Str → Option Value} {ext news : List (Addr × Obj)} {value slice : Expr}
theorem item_list_ok {l : Addr} {items : Array Value} (hl : s.heap.IsList l items) (hs : notSlice slice = true) {k : Int} {x : Value} (h0 : 0 ≤ k) (h1 : k < 2 ^ 63) (h : items[k.toNat]? = some x) {u : Tok} {Q : Value → Shared → Prop} (hQ : Q x s) :
    wpAny (model prog w) A (subscriptTail value slice (.ref l) (.int k u)) Q E s :=
  kba_turn (value' := nm0) (fun _ => rfl) (subscriptTail_builtin hl.typeIs list_getitem_lookup (wpAny_getItem_list hl h0 h1 h hQ) (subscripted_item hs _ _) (fun _ => rfl))
theorem item_tup_ok {l : Addr} {items : Array Value} (hl : IsTup s.heap l items) (hs : notSlice slice = true) {k : Nat} {x : Value} (h1 : k < 1000) (h : items[k]? = some x) {u : Tok} {Q : Value → Shared → Prop} (hQ : Q x s) :
    wpAny (model prog w) A (subscriptTail value slice (.ref l) (.int (Int.ofNat k) u)) Q E s := by
  have hk : k < items.size := (Array.getElem?_eq_some_iff.mp h).1
  refine kba_turn (value' := nm0) (fun _ => rfl) (item_tuple hl ?_ ?_ (j := k) ?_ h hQ (subscripted_item hs _ _) (fun _ => rfl))
  · show (-(2 ^ 63) : Int) ≤ (k : Int); omega
  · show (k : Int) < 2 ^ 63; omega
  · unfold seqIndex?
    have h1 : ¬ (Int.ofNat k < 0) := by simp
    simp only [h1, if_false]
    have h2 : (decide (0 ≤ Int.ofNat k) && decide (Int.ofNat k < (items.size : Int))) = true := by
      rw [Bool.and_eq_true_iff, decide_eq_true_iff, decide_eq_true_iff]
      exact ⟨Int.natCast_nonneg k, Int.ofNat_lt.mpr hk⟩
    rw [if_pos h2]
    rfl
theorem eqSs_ok : ∀ {vs : List AV} {t : List (List Nat)}, eqSs vs t = true → vs = t.map AV.str
  | [], [], _ => rfl
  | [], _ :: _, h => by cases h
  | v :: _, [], h => by cases v <;> cases h
  | v :: vs, t :: ts, h => by
    unfold eqSs at h
    split at h
    · rename_i e; cases e
    · rename_i e1 e2
      cases e1; cases e2
      split at h
      · rename_i q; rw [eqL_iff.mp q, List.map_cons, eqSs_ok h]
      · cases h
    · cases h
theorem gOf_range (κ : Kap) (k : Nat) : 0 ≤ gOf κ k ∧ gOf κ k < 5 := by
  unfold gOf
  exact ⟨Int.fmod_nonneg_of_pos _ (by decide), Int.fmod_lt_of_pos _ (by decide)⟩
theorem tOf_range (κ : Kap) (k : Nat) : 0 ≤ tOf κ k ∧ tOf κ k < 12 := by
  unfold tOf
  exact ⟨Int.fmod_nonneg_of_pos _ (by decide), Int.fmod_lt_of_pos _ (by decide)⟩
theorem All2.item {vs : List AV} {items : Array Value} (r : All2 (RV κ as) vs items.toList) {k : Nat} {a : AV} (e : vs[k]? = some a) : ∃ x, items[k]? = some x ∧ RV κ as a x := by
  obtain ⟨b, h1, h2⟩ := r.at_ e
  exact ⟨b, by simpa using h1, h2⟩
theorem itemA_ok (TO : TabOk D w (KK w.params)) (B : Bs w h₀) (KW : Kw κ W) (a : At κ hp h₀ L m ext news s.heap) (hs : notSlice slice = true) {x i y : AV} {vx vi : Value} {Q : Value → Shared → Prop}
    (h : itemA D W hp x i = some y) (rx : RV κ (adr news) x vx) (ri : RV κ (adr news) i vi) (hQ : ∀ vv tk, RV κ (adr news) y vv → Q vv { s with toks := tk }) :
    wpAny (model prog w) A (subscriptTail value slice vx vi) Q E s := by
  unfold itemA at h
  split at h
  · split at h
    · split at h
      · rename_i q; cases h
        obtain ⟨t, rfl⟩ := rx; obtain ⟨u, rfl⟩ := ri
        exact item_text_ok KW hs q hQ
      · cases h
    · cases h
  · rename_i k
    split at h
    · rename_i e
      split at h
      · rename_i q; cases h
        obtain ⟨z, items, rfl, r2, hl, ht⟩ := seqK_ok TO B a e rx
        obtain ⟨u, rfl⟩ := ri
        obtain ⟨g0, g1⟩ := gOf_range κ k
        rw [eqSs_ok q] at r2
        have hg : ∃ c, GAPS[(gOf κ k).toNat]? = some c := by
          have : (gOf κ k).toNat < GAPS.length := by show _ < 5; omega
          exact ⟨_, List.getElem?_eq_getElem this⟩
        obtain ⟨c, hc⟩ := hg
        obtain ⟨b, e1, e2⟩ := All2.item (k := (gOf κ k).toNat) (a := .str c) r2 (by rw [List.getElem?_map, hc]; rfl)
        refine item_list_ok (hl rfl) hs g0 (by omega) e1 (hQ _ s.toks ?_)
        obtain ⟨t, rfl⟩ := e2
        refine ⟨t, ?_⟩
        show Value.str _ t = Value.str ⟨⟨gapS κ k ++ []⟩⟩ t
        rw [List.append_nil]
        unfold gapS
        rw [hc]; rfl
      · cases h
    · cases h
  · rename_i k
    split at h
    · rename_i e
      split at h
      · rename_i q; cases h
        obtain ⟨z, items, rfl, r2, hl, ht⟩ := seqK_ok TO B a e rx
        obtain ⟨u, rfl⟩ := ri
        obtain ⟨g0, g1⟩ := tOf_range κ k
        rw [eqSs_ok q] at r2
        have hg : ∃ c, TOKS[(tOf κ k).toNat]? = some c := by
          have : (tOf κ k).toNat < TOKS.length := by show _ < 12; omega
          exact ⟨_, List.getElem?_eq_getElem this⟩
        obtain ⟨c, hc⟩ := hg
        obtain ⟨b, e1, e2⟩ := All2.item (k := (tOf κ k).toNat) (a := .str c) r2 (by rw [List.getElem?_map, hc]; rfl)
        refine item_list_ok (hl rfl) hs g0 (by omega) e1 (hQ _ s.toks ?_)
        obtain ⟨t, rfl⟩ := e2
        refine ⟨t, ?_⟩
        show Value.str _ t = Value.str ⟨⟨tokS κ k ++ []⟩⟩ t
        rw [List.append_nil]
        unfold tokS
        rw [hc]; rfl
      · cases h
    · cases h
  · split at h
    · rename_i k
      split at h
      · cases h
      · rename_i q
        have q := nblt q
        split at h
        · split at h
          · rename_i e; cases h
            obtain ⟨t, rfl⟩ := rx; obtain ⟨u, rfl⟩ := ri
            exact item_str_ok hs e (by omega) hQ
          · cases h
        · split at h
          · rename_i e
            obtain ⟨z, items, rfl, r2, hl, ht⟩ := seqK_ok TO B a e rx
            obtain ⟨u, rfl⟩ := ri
            obtain ⟨b, e1, e2⟩ := All2.item r2 h
            rename_i bb _
            cases bb with
            | true => exact item_list_ok (hl rfl) hs (Int.natCast_nonneg k) (show (k : Int) < 2 ^ 63 by omega) e1 (hQ _ s.toks e2)
            | false => exact item_tup_ok (ht rfl) hs q e1 (hQ _ s.toks e2)
          · cases h
    · cases h
  · cases h
/-! built-ins -/
theorem oneA_ok {vs : List AV} {v : AV} {vvs : List Value} {as : List Addr} (h : oneA vs = some v) (r : All2 (RV κ as) vs vvs) : ∃ x, vvs = [x] ∧ RV κ as v x := by
  unfold oneA at h
  split at h
  · cases h
    obtain ⟨x, y, rfl, rx, ry⟩ := r.inv1; cases ry.inv0
    exact ⟨x, rfl, rx⟩
  · cases h
theorem bltA_ok (KW : Kw κ W) (hh : A.handled = none) (a : At κ hp h₀ L m ext news s.heap) {b : Blt} {vs : List AV} {v : AV} {vvs : List Value} {Q : Value → Shared → Prop} (h : bltA b vs = some v) (r : All2 (RV κ (adr news)) vs vvs)
    (hQ : ∀ vv h' tk, RV κ (adr news) v vv → At κ hp h₀ L m ext news h' → Q vv { s with heap := h', toks := tk }) : wpAny (model prog w) A (call (bltV b) vvs) Q E s := by
  have hQH := hQ
  have hQ : ∀ vv tk, RV κ (adr news) v vv → Q vv { s with toks := tk } := fun vv tk q => hQH vv s.heap tk q a
  unfold bltA at h
  split at h
  · rename_i v1 q0
    obtain ⟨x, rfl, rx⟩ := oneA_ok q0 r
    cases b with
    | len =>
      have h : lenA1 v1 = some v := h
      unfold lenA1 at h
      split at h
      · cases h; obtain ⟨t, rfl⟩ := rx
        refine len_str ?_ (hQ _ _ ⟨_, rfl⟩)
        have := KW.short; rw [str_length]; omega
      · split at h
        · rename_i q; cases h; obtain ⟨t, rfl⟩ := rx
          refine len_str ?_ (hQ _ _ ⟨_, rfl⟩)
          have := nblt q; rw [str_length]; omega
        · cases h
      · split at h
        · rename_i q; cases h; obtain ⟨t, rfl⟩ := rx
          refine len_str ?_ (hQ _ _ ⟨_, rfl⟩)
          have := okT_len κ q; rw [str_length]; omega
        · cases h
      · cases h
    | ord =>
      have h : ordA v1 = some v := h
      unfold ordA at h
      split at h
      · rename_i q; cases h; obtain ⟨t, rfl⟩ := strOf_ok q rx
        exact P.ord_of_char (hQ _ _ ⟨_, rfl⟩)
      · cases h
    | chr =>
      have h : chrA v1 = some v := h
      unfold chrA at h
      split at h
      · rename_i n q1
        split at h
        · rename_i q; cases h; obtain ⟨t, rfl⟩ := intOf_ok q1 rx
          refine P.chr_of_int ?_ (hQ _ _ ⟨_, rfl⟩)
          rw [Bool.or_eq_false_iff]
          exact ⟨decide_eq_false (show ¬ ((n : Int) < 0) by omega), decide_eq_false (show ¬ ((n : Int) > 1114111) by omega)⟩
        · cases h
      · cases h
    | abs =>
      have h : absA v1 = some v := h
      unfold absA at h
      split at h
      · rename_i q; cases h; obtain ⟨t, rfl⟩ := intOf_ok q rx
        exact call_abs_int fun u tk => hQ _ _ ⟨_, rfl⟩
      · cases h
    | int =>
      have h : intA1 v1 = some v := h
      unfold intA1 at h
      split at h
      · rename_i q0
        split at h
        · rename_i q1 q2; cases h; obtain ⟨t, rfl⟩ := strOf_ok q0 rx
          exact KIN.call_text q2 (by rw [str_length]; have := nblt q1; omega) (hQ _ _ ⟨_, rfl⟩)
        · cases h
      · cases h
    | max => cases h
  · split at h
    · unfold maxA at h
      split at h
      · split at h
        · rename_i q; cases h
          obtain ⟨x, y, rfl, rx, ry⟩ := r.inv1; obtain ⟨x2, y2, rfl, rx2, ry2⟩ := ry.inv1; cases ry2.inv0
          obtain ⟨⟨t, rfl⟩, u, rfl⟩ := twoI_ok q rx rx2
          exact max_two_N hh a.fr a.led.ns fun h' tk F N => hQH _ _ _ ⟨_, rfl⟩ (a.withNews F N)
        · cases h
      · cases h
    · cases h
theorem bltH_ok (TO : TabOk D w (KK w.params)) (B : Bs w h₀) (KW : Kw κ W) (hh : A.handled = none) (a : At κ hp h₀ L m ext news s.heap) {b : Blt} {vs : List AV} {v : AV} {vvs : List Value} {Q : Value → Shared → Prop} (h : bltH D hp b vs = some v) (r : All2 (RV κ (adr news)) vs vvs)
    (hQ : ∀ vv h' tk, RV κ (adr news) v vv → At κ hp h₀ L m ext news h' → Q vv { s with heap := h', toks := tk }) : wpAny (model prog w) A (call (bltV b) vvs) Q E s := by
  unfold bltH at h
  split at h
  · split at h
    · rename_i e
      split at h
      · rename_i q; cases h
        have q := nblt q
        obtain ⟨x, y, rfl, rx, ry⟩ := r.inv1; cases ry.inv0
        obtain ⟨z, items, rfl, r2, hl, ht⟩ := seqK_ok TO B a e rx
        rename_i bb l _ _
        have hsz : items.size = l.length := by have := r2.length; simp at this; exact this.symm
        cases bb with
        | true => exact call_len_list (hl rfl) (by omega) (hQ _ _ _ ⟨_, by rw [hsz]⟩ a)
        | false => exact len_tuple (ht rfl) (by omega) (hQ _ _ _ ⟨_, by rw [hsz]⟩ a)
      · cases h
    · cases h
  · exact bltA_ok KW hh a h r hQ
/-! objects -/
theorem RV.handed {v : AV} {vv : Value} (r : RV κ as v vv) : handedIn vv = true := by
  have b : ∀ {v : AV} {vv : Value}, RVb v vv → handedIn vv = true := by
    intro v vv r
    cases v <;> first | (cases r; rfl) | (obtain ⟨t, rfl⟩ := r; rfl) | exact r.elim
  cases v <;> first | (cases r; rfl) | (obtain ⟨t, rfl⟩ := r; rfl) | (obtain ⟨t, u, rfl⟩ := r; rfl) | (obtain ⟨t, _, rfl⟩ := r; rfl) | exact r | exact b r
theorem isStr_key {e : DictEntry} {x y : Str} (h : ∃ t, e.key = .str x t) : e.key.isStr y = (x == y) := by
  obtain ⟨t, h⟩ := h; rw [h]; rfl
theorem getL_ok : ∀ {es : List (Str × AV)} {ents : List DictEntry} (r : All2 (RE κ as) es ents) (x : Str),
    (∀ y, look x es = some y → ∃ v, getL x ents = some (some v) ∧ RV κ as y v) ∧ (look x es = none → getL x ents = some none)
  | [], _, r, x => by cases r; exact ⟨fun y h => (by cases h), fun _ => rfl⟩
  | (k, u) :: es, _, r, x => by
    obtain ⟨d, ents, rfl, ⟨hk, hv⟩, r⟩ := r.inv1
    obtain ⟨ih1, ih2⟩ := getL_ok r x
    have hf : (d :: ents).find? (fun e => e.key.isStr x) = if k == x then some d else ents.find? (fun e => e.key.isStr x) := by
      rw [List.find?_cons, isStr_key hk]; cases k == x <;> rfl
    have hr : ((d :: ents).any fun e => e.refKey) = ents.any fun e => e.refKey := by
      rw [List.any_cons]
      obtain ⟨t, e⟩ := hk
      have : d.refKey = false := by unfold DictEntry.refKey; rw [e]
      rw [this, Bool.false_or]
    have hg : getL x (d :: ents) = if k == x then some (some d.val) else getL x ents := by
      show (match (d :: ents).find? (fun e => e.key.isStr x) with | some e => some (some e.val) | none => if ((d :: ents).any fun e => e.refKey) = true then none else some none) = _
      rw [hf, hr]
      cases k == x <;> rfl
    rw [look_cons, hg]
    by_cases e : x = k
    · subst e
      simp only [if_true, beq_self_eq_true]
      exact ⟨fun y h => by cases h; exact ⟨_, rfl, hv⟩, fun h => by cases h⟩
    · have e2 : (k == x) = false := by simpa using fun z => e z.symm
      rw [if_neg e, e2]
      exact ⟨ih1, ih2⟩
theorem putL_ok {x : Str} {hsh : Int} {t : Tok} {v : AV} {vv : Value} (rv : RV κ as v vv) : ∀ {es : List (Str × AV)} {ents : List DictEntry}, All2 (RE κ as) es ents → All2 (RE κ as) (put x v es) (putL x hsh (.str x t) vv ents)
  | [], _, r => by cases r; exact .cons ⟨⟨t, rfl⟩, rv⟩ .nil
  | (k, u) :: es, _, r => by
    obtain ⟨d, ents, rfl, ⟨hk, hv⟩, r⟩ := r.inv1
    unfold put putL
    rw [isStr_key hk, eqS_beq]
    by_cases e : x = k
    · subst e
      simp only [beq_self_eq_true, if_true]
      exact .cons ⟨hk, rv⟩ (by assumption)
    · have e1 : (x == k) = false := by simpa using e
      have e2 : (k == x) = false := by simpa using fun z => e z.symm
      rw [e1, e2]
      exact .cons ⟨hk, hv⟩ (putL_ok rv r)
theorem put_len (x : Str) (v : AV) : ∀ es : List (Str × AV), (put x v es).length ≤ es.length + 1
  | [] => by simp [put]
  | (k, u) :: es => by
    unfold put
    cases eqS x k
    · have := put_len x v es; simp; omega
    · simp
theorem dictAt_ok (a : At κ hp h₀ L m ext news s.heap) {i C d : Nat} {es : List (Str × AV)} {vv : Value} (h : dictAt hp i = some (C, d, es)) (r : RV κ (adr news) (.ref i) vv) :
    ∃ x dx ents n, vv = .ref x ∧ news[d]? = some (dx, dictOf ents n) ∧ All2 (RE κ (adr news)) es ents ∧ PySem.W.InstAt s.heap x (instObj C dx) C (some (dictOf ents n)) := by
  unfold dictAt at h
  split at h
  · rename_i e1
    split at h
    · rename_i e2; cases h
      obtain ⟨x, ob, n1, hx, ro, ax⟩ := a.led.get e1
      obtain ⟨dx, od, n2, hd, rd, ad⟩ := a.led.get e2
      obtain ⟨dx', ad', rfl⟩ := ro
      have : dx' = dx := by rw [ad] at ad'; exact (Option.some.inj ad').symm
      subst this
      obtain ⟨x', ax', rfl⟩ := r
      have : x' = x := by rw [ax] at ax'; exact (Option.some.inj ax').symm
      subst this
      obtain ⟨ents, n, rfl, re⟩ := rd
      exact ⟨x', dx', ents, n, rfl, n2, re, ⟨hx, rfl, rfl, hd⟩⟩
    · cases h
  · cases h
theorem attr_mem {C : Nat} {x : Str} (h : attrOk D C x = true) : ∃ c, D.cls C = some c ∧ x ∈ c.attrs := by
  unfold attrOk at h
  split at h
  · rename_i c e
    refine ⟨c, e, ?_⟩
    obtain ⟨y, hy, e⟩ := List.any_eq_true.mp h
    rw [eqS_iff.mp e]; exact hy
  · cases h
theorem getA_ok (TO : TabOk D w (KK w.params)) (B : Bs w h₀) (a : At κ hp h₀ L m ext news s.heap) {v y : AV} {x : Str} {vv : Value} {expr : Bool} {Q : Value → Shared → Prop}
    (h : getA D hp v x = some y) (r : RV κ (adr news) v vv) (hQ : ∀ yv tk, RV κ (adr news) y yv → Q yv { s with toks := tk }) : wpAny (model prog w) A (getAttr vv x expr) Q E s := by
  unfold getA at h
  split at h
  · split at h
    · rename_i e
      split at h
      · rename_i q
        obtain ⟨c, hc, hx⟩ := attr_mem q
        have CO := TO.clss _ _ hc
        obtain ⟨_, at_, ha, hn⟩ := CO.attr x hx
        obtain ⟨z, dx, ents, n, rfl, _, re, I⟩ := dictAt_ok a e r
        obtain ⟨yv, hg, hy⟩ := (getL_ok re x).1 y h
        exact get_own a.fr B.X I (CO.plain x) CO.hasD ha hn hg hy.handed (hQ _ _ hy)
      · cases h
    · cases h
  · cases h
theorem storeA_ok (TO : TabOk D w (KK w.params)) (B : Bs w h₀) (a : At κ hp h₀ L m ext news s.heap) {o v : AV} {x : Str} {ov vv : Value} {Q : Unit → Shared → Prop}
    (h : storeA D hp o x v = some hp') (ro : RV κ (adr news) o ov) (r : RV κ (adr news) v vv) (hQ : ∀ h' news' tk, At κ hp' h₀ L m ext news' h' → adr news <+: adr news' → Q () { s with heap := h', toks := tk }) :
    wpAny (model prog w) A (setAttr ov x vv) Q E s := by
  unfold storeA at h
  split at h
  · split at h
    · rename_i e
      split at h
      · rename_i q; cases h
        obtain ⟨q, q2⟩ := Bool.and_eq_true_iff.mp q
        have q2 := nblt q2
        obtain ⟨c, hc, hx⟩ := attr_mem q
        have CO := TO.clss _ _ hc
        obtain ⟨z, dx, ents, n, rfl, nd, re, I⟩ := dictAt_ok a e ro
        have pl := putL_ok (x := x) (hsh := PyData.keyHash w.params x) (t := s.toks + 1) r re
        have hsome : (getL x ents).isSome = true := by
          cases q3 : look x _ with
          | none => rw [(getL_ok re x).2 q3]; rfl
          | some y => obtain ⟨_, e3, _⟩ := (getL_ok re x).1 y q3; rw [e3]; rfl
        refine set_dict (news := ext ++ news) a.fr B.X a.led.ns I rfl CO.over.1 CO.over.2 (CO.attr x hx).1 CO.hasD hsome rfl (a.upd nd) ?_ fun h' F N => hQ h' _ _ (a.of_upd nd F N ⟨_, _, rfl, pl⟩) ?_
        · rw [← pl.length]; refine Nat.le_trans (put_len x v _) ?_; omega
        · rw [set_adr nd]; exact pre_refl _
      · cases h
    · cases h
  · cases h
theorem keepM (TO : TabOk D w (KK w.params)) {v : AV} {f : Nat} {x : Str} (h : methA D hp v x = some f) : keepIn (KK w.params) (.ref f) = true := by
  unfold methA at h
  split at h
  · split at h
    · split at h
      · cases h
      · split at h
        · rename_i c hc
          exact ((TO.clss _ _ hc).meth x f h).2.2
        · cases h
    · cases h
  · cases h
theorem methA_ok (TO : TabOk D w (KK w.params)) (B : Bs w h₀) (a : At κ hp h₀ L m ext news s.heap) {v : AV} {f : Nat} {x : Str} {vv : Value} {pl : Sem Bool} {Q : Value × List Value → Shared → Prop}
    (h : methA D hp v x = some f) (r : RV κ (adr news) v vv) (hQ : Q (.ref f, [vv]) s) : wpAny (model prog w) A (getMethod vv x pl) Q E s := by
  unfold methA at h
  split at h
  · split at h
    · rename_i e
      split at h
      · cases h
      · rename_i q
        split at h
        · rename_i c hc
          have CO := TO.clss _ _ hc
          obtain ⟨m1, m2, m3⟩ := CO.meth x f h
          obtain ⟨z, dx, ents, n, rfl, nd, re, I⟩ := dictAt_ok a e r
          exact method_inst a.fr B.X I (CO.plain x) m1 m2 ((getL_ok re x).2 q) hQ
        · cases h
    · cases h
  · cases h
end
end Mine
namespace Mine
/-! what each part of the interpreter owes -/
section
variable (κ : Kap) (w : World) (prog : Program) (n : Nat)
noncomputable def EvOk (ev : Scope → Loc → Hp → Expr → R) : Prop := ∀ {sc loc hp e v hp'}, ev sc loc hp e = some (v, hp') → ∀ {A E s env h₀ L m ext news Q},
  Cx κ w n A env sc loc hp h₀ L m ext news s.heap → PV κ hp' h₀ L m ext news s v Q → wpAny (model prog w) A (eval e env) Q E s
noncomputable def EvsOk (evs : Scope → Loc → Hp → List Expr → Option (List AV × Hp)) : Prop := ∀ {sc loc hp es vs hp'}, evs sc loc hp es = some (vs, hp') → ∀ {A E s env h₀ L m ext news pos Q},
  Cx κ w n A env sc loc hp h₀ L m ext news s.heap → PL κ hp' h₀ L m ext news s vs Q → wpAny (model prog w) A (spliced (backTo pos (starEach es env))) Q E s
noncomputable def TrOk (tr : Scope → Loc → Hp → Expr → Option (Bool × Hp)) : Prop := ∀ {sc loc hp e b hp'}, tr sc loc hp e = some (b, hp') → ∀ {A E s env h₀ L m ext news Q},
  Cx κ w n A env sc loc hp h₀ L m ext news s.heap → PB κ hp' h₀ L m ext news s b Q → wpAny (model prog w) A (PySem.isTrue e env (eval e env)) Q E s
noncomputable def ExOk (ex : Scope → Loc → Hp → List Stmt → RS) : Prop := ∀ {sc loc hp b fl loc' hp'}, ex sc loc hp b = some (fl, loc', hp') → ∀ {A E s env h₀ L m ext news Q},
  Cx κ w n A env sc loc hp h₀ L m ext news s.heap → PS κ hp' loc' sc h₀ L ext news s fl Q → wpAny (model prog w) A (execs b env) Q E s
noncomputable def WhOk (wh : Scope → Loc → Hp → Expr → List Stmt → RS) : Prop := ∀ {sc loc hp t b fl loc' hp'}, wh sc loc hp t b = some (fl, loc', hp') → ∀ {A R s env h₀ L m ext news},
  Cx κ w n A env sc loc hp h₀ L m ext news s.heap → PS κ hp' loc' sc h₀ L ext news s fl (fun f s' => R (.ok f) s') → codeAny (model prog w) A (.whileLoop t b [] env) R s
noncomputable def ClsOk (cl : Nat → List AV → Hp → R) : Prop := ∀ {a vs hp v hp'}, cl a vs hp = some (v, hp') → ∀ {A R s h₀ L m ext news vvs},
  Bs w h₀ → Room n A → At κ hp h₀ L m ext news s.heap → All2 (RV κ (adr news)) vs vvs → PV κ hp' h₀ L m ext news s v (fun vv s' => R (.ok (.ret vv)) s') → codeAny (model prog w) A (.call (.ref a) ⟨vvs, []⟩) R s
end
section
variable {prog : Program} {w : World} {A : Around} {E : Value → Shared → Prop} {s : Shared} {κ : Kap} {W : Win} {D : Tab} {hp hp' : Hp} {n : Nat} {r : Rc}
variable {h₀ : Heap} {L : Addr} {m : Str → Option Value} {ext news : List (Addr × Obj)} {env : Env} {sc : Scope} {loc : Loc}
theorem Cx.kind (c : Cx κ w n A env sc loc hp h₀ L m ext news s.heap) : env.scope.kind = .function := by rw [c.env.scope]; exact c.env.kind
theorem Cx.isL (c : Cx κ w n A env sc loc hp h₀ L m ext news s.heap) {x : Str} (h : isLoc sc x = true) : env.kindOf x = some .local := by
  unfold Env.kindOf; rw [c.env.scope]; exact isLoc_iff.mp h
theorem Cx.isG (c : Cx κ w n A env sc loc hp h₀ L m ext news s.heap) {x : Str} (h : isGlob sc x = true) : env.kindOf x = some .globalImplicit := by
  unfold Env.kindOf; rw [c.env.scope]; exact isGlob_iff.mp h
theorem Cx.name_loc (c : Cx κ w n A env sc loc hp h₀ L m ext news s.heap) {x : Str} {v : AV} (h : look x loc = some v) (hd : eqS x dbg = false) {pos : Pos} {Q : Value → Shared → Prop} (hQ : ∀ vv, RV κ (adr news) v vv → Q vv s) :
    wpAny (model prog w) A (eval (.Name x pos) env) Q E s := by
  obtain ⟨hl, vv, hm, hr⟩ := c.loc x v h
  have ns : s.heap.Ns env.locals m := by rw [c.env.loc]; exact c.st.fr.ns
  refine wpAny_Name (wpAny_loadName_local c.kind (c.isL hl) ns hm (hQ vv hr)) ?_
  rw [eqS_beq] at hd; exact hd
theorem Cx.glob (c : Cx κ w n A env sc loc hp h₀ L m ext news s.heap) {x : Str} {vv : Value} (hg : isGlob sc x = true) (hd : (x == ("__debug__" : Str)) = false) (h : nsIn (KK w.params) mainGlobals x = some (some vv)) {pos : Pos} {Q : Value → Shared → Prop} (hQ : Q vv s) :
    wpAny (model prog w) A (eval (.Name x pos) env) Q E s := by
  obtain ⟨mg, mb, T⟩ := c.bs.T
  have g := T.g.keeps c.st.fr.keep
  refine Name_function_global c.kind (c.isG hg) (loadGlobal_global (by rw [c.env.glob]; exact g) (mg_of c.bs.X T.g h) hQ) hd
theorem Cx.built (c : Cx κ w n A env sc loc hp h₀ L m ext news s.heap) {x : Str} {vv : Value} (hg : isGlob sc x = true) (hd : (x == ("__debug__" : Str)) = false) (h : nsIn (KK w.params) mainGlobals x = some none) (hv : bootBuiltins x = some vv) (hn : x ≠ "__name__") {pos : Pos} {Q : Value → Shared → Prop} (hQ : Q vv s) :
    wpAny (model prog w) A (eval (.Name x pos) env) Q E s := by
  obtain ⟨mg, mb, T⟩ := c.bs.T
  have g := T.g.keeps c.st.fr.keep
  have b := T.b.keeps c.st.fr.keep
  refine Name_function_global c.kind (c.isG hg) (loadGlobal_builtin (by rw [c.env.glob]; exact g) (mg_none_of c.bs.X T.g h) (by rw [c.env.blt]; exact b) ((T.builtins x hn).trans hv) hQ) hd
theorem noStar_cons {e : Expr} {es : List Expr} (h : noStar (e :: es) = true) (env : Env) : starEach (e :: es) env = (false, eval e env) :: starEach es env ∧ noStar es = true := by
  cases e <;> first | exact ⟨rfl, h⟩ | cases h
theorem noStar_any {pos : Pos} {env : Env} : ∀ {es : List Expr}, noStar es = true → ((backTo pos (starEach es env)).any fun x => x.1) = false
  | [], _ => rfl
  | e :: es, h => by
    obtain ⟨h1, h2⟩ := noStar_cons h env
    rw [h1]
    show (false || _) = false
    rw [Bool.false_or]
    exact noStar_any h2
theorem evsA_star : ∀ {es : List Expr} {hp : Hp} {vs : List AV} {hp' : Hp}, evsA r sc loc hp es = some (vs, hp') → noStar es = true
  | [], _, _, _, _ => rfl
  | e :: es, hp, vs, hp', h => by
    unfold evsA at h
    split at h
    · cases h
    · rename_i q
      split at h
      · split at h
        · rename_i q2
          have := evsA_star q2
          cases e <;> first | exact this | (exfalso; exact q _ _ rfl)
        · cases h
      · cases h
theorem evsA_ok (O : EvOk κ w prog n r.ev) : EvsOk κ w prog n (evsA r) := by
  intro sc loc hp es
  induction es generalizing hp with
  | nil =>
    intro vs hp' h A E s env h₀ L m ext news pos Q c hQ
    cases h
    exact spliced_none (hQ [] s.heap news s.toks .nil c.st (pre_refl _))
  | cons e es ih =>
    intro vs hp' h A E s env h₀ L m ext news pos Q c hQ
    have st := (noStar_cons (evsA_star h) env).1
    unfold evsA at h
    split at h
    · cases h
    · split at h
      · rename_i v hp₁ q1
        split at h
        · rename_i vs₁ hp₂ q2; cases h
          refine spliced_more (O q1 c fun vv h₁ news₁ tk₁ rv a₁ p₁ => ?_) st
          refine ih q2 (c.next a₁ p₁) fun vvs h₂ news₂ tk₂ rvs a₂ p₂ => ?_
          exact hQ (vv :: vvs) h₂ news₂ tk₂ (.cons (rv.mono p₂) rvs) a₂ (p₁.trans p₂)
        · cases h
      · cases h
theorem truthy_at {v : AV} {b : Bool} {vv : Value} {as : List Addr} {Q : Bool → Shared → Prop} (h : truthyA hp v = some b) (r : RV κ as v vv) (hQ : Q b s) : wpAny (model prog w) A (truthy vv) Q E s := truthyA_ok h r hQ
theorem chainV (TO : TabOk D w (KK w.params)) (KW : Kw κ W) (O : EvOk κ w prog n r.ev) {env : Env} {sc : Scope} {loc : Loc} {h₀ : Heap} {L : Addr} {m : Str → Option Value} {ext : List (Addr × Obj)} {pos : Pos} :
    ∀ {es : List Expr} {ops : List CmpOp} {hp : Hp} {a : AV} {b : Bool} {hp' : Hp}, chainA D W r sc loc hp a ops es = some (b, hp') → ∀ {A E s news va Q}, Cx κ w n A env sc loc hp h₀ L m ext news s.heap → RV κ (adr news) a va →
      PB κ hp' h₀ L m ext news s b (fun c s' => Q (.bool c) s') → wpAny (model prog w) A (compareChain pos va ops (evalEach es env)) Q E s
  | [], ops, hp, a, b, hp', h => by
    unfold chainA at h
    split at h
    · rename_i e; cases e
    · rename_i e; cases e
    · cases h
  | [e], ops, hp, a, b, hp', h => by
    unfold chainA at h
    split at h
    · rename_i op e1 e2; cases e2
      split at h
      · rename_i vb hp₁ q1
        split at h
        · rename_i c q2; cases h
          intro c rv hQ
          refine chain_last (O q1 c fun vv h₁ news₁ tk₁ rb a₁ p₁ => ?_)
          exact cmpA_ok TO c.bs KW a₁ (by have := c.room.units; omega) q2 (rv.mono p₁) rb fun tk => hQ h₁ news₁ tk a₁ p₁
        · cases h
      · cases h
    · rename_i e2; cases e2
    · cases h
  | e :: e' :: es, ops, hp, a, b, hp', h => by
    unfold chainA at h
    split at h
    · rename_i e2; cases e2
    · rename_i op op' ops' e1 e1' es1 e2; cases e2
      split at h
      · rename_i vb hp₁ q1
        split at h
        · rename_i q2
          intro c rv hQ
          refine chain_link (O q1 c fun vv h₁ news₁ tk₁ rb a₁ p₁ => ?_)
          refine cmpA_ok TO c.bs KW a₁ (by have := c.room.units; omega) q2 (rv.mono p₁) rb fun tk => wpAny_truthy_bool ?_
          simp only [if_true]
          exact chainV TO KW O h (c.next a₁ p₁) rb fun h₂ news₂ tk₂ a₂ p₂ => hQ h₂ news₂ tk₂ a₂ (p₁.trans p₂)
        · rename_i q2; cases h
          intro c rv hQ
          refine chain_link (O q1 c fun vv h₁ news₁ tk₁ rb a₁ p₁ => ?_)
          refine cmpA_ok TO c.bs KW a₁ (by have := c.room.units; omega) q2 (rv.mono p₁) rb fun tk => wpAny_truthy_bool ?_
          simp only [Bool.false_eq_true, if_false]
          exact hQ h₁ news₁ tk a₁ p₁
        · cases h
      · cases h
    · cases h
theorem chainT (TO : TabOk D w (KK w.params)) (KW : Kw κ W) (O : EvOk κ w prog n r.ev) {env : Env} {sc : Scope} {loc : Loc} {h₀ : Heap} {L : Addr} {m : Str → Option Value} {ext : List (Addr × Obj)} {pos : Pos} :
    ∀ {es : List Expr} {ops : List CmpOp} {hp : Hp} {a : AV} {b : Bool} {hp' : Hp}, chainA D W r sc loc hp a ops es = some (b, hp') → ∀ {A E s news va Q}, Cx κ w n A env sc loc hp h₀ L m ext news s.heap → RV κ (adr news) a va →
      PB κ hp' h₀ L m ext news s b Q → wpAny (model prog w) A (testChain pos va ops (evalEach es env)) Q E s
  | [], ops, hp, a, b, hp', h => by
    unfold chainA at h
    split at h
    · rename_i e; cases e
    · rename_i e; cases e
    · cases h
  | [e], ops, hp, a, b, hp', h => by
    unfold chainA at h
    split at h
    · rename_i op e1 e2; cases e2
      split at h
      · rename_i vb hp₁ q1
        split at h
        · rename_i c q2; cases h
          intro c rv hQ
          refine test_last (O q1 c fun vv h₁ news₁ tk₁ rb a₁ p₁ => ?_)
          exact cmpA_ok TO c.bs KW a₁ (by have := c.room.units; omega) q2 (rv.mono p₁) rb fun tk => wpAny_truthy_bool (hQ h₁ news₁ tk a₁ p₁)
        · cases h
      · cases h
    · rename_i e2; cases e2
    · cases h
  | e :: e' :: es, ops, hp, a, b, hp', h => by
    unfold chainA at h
    split at h
    · rename_i e2; cases e2
    · rename_i op op' ops' e1 e1' es1 e2; cases e2
      split at h
      · rename_i vb hp₁ q1
        split at h
        · rename_i q2
          intro c rv hQ
          refine test_link (O q1 c fun vv h₁ news₁ tk₁ rb a₁ p₁ => ?_)
          refine cmpA_ok TO c.bs KW a₁ (by have := c.room.units; omega) q2 (rv.mono p₁) rb fun tk => wpAny_truthy_bool ?_
          simp only [if_true]
          exact chainT TO KW O h (c.next a₁ p₁) rb fun h₂ news₂ tk₂ a₂ p₂ => hQ h₂ news₂ tk₂ a₂ (p₁.trans p₂)
        · rename_i q2; cases h
          intro c rv hQ
          refine test_link (O q1 c fun vv h₁ news₁ tk₁ rb a₁ p₁ => ?_)
          refine cmpA_ok TO c.bs KW a₁ (by have := c.room.units; omega) q2 (rv.mono p₁) rb fun tk => wpAny_truthy_bool ?_
          simp only [Bool.false_eq_true, if_false]
          exact hQ h₁ news₁ tk a₁ p₁
        · cases h
      · cases h
    · cases h
theorem boolV (TO : TabOk D w (KK w.params)) (O : EvOk κ w prog n r.ev) {env : Env} {sc : Scope} {loc : Loc} {h₀ : Heap} {L : Addr} {m : Str → Option Value} {ext : List (Addr × Obj)} {pos : Pos} {op : BoolOp} :
    ∀ {es : List Expr} {hp : Hp} {v : AV} {hp' : Hp}, boolOpA r sc loc op hp es = some (v, hp') → ∀ {A E s news Q}, Cx κ w n A env sc loc hp h₀ L m ext news s.heap →
      PV κ hp' h₀ L m ext news s v Q → wpAny (model prog w) A (eval (.BoolOp op es pos) env) Q E s
  | [], hp, v, hp', h => by cases h
  | [e], hp, v, hp', h => fun c hQ => BoolOp_one (O h c hQ)
  | e :: e' :: es, hp, v, hp', h => by
    intro c hQ
    unfold boolOpA at h
    split at h
    · rename_i v1 hp₁ q1
      split at h
      · rename_i q2
        refine BoolOp_and (O q1 c fun vv h₁ news₁ tk₁ rv a₁ p₁ => truthyA_ok q2 rv ?_)
        simp only [if_true]
        exact boolV TO O h (c.next a₁ p₁) fun vv h₂ news₂ tk₂ r2 a₂ p₂ => hQ vv h₂ news₂ tk₂ r2 a₂ (p₁.trans p₂)
      · rename_i q2; cases h
        refine BoolOp_and (O q1 c fun vv h₁ news₁ tk₁ rv a₁ p₁ => truthyA_ok q2 rv ?_)
        simp only [Bool.false_eq_true, if_false]
        exact hQ vv h₁ news₁ tk₁ rv a₁ p₁
      · rename_i q2; cases h
        refine BoolOp_or (O q1 c fun vv h₁ news₁ tk₁ rv a₁ p₁ => truthyA_ok q2 rv ?_)
        simp only [if_true]
        exact hQ vv h₁ news₁ tk₁ rv a₁ p₁
      · rename_i q2
        refine BoolOp_or (O q1 c fun vv h₁ news₁ tk₁ rv a₁ p₁ => truthyA_ok q2 rv ?_)
        simp only [Bool.false_eq_true, if_false]
        exact boolV TO O h (c.next a₁ p₁) fun vv h₂ news₂ tk₂ r2 a₂ p₂ => hQ vv h₂ news₂ tk₂ r2 a₂ (p₁.trans p₂)
      · cases h
    · cases h
theorem boolT (O : TrOk κ w prog n r.tr) {env : Env} {sc : Scope} {loc : Loc} {h₀ : Heap} {L : Addr} {m : Str → Option Value} {ext : List (Addr × Obj)} {pos : Pos} {op : BoolOp} {whole : Sem Value} :
    ∀ {es : List Expr} {hp : Hp} {v : Bool} {hp' : Hp}, boolTrA r sc loc op hp es = some (v, hp') → ∀ {A E s news Q}, Cx κ w n A env sc loc hp h₀ L m ext news s.heap →
      PB κ hp' h₀ L m ext news s v Q → wpAny (model prog w) A (PySem.isTrue (.BoolOp op es pos) env whole) Q E s
  | [], hp, v, hp', h => by
    intro c hQ
    unfold boolTrA at h
    split at h
    · cases h; exact isTrue_and_nil (hQ _ _ _ c.st (pre_refl _))
    · cases h; exact isTrue_or_nil (hQ _ _ _ c.st (pre_refl _))
  | e :: es, hp, v, hp', h => by
    intro c hQ
    unfold boolTrA at h
    split at h
    · rename_i v1 hp₁ q1
      split at h
      · refine isTrue_and (O q1 c fun h₁ news₁ tk₁ a₁ p₁ => ?_)
        simp only [if_true]
        exact boolT O h (c.next a₁ p₁) fun h₂ news₂ tk₂ a₂ p₂ => hQ h₂ news₂ tk₂ a₂ (p₁.trans p₂)
      · cases h
        refine isTrue_and (O q1 c fun h₁ news₁ tk₁ a₁ p₁ => ?_)
        simp only [Bool.false_eq_true, if_false]
        exact hQ h₁ news₁ tk₁ a₁ p₁
      · cases h
        refine isTrue_or (O q1 c fun h₁ news₁ tk₁ a₁ p₁ => ?_)
        simp only [if_true]
        exact hQ h₁ news₁ tk₁ a₁ p₁
      · refine isTrue_or (O q1 c fun h₁ news₁ tk₁ a₁ p₁ => ?_)
        simp only [Bool.false_eq_true, if_false]
        exact boolT O h (c.next a₁ p₁) fun h₂ news₂ tk₂ a₂ p₂ => hQ h₂ news₂ tk₂ a₂ (p₁.trans p₂)
    · cases h
end
end Mine
namespace Mine
theorem under_depth (A : Around) (C : Addr) (vs : List Value) : (A.under (.builtin "type.__call__" ⟨.ref C :: vs, []⟩)).depth = A.depth + 1 := rfl
theorem under_units (A : Around) (C : Addr) (vs : List Value) : (A.under (.builtin "type.__call__" ⟨.ref C :: vs, []⟩)).units = A.units + 1 := rfl
theorem under_handled (A : Around) (C : Addr) (vs : List Value) : (A.under (.builtin "type.__call__" ⟨.ref C :: vs, []⟩)).handled = A.handled := rfl
theorem nS_eq : nStartswith = ("startswith" : Str) := by kernel_rfl
theorem nL_eq : nLstrip = ("lstrip" : Str) := by kernel_rfl
theorem nJ_eq : nJoin = ("join" : Str) := by kernel_rfl
theorem nA_eq : nAppend = ("append" : Str) := by kernel_rfl
section
variable {prog : Program} {w : World} {A : Around} {E : Value → Shared → Prop} {s : Shared} {κ : Kap} {W : Win} {D : Tab} {hp hp' : Hp} {n : Nat} {r : Rc}
variable {h₀ : Heap} {L : Addr} {m : Str → Option Value} {ext news : List (Addr × Obj)} {env : Env} {sc : Scope} {loc : Loc}
theorem Room.under (R : Room (n + 1) A) (C : Addr) (vs : List Value) : Room n (A.under (.builtin "type.__call__" ⟨.ref C :: vs, []⟩)) :=
  ⟨(under_handled A C vs).trans R.hh, by rw [under_depth]; have := R.depth; omega, by rw [under_units]; have := R.units; omega⟩
/-- what a class call lays down -/
theorem At.made {h : Heap} (a : At κ hp h₀ L m ext news h) {x dx : Addr} {h' : Heap} {C : Nat} (F : Fr h₀ L h' m) (N : News h₀ L h' ((x, instObj C dx) :: (dx, dictOf [] 0) :: (ext ++ news))) (lt : ∀ p ∈ ext ++ news, p.1 < dx) (lx : dx < x) :
    At κ (hp ++ [.dict [], .inst C hp.length]) h₀ L m ext (news ++ [(dx, dictOf [] 0), (x, instObj C dx)]) h' := by
  have nd : dx ∉ adr (ext ++ news) := fun q => by
    obtain ⟨p, hp, e⟩ := List.mem_map.mp q
    have e : p.1 = dx := e
    have h1 := lt p hp
    rw [e] at h1
    exact Nat.lt_irrefl _ h1
  have nx : x ∉ adr (ext ++ news) := fun q => by
    obtain ⟨p, hp, e⟩ := List.mem_map.mp q
    have e : p.1 = x := e
    have h1 := lt p hp
    rw [e] at h1
    exact Nat.lt_irrefl _ (Nat.lt_trans h1 lx)
  have a1 : At κ hp h₀ L m ext news h' := a.withNews F fun p hp => N p (.tail _ (.tail _ hp))
  have d := N (dx, dictOf [] 0) (.tail _ (.head _))
  have i := N (x, instObj C dx) (.head _)
  have a2 := a1.grow (ao := .dict []) a1 d.1 d.2.1 d.2.2 nd ⟨[], 0, rfl, .nil⟩
  have nx2 : x ∉ adr (ext ++ (news ++ [(dx, dictOf [] 0)])) := fun q => by
    rw [← List.append_assoc] at q
    rcases List.mem_append.mp (by simpa [adr] using q : x ∈ adr (ext ++ news) ++ [dx]) with q | q
    · exact nx q
    · simp at q
      rw [q] at lx
      exact Nat.lt_irrefl _ lx
  have a3 := a2.grow (ao := .inst C hp.length) a2 i.1 i.2.1 i.2.2 nx2 ⟨dx, pre_get (adr_pre _ _) (adr_last a.led.len), rfl⟩
  simpa [List.append_assoc] using a3
theorem callF (O2 : EvsOk κ w prog n r.evs) (O3 : ClsOk κ w prog n r.cl) (c : Cx κ w n A env sc loc hp h₀ L m ext news s.heap) {f : Nat} {first : List Value} {vf : List AV} {e : Expr} {es : List Expr} {vs : List AV} {hp₁ hp' : Hp} {v : AV} {pos : Pos} {Q : Value → Shared → Prop}
    (hk : keepIn (KK w.params) (.ref f) = true) (hs : noStar (e :: es) = true) (rf : All2 (RV κ (adr news)) vf first) (q1 : r.evs sc loc hp (e :: es) = some (vs, hp₁)) (q2 : r.cl f (vf ++ vs) hp₁ = some (v, hp'))
    (hQ : PV κ hp' h₀ L m ext news s v Q) : wpAny (model prog w) A (callWith pos (.ref f) first (backTo pos (starEach (e :: es) env)) []) Q E s := by
  obtain ⟨h1, h2⟩ := noStar_cons hs env
  refine PySem.W.callWith_K (K := KK w.params) (h₀ := h₀) c.bs.X hk (O2 q1 c fun vvs h₁ news₁ tk₁ rv a₁ p₁ => ⟨c.bs.X.keeps a₁.fr.keep, wpAny_call ?_⟩) h1 (noStar_any h2)
  exact O3 q2 c.bs c.room a₁ ((rf.mono fun _ _ q => q.mono p₁).append rv) fun vv h₂ news₂ tk₂ r₂ a₂ p₂ => hQ vv h₂ news₂ tk₂ r₂ a₂ (p₁.trans p₂)
theorem callB {b : Blt} {e : Expr} {es : List Expr} {pos : Pos} {Q : Value → Shared → Prop} (hs : noStar (e :: es) = true)
    (main : wpAny (model prog w) A (spliced (backTo pos (starEach (e :: es) env))) (fun vs s₁ => wpAny (model prog w) A (call (bltV b) vs) Q E s₁) E s) :
    wpAny (model prog w) A (callWith pos (bltV b) [] (backTo pos (starEach (e :: es) env)) []) Q E s := by
  obtain ⟨h1, h2⟩ := noStar_cons hs env
  cases b
  · exact PyProof.Rows.callWith_builtin1 main h1 (noStar_any h2)
  · exact PyProof.Rows.callWith_builtin1 main h1 (noStar_any h2)
  · exact PyProof.Rows.callWith_builtin1 main h1 (noStar_any h2)
  · exact PyProof.Rows.callWith_builtin1 main h1 (noStar_any h2)
  · exact PyProof.Rows.callWith_type1 main h1 (noStar_any h2)
  · exact PyProof.Rows.callWith_builtin1 main h1 (noStar_any h2)
theorem callGA_ok (TO : TabOk D w (KK w.params)) (KW : Kw κ W) (O2 : EvsOk κ w prog n r.evs) (O3 : ClsOk κ w prog n r.cl) {g : Str} {gp pos : Pos} {args : List Expr} {v : AV} {Q : Value → Shared → Prop} (h : callGA D r sc loc hp g args = some (v, hp'))
    (c : Cx κ w (n + 1) A env sc loc hp h₀ L m ext news s.heap) (hQ : PV κ hp' h₀ L m ext news s v Q) : wpAny (model prog w) A (eval (.Call (.Name g gp) args [] pos) env) Q E s := by
  have c' := c.le (k := n) (by omega)
  unfold callGA at h
  split at h
  · cases h
  · rename_i hs
    split at h
    · cases h
    · rename_i hg
      split at h
      · rename_i a q
        obtain ⟨k1, k2⟩ := TO.fn _ _ q
        split at h
        · cases h
        · rename_i e es
          split at h
          · rename_i vs hp₁ q1
            refine Call_ (c'.glob hg (TO.nodbg _ _ q) k1 ?_) rfl
            exact callF O2 O3 c' (vf := []) k2 hs .nil q1 h hQ
          · cases h
      · rename_i C q
        obtain ⟨k1, k2⟩ := TO.cls _ _ q
        split at h
        · rename_i e es ci hc
          have CO := TO.clss _ _ hc
          obtain ⟨h1, h2⟩ := noStar_cons hs env
          split at h
          · rename_i vs hp₁ q1
            split at h
            · rename_i hp₂ q2; cases h
              refine Call_ (c'.glob hg (TO.nodbg _ _ q) k1 ?_) rfl
              refine PySem.W.callWith_K (K := KK w.params) (h₀ := h₀) c.bs.X k2 (O2 q1 c' fun vvs h₁ news₁ tk₁ rv a₁ p₁ => ⟨c.bs.X.keeps a₁.fr.keep, ?_⟩) h1 (noStar_any h2)
              refine call_cls (news := ext ++ news₁) a₁.fr c.bs.X a₁.led.ns CO.makes CO.init.1 CO.init.2 fun x dx h₂ F N lt lx => ?_
              have am := a₁.made F N lt lx
              have rx : RV κ (adr (news₁ ++ [(dx, dictOf [] 0), (x, instObj C dx)])) (.ref (hp₁.length + 1)) (.ref x) := by
                refine ⟨x, ?_, rfl⟩
                have l := a₁.led.len
                rw [l]
                simp [adr]
              have pn : adr news₁ <+: adr (news₁ ++ [(dx, dictOf [] 0), (x, instObj C dx)]) := adr_pre _ _
              refine O3 q2 c.bs (c.room.under _ _) am (.cons rx (rv.mono fun _ _ q => q.mono pn)) fun vv h₃ news₃ tk₃ r₃ a₃ p₃ => ?_
              exact ⟨r₃, hQ _ h₃ news₃ tk₃ (rx.mono p₃) a₃ ((p₁.trans pn).trans p₃)⟩
            · cases h
          · cases h
        · cases h
      · rename_i b q
        split at h
        · cases h
        · rename_i e es
          split at h
          · rename_i vs hp₁ q1
            split at h
            · rename_i v' q2; cases h
              obtain ⟨k1, k2, k3⟩ := TO.blt _ _ q
              refine Call_ (c'.built hg (TO.nodbg _ _ q) k1 k2 k3 ?_) rfl
              exact callB hs (O2 q1 c' fun vvs h₁ news₁ tk₁ rv a₁ p₁ => bltH_ok TO c.bs KW c.room.hh a₁ q2 rv fun vv h₂ tk₂ r₂ a₂ => hQ vv h₂ news₁ tk₂ r₂ a₂ p₁)
            · cases h
          · cases h
      · cases h
end
end Mine
namespace Mine
section
variable {prog : Program} {w : World} {A : Around} {E : Value → Shared → Prop} {s : Shared} {κ : Kap} {W : Win} {D : Tab} {hp hp' : Hp} {n : Nat} {r : Rc}
variable {h₀ : Heap} {L : Addr} {m : Str → Option Value} {ext news : List (Addr × Obj)} {env : Env} {sc : Scope} {loc : Loc}
theorem base_eq {o : Expr} (h : baseOk o = true) (x : Str) (env : Env) (whole : Sem Value) : attributeBase o x env whole = whole := by
  cases o <;> first | rfl | cases h
theorem noStar_all {pos : Pos} {env : Env} : ∀ {es : List Expr}, noStar es = true → ((backTo pos (starEach es env)).all fun x => !x.1) = true
  | [], _ => rfl
  | e :: es, h => by
    obtain ⟨h1, h2⟩ := noStar_cons h env
    rw [h1]
    show (!false && _) = true
    rw [Bool.not_false, Bool.true_and]
    exact noStar_all h2
theorem method_eq {o : Expr} {x : Str} {apos pos : Pos} {args : List Expr} {env : Env} (ho : baseOk o = true) (hs : noStar args = true) (hl : args.length < 30) (hp : apos.endLine = pos.line) :
    eval (.Call (.Attribute o x apos) args [] pos) env = (do
      let ov ← eval o env
      standAt apos.atName
      let (f, first) ← holding [ov] (getMethod ov x (do return (← importBound o env).getD true))
      callWith pos f first (backTo pos (starEach args env)) []) := by
  have e0 : eval (.Call (.Attribute o x apos) args [] pos) env = (do
      let ov ← attributeBase o x env (eval o env)
      standAt apos.atName
      methodCall o x apos pos env ov (args.length + 0) (backTo pos (starEach args env)) (backToKw pos (keywordEach [] env))) := rfl
  rw [e0, base_eq ho]
  have form : methodCallForm (args.length + 0) (backTo pos (starEach args env)) (backToKw pos (keywordEach [] env)) = true := by
    unfold methodCallForm
    have := noStar_all (pos := pos) (env := env) hs
    rw [this]
    show (true && true && decide (args.length + 0 + 0 < 30)) = true
    simp; omega
  have fpos : methodCallPos true o env apos pos = pure pos := by
    unfold methodCallPos
    have : (!true || apos.endLine == pos.line) = true := by rw [hp]; simp
    rw [if_pos this]
  unfold methodCall
  rw [form, fpos]
  rfl
theorem Method_ok {o : Expr} {x : Str} {apos pos : Pos} {args : List Expr} {Q : Value → Shared → Prop} (ho : baseOk o = true) (hs : noStar args = true) (hl : args.length < 30) (hp : apos.endLine = pos.line)
    (h : wpAny (model prog w) A (eval o env) (fun ov s₁ => wpAny (model prog w) A (getMethod ov x (do return (← importBound o env).getD true)) (fun fx s₂ => wpAny (model prog w) A (callWith pos fx.1 fx.2 (backTo pos (starEach args env)) []) Q E s₂) E s₁) E s) :
    wpAny (model prog w) A (eval (.Call (.Attribute o x apos) args [] pos) env) Q E s := MethodCall_ h (method_eq ho hs hl hp)
theorem join_flat : ∀ t : List (List Nat), Str.join ⟨⟨[]⟩⟩ (t.map fun x => ⟨⟨x⟩⟩) = ⟨⟨t.flatten⟩⟩
  | [] => rfl
  | [x] => by show (⟨⟨x⟩⟩ : Str) = _; simp
  | x :: y :: r => by
    show (⟨⟨x⟩⟩ : Str) ++ ⟨⟨[]⟩⟩ ++ Str.join ⟨⟨[]⟩⟩ ((y :: r).map fun x => ⟨⟨x⟩⟩) = _
    rw [join_flat (y :: r), str_append, str_append]
    simp
theorem strs_len (t : List (List Nat)) : ((t.map fun x => (⟨⟨x⟩⟩ : Str)).map fun x => x.length) = t.map (·.length) := by
  rw [List.map_map]; rfl
theorem callMA_ok (TO : TabOk D w (KK w.params)) (KW : Kw κ W) (O : EvOk κ w prog n r.ev) (O2 : EvsOk κ w prog n r.evs) (O3 : ClsOk κ w prog n r.cl) {o : Expr} {x : Str} {apos pos : Pos} {args : List Expr} {v : AV} {Q : Value → Shared → Prop} (h : callMA D W r sc loc hp o x apos args pos = some (v, hp'))
    (c : Cx κ w (n + 1) A env sc loc hp h₀ L m ext news s.heap) (hQ : PV κ hp' h₀ L m ext news s v Q) : wpAny (model prog w) A (eval (.Call (.Attribute o x apos) args [] pos) env) Q E s := by
  have c' := c.le (k := n) (by omega)
  unfold callMA at h
  split at h
  · cases h
  · rename_i g
    obtain ⟨g, g4⟩ := Bool.and_eq_true_iff.mp g
    obtain ⟨g, g3⟩ := Bool.and_eq_true_iff.mp g
    obtain ⟨g1, g2⟩ := Bool.and_eq_true_iff.mp g
    have g3 := nblt g3
    have g4 := Nat.eq_of_beq_eq_true g4
    split at h
    · rename_i ov hp₁ q1
      refine Method_ok g2 g1 g3 g4 (O q1 c' fun vv h₁ news₁ tk₁ rv a₁ p₁ => ?_)
      have c₁ := c'.next a₁ p₁
      split at h
      · obtain ⟨t, rfl⟩ := rv
        split at h
        · rename_i st k hp₂ e1 q2
          split at h
          · rename_i b q3; cases h
            obtain ⟨e1, e0⟩ := Bool.and_eq_true_iff.mp e1
            rw [eqS_iff] at e1; subst e1
            rw [nS_eq]
            refine GM.startswith ?_
            cases args with
            | nil => cases e0
            | cons e es =>
              obtain ⟨h1, h2⟩ := noStar_cons g1 env
              refine PyProof.Rows.callWith_method1 (O2 q2 c₁ fun vvs h₂ news₂ tk₂ rvs a₂ p₂ => ?_) h1 (noStar_any h2)
              obtain ⟨x1, y1, rfl, r1, rvs⟩ := rvs.inv1
              obtain ⟨x2, y2, rfl, r2, rvs⟩ := rvs.inv1
              cases rvs.inv0
              obtain ⟨t1, rfl⟩ := r1; obtain ⟨t2, rfl⟩ := r2
              exact startsA_ok KW q3 (hQ _ h₂ news₂ tk₂ rfl a₂ (p₁.trans p₂))
          · cases h
        · cases h
      · rename_i st
        obtain ⟨t, rfl⟩ := rv
        split at h
        · rename_i t0 hp₂ q2
          split at h
          · rename_i e1; cases h
            obtain ⟨e1, e3⟩ := Bool.and_eq_true_iff.mp e1
            obtain ⟨e1, e2⟩ := Bool.and_eq_true_iff.mp e1
            obtain ⟨e1, e0⟩ := Bool.and_eq_true_iff.mp e1
            have e3 := nblt e3
            rw [eqS_iff] at e1; subst e1
            rw [eqL_iff] at e2; subst e2
            rw [nL_eq]
            refine GM.lstrip ?_
            cases args with
            | nil => cases e0
            | cons e es =>
              obtain ⟨h1, h2⟩ := noStar_cons g1 env
              refine PyProof.Rows.callWith_method1 (O2 q2 c₁ fun vvs h₂ news₂ tk₂ rvs a₂ p₂ => ?_) h1 (noStar_any h2)
              obtain ⟨x1, y1, rfl, r1, rvs⟩ := rvs.inv1
              cases rvs.inv0
              obtain ⟨t1, rfl⟩ := r1
              exact SC.lstripChars (fun t' k => hQ _ h₂ news₂ k ⟨t', rfl⟩ a₂ (p₁.trans p₂)) (by rw [str_length]; unfold sizeLine; omega)
          · cases h
        · rename_i i hp₂ q2
          split at h
          · rename_i vs e1 q3
            split at h
            · rename_i ts q4
              split at h
              · rename_i q5; cases h
                have q5 := nblt q5
                obtain ⟨e1, e2⟩ := Bool.and_eq_true_iff.mp e1
                obtain ⟨e1, e0⟩ := Bool.and_eq_true_iff.mp e1
                rw [eqS_iff] at e1; subst e1
                have e2 : st = [] := by simpa using e2
                subst e2
                rw [nJ_eq]
                refine GM.join ?_
                cases args with
                | nil => cases e0
                | cons e es =>
                  obtain ⟨h1, h2⟩ := noStar_cons g1 env
                  refine PyProof.Rows.callWith_method1 (O2 q2 c₁ fun vvs h₂ news₂ tk₂ rvs a₂ p₂ => ?_) h1 (noStar_any h2)
                  obtain ⟨x1, y1, rfl, r1, rvs⟩ := rvs.inv1
                  cases rvs.inv0
                  obtain ⟨l, items, rfl, hl, r2⟩ := RO_list (s := { s with heap := h₂, toks := tk₂ }) a₂ q3 r1
                  refine join_listW hl (strsA_ok q4 r2) (by decide) ?_ fun t' k => ?_
                  · rw [strs_len, List.length_map]; omega
                  · refine hQ _ h₂ news₂ k ⟨t', ?_⟩ a₂ (p₁.trans p₂)
                    unfold Txt.join
                    rw [PySem.StrLaws.glued_eq_join, join_flat]
              · cases h
            · cases h
          · cases h
        · cases h
      · rename_i i
        split at h
        · rename_i vs0 q2
          split at h
          · rename_i y hp₂ e1 q3
            split at h
            · rename_i vs q4
              split at h
              · rename_i q5; cases h
                have q5 := nblt q5
                obtain ⟨e1, e0⟩ := Bool.and_eq_true_iff.mp e1
                rw [eqS_iff] at e1; subst e1
                rw [nA_eq]
                obtain ⟨l, ob, n1, hl, ro, ax⟩ := a₁.led.get q2
                obtain ⟨l', ax', rfl⟩ := rv
                have : l' = l := by rw [ax] at ax'; exact (Option.some.inj ax').symm
                subst this
                obtain ⟨its, k0, rfl, _⟩ := ro
                refine getMethod_append_N a₁.led.ns (List.mem_append_right _ (List.mem_of_getElem? n1)) ?_ rfl rfl
                cases args with
                | nil => cases e0
                | cons e es =>
                  obtain ⟨h1, h2⟩ := noStar_cons g1 env
                  refine PyProof.Rows.callWith_method1 (O2 q3 c₁ fun vvs h₂ news₂ tk₂ rvs a₂ p₂ => ?_) h1 (noStar_any h2)
                  obtain ⟨x1, y1, rfl, r1, rvs⟩ := rvs.inv1
                  cases rvs.inv0
                  obtain ⟨l2, ob2, n2, hl2, ro2, ax2⟩ := a₂.led.get q4
                  have : l2 = l' := by have := pre_get p₂ ax; rw [ax2] at this; exact Option.some.inj this
                  subst this
                  obtain ⟨its2, k2, rfl, r2⟩ := ro2
                  refine append_K (news := ext ++ news₂) a₂.fr a₂.led.ns (a₂.upd n2) (fun h₃ F N => ?_) (by have := r2.length; simp at this; unfold sizeLine; omega)
                  refine hQ _ h₃ _ tk₂ rfl (a₂.of_upd n2 F N ⟨its2.push x1, k2 + 1, rfl, ?_⟩) (by rw [set_adr n2]; exact p₁.trans p₂)
                  rw [Array.toList_push]
                  exact r2.append (.one r1)
              · cases h
            · cases h
          · cases h
        · split at h
          · rename_i f q3
            refine methA_ok TO c.bs a₁ q3 rv ?_
            split at h
            · refine PySem.W.callWith_K0 (K := KK w.params) (c.bs.X.keeps a₁.fr.keep) (keepM TO q3) (wpAny_call ?_)
              exact O3 h c.bs c'.room a₁ (.one rv) fun vv h₂ news₂ tk₂ r₂ a₂ p₂ => hQ vv h₂ news₂ tk₂ r₂ a₂ (p₁.trans p₂)
            · rename_i e es
              split at h
              · rename_i vs hp₂ q4
                exact callF O2 O3 c₁ (vf := [.ref i]) (keepM TO q3) g1 (.one rv) q4 h fun vv h₂ news₂ tk₂ r₂ a₂ p₂ => hQ vv h₂ news₂ tk₂ r₂ a₂ (p₁.trans p₂)
              · cases h
          · cases h
        · cases h
      · cases h
    · cases h
end
end Mine
namespace Mine
section
variable {prog : Program} {w : World} {A : Around} {E : Value → Shared → Prop} {s : Shared} {κ : Kap} {W : Win} {D : Tab} {hp hp' : Hp} {n : Nat} {r : Rc}
variable {h₀ : Heap} {L : Addr} {m : Str → Option Value} {ext news : List (Addr × Obj)} {env : Env} {sc : Scope} {loc : Loc} {value slice : Expr}
/-! a tuple's slice up to a place -/
theorem adjust_to (b n : Nat) (hb : b ≤ n) : Builtin.Slice.sliceAdjust none (some (b : Int)) 1 (n : Int) = ((0 : Int), (b : Int)) := by
  unfold Builtin.Slice.sliceAdjust
  have h1 : ¬ ((1 : Int) < 0) := by omega
  have h2 : ¬ ((b : Int) < 0) := by omega
  simp only [h1, h2, if_false]
  congr 1
  omega
theorem places_to (b : Nat) : Builtin.Slice.slicePlaces 0 (b : Int) 1 = b := by
  unfold Builtin.Slice.slicePlaces
  have h1 : (1 : Int) > 0 := by omega
  simp only [h1, if_true, Int.ediv_one]
  split <;> omega
theorem sliceApplied_to {sl : Addr} {b n : Nat} {u : Tok} {Q : Int × Int × Nat → Shared → Prop} (hs : s.heap.IsSliceOf sl .none (.int b u) .none) (hb : b ≤ n) (h : Q (0, 1, b) s) :
    wpAny (model prog w) A (Builtin.Slice.sliceApplied (.ref sl) (pure (n : Int))) Q E s := by
  obtain ⟨os, hos, hcs, hds⟩ := id hs
  unfold Builtin.Slice.sliceApplied Builtin.Slice.sliceFields
  refine wpAny_bind (wpAny_bind (wpAny_field hos hds (x := .none) rfl (wpAny_bind (wpAny_field hos hds (x := .int b u) rfl (wpAny_bind (wpAny_field hos hds (x := .none) rfl (wpAny_pure ?_)))))))
  refine wpAny_bind (slicePart_none ?_)
  show wpAny _ _ (if ((1 : Int) == 0) = true then _ else _) _ _ s
  rw [if_neg (by decide)]
  refine wpAny_bind (slicePart_none (wpAny_bind (slicePart_int (wpAny_bind (wpAny_pure ?_)))))
  show wpAny _ _ (match Builtin.Slice.sliceAdjust none (some (b : Int)) 1 (n : Int) with | (lo, hi) => pure (lo, (1 : Int), Builtin.Slice.slicePlaces lo hi 1)) _ _ s
  rw [adjust_to b n hb]
  show wpAny _ _ (pure ((0 : Int), (1 : Int), Builtin.Slice.slicePlaces 0 (b : Int) 1)) _ _ s
  rw [places_to b]
  exact wpAny_pure h
theorem pick_to (xs : Array Value) (b : Nat) : ((List.range b).filterMap fun (k : Nat) => xs[((0 : Int) + (k : Int) * 1).toNat]?).toArray = (xs.toList.take b).toArray := by
  have e : (fun (k : Nat) => xs[((0 : Int) + (k : Int) * 1).toNat]?) = fun k => xs[0 + k]? := by
    funext k
    have : ((0 : Int) + (k : Int) * 1).toNat = 0 + k := by omega
    rw [this]
  rw [e]
  have := pick_run xs 0 b
  rw [List.filterMap_map] at this
  have e2 : ((fun x => xs[x]?) ∘ fun x => 0 + x) = fun k => xs[0 + k]? := rfl
  rw [e2] at this
  rw [this, List.drop_zero]
theorem getItem_tuple_to {t sl : Addr} {items : Array Value} {b : Nat} {u : Tok} {Q : Value → Shared → Prop} (ht : IsTup s.heap t items) (hs : s.heap.IsSliceOf sl .none (.int b u) .none) (hb : b < items.size)
    (h : Q (.ref s.heap.objs.size) { s with heap := s.heap.push { cls := .type "tuple", data := .seq (items.toList.take b).toArray } })
    (hsz : items.size ≤ sizeLine) : wpAny (model prog w) A (getItem (.ref t) (.ref sl)) Q E s := by
  have hdrop : sizeOk (.seq (items.toList.take b).toArray) := by
    show (items.toList.take b).toArray.size ≤ sizeLine
    rw [List.size_toArray, List.length_take, Array.length_toList]
    omega
  obtain ⟨os, hos, hcs, hds⟩ := id hs
  have hTs : s.TypeIs (.ref sl) "slice" := ⟨os, hos, hcs⟩
  unfold getItem
  try with_reducible refine wpAny_holding ?_
  first | refine wpAny_bind (wpAny_pure ?_) | skip
  refine wpAny_bind (wpAny_sequenceKey ht.typeIs (by decide) ?_)
  refine wpAny_bind (wpAny_callSpecial?_slot (name := Str.ofString "__getitem__") ht.typeIs slot_tuple_getitem
    (wpAny_call_entry slot_tuple_getitem ht.typeIs entry_tuple_getitem ?_ (args_tuple_getitem _ _)))
  show wpAny _ _ (Builtin.Tuple.tupleItemsOf (.ref t) >>= _) _ _ s
  refine wpAny_bind (tupleItemsOf_ ht ?_)
  refine wpAny_bind (wpAny_typeOf hTs ?_)
  rw [if_pos (by decide)]
  refine wpAny_bind (sliceApplied_to hs (Nat.le_of_lt hb) ?_)
  have hno : ¬ (((0 : Int) == 0 && (1 : Int) == 1 && b == items.size) = true) := by
    have : (b == items.size) = false := by rw [beq_eq_false_iff_ne]; omega
    rw [this]; simp
  show wpAny _ _ (if ((0 : Int) == 0 && (1 : Int) == 1 && b == items.size) = true then _ else _) _ _ s
  rw [if_neg hno, pick_to items b]
  first
    | exact wpAny_bind (m := Builtin.Tuple.tupleExact _) (wpAny_newObj_type (wpAny_pure ⟨_, rfl, wpAny_pure h⟩) hdrop)
    | exact wpAny_bind (m := Builtin.Tuple.tupleExact _) (wpAny_newObj_type (wpAny_bind (wpAny_pure (wpAny_pure ⟨_, rfl, wpAny_pure h⟩))) hdrop)
    | exact wpAny_bind (wpAny_bind (m := Builtin.Tuple.tupleExact _) (wpAny_newObj_type (wpAny_pure (wpAny_pure ⟨_, rfl, wpAny_pure h⟩)) hdrop))
    | exact wpAny_bind (wpAny_bind (m := Builtin.Tuple.tupleExact _) (wpAny_newObj_type (wpAny_pure ⟨_, rfl, wpAny_pure h⟩) hdrop))
/-- the state with a slice object in it -/
noncomputable abbrev slSt (s : Shared) (l u : Value) : Shared := { s with heap := s.heap.push { cls := .type "slice", data := .fields #[l, u, .none] } }
theorem slice_tup_ok {t : Addr} {items : Array Value} {b : Nat} {u : Tok} {lo hi : Option Expr} {sp : Pos} {Q : Value → Shared → Prop} (ht : IsTup s.heap t items) (hb : b < items.size) (hsz : items.size ≤ sizeLine)
    (h : Q (.ref (s.heap.objs.size + 1)) { s with heap := (s.heap.push { cls := .type "slice", data := .fields #[.none, .int b u, .none] }).push { cls := .type "tuple", data := .seq (items.toList.take b).toArray } }) :
    wpAny (model prog w) A (subscriptTail value (.Slice lo hi none sp) (.ref t) (.ref s.heap.objs.size)) Q E (slSt s .none (.int b u)) := by
  have ht' : IsTup (s.heap.push { cls := .type "slice", data := .fields #[.none, .int b u, .none] }) t items := ht.keeps fun _ _ e => Heap.get?_push_of_some _ e
  refine kba_turn (value' := nm0) (fun _ => rfl) (subscriptTail_ops (ops := [.ref s.heap.objs.size, .ref t]) (s := slSt s .none (.int b u)) ht'.typeIs slot_tuple_getitem.lookup
    (getItem_tuple_to ht' (Heap.IsSliceOf.new ..) hb ?_ hsz) rfl (fun _ => rfl))
  show Q (.ref (s.heap.push _).objs.size) _
  rw [Heap.size_push]
  exact h
theorem slice_list_ok {l : Addr} {items : Array Value} {vl vu : Value} {lo hi : Option Int} {elo ehi : Option Expr} {sp : Pos} {Q : Value → Shared → Prop} (hl : s.heap.IsList l items) (pl : IsPart vl lo) (pu : IsPart vu hi) (hsz : items.size ≤ sizeLine)
    (h : Q (.ref (s.heap.objs.size + 1)) { s with heap := (s.heap.push { cls := .type "slice", data := .fields #[vl, vu, .none] }).push { cls := .type "list", data := .seq (slicePick items lo hi none) } }) :
    wpAny (model prog w) A (subscriptTail value (.Slice elo ehi none sp) (.ref l) (.ref s.heap.objs.size)) Q E (slSt s vl vu) :=
  kba_turn (value' := nm0) (fun _ => rfl) (slice_listK hl pl pu h rfl (fun _ => rfl) hsz)
theorem pick_up (items : Array Value) (k : Nat) : (slicePick items none (some (Int.ofNat k)) none).toList = items.toList.take k := by
  have e : sliceBounds none (some (Int.ofNat k)) none items.size = (((0 : Nat) : Int), ((min k items.size : Nat) : Int), 1) := by
    simp only [sliceBounds, Option.getD_none, show (1 : Int) > 0 by decide, if_true, if_neg (show ¬ (Int.ofNat k < 0) by simp)]
    congr 1
    congr 1
    simp; omega
  rw [kmk_pick_nat _ e]
  show ((items.toList.drop 0).take (min k items.size - 0)) = _
  rw [List.drop_zero, Nat.sub_zero, ← Array.length_toList, kmk_take_min]
theorem pick_dn (items : Array Value) (k : Nat) : (slicePick items (some (Int.ofNat k)) none none).toList = items.toList.drop k := by
  have e : sliceBounds (some (Int.ofNat k)) none none items.size = (((min k items.size : Nat) : Int), ((items.size : Nat) : Int), 1) := by
    simp only [sliceBounds, Option.getD_none, show (1 : Int) > 0 by decide, if_true, if_neg (show ¬ (Int.ofNat k < 0) by simp)]
    congr 1
    simp; omega
  rw [kmk_pick_nat _ e]
  show ((items.toList.drop (min k items.size)).take (items.size - min k items.size)) = _
  rw [← Array.length_toList, kmk_drop_min, List.take_of_length_le (by simp; omega)]
/-- two objects laid down: the slice, then what the slice gives -/
theorem At.two (a : At κ hp h₀ L m ext news s.heap) (sl : Obj) (o : Obj) (hf : sl.isFreed = false) (hf2 : o.isFreed = false) {ao : AO} (r : RO κ (adr (news ++ [(s.heap.objs.size + 1, o)])) ao o) :
    At κ (hp ++ [ao]) h₀ L m ext (news ++ [(s.heap.objs.size + 1, o)]) ((s.heap.push sl).push o) := by
  have a1 : At κ hp h₀ L m ext news ((s.heap.push sl).push o) := a.keeps fun b ob e => Heap.get?_push_of_some _ (Heap.get?_push_of_some _ e)
  have sz : (s.heap.push sl).objs.size = s.heap.objs.size + 1 := Heap.size_push ..
  have g : ((s.heap.push sl).push o).get? (s.heap.objs.size + 1) = some o := by rw [← sz]; exact Heap.get?_push_size _ hf2
  have ll := L_lt a
  refine a1.grow a1 g (fun e => ?_) ?_ (fun e => ?_) r
  · rw [← e] at ll; exact absurd ll (by simp)
  · cases q : h₀.get? (s.heap.objs.size + 1) with
    | none => rfl
    | some ob => exact absurd (base_lt a q) (by simp)
  · exact absurd (adr_lt a _ e) (by simp)
theorem behindT_ok : ∀ {l l' r : List TA}, behindT l l' = some r → l = l' ++ r
  | l, [], r, h => by unfold behindT at h; cases h; rfl
  | [], _ :: _, r, h => by cases h
  | a :: x, b :: y, r, h => by
    unfold behindT at h
    split at h
    · rename_i q; rw [eqTA_iff q, behindT_ok h]; rfl
    · cases h
theorem txt_to {x y : List Nat} (u : Tok) : Txt.slice ⟨⟨x ++ y⟩⟩ none (some (Int.ofNat x.length)) = ⟨⟨x⟩⟩ := by
  have e := beq_iff_eq.mp (slice_closes_to (x := ⟨⟨x ++ y⟩⟩) (j := Int.ofNat x.length) ⟨by simp, by simp; omega⟩)
  rw [e]
  show (⟨(((x ++ y).drop (Int.toNat 0)).take (Int.ofNat x.length - 0).toNat).toArray⟩ : Str) = _
  have e1 : (Int.ofNat x.length - 0).toNat = x.length := by simp
  rw [e1]
  show (⟨⟨((x ++ y).drop 0).take x.length⟩⟩ : Str) = _
  rw [List.drop_zero, List.take_append_of_le_length (Nat.le_refl _), List.take_length]
theorem txt_from {x y : List Nat} : Txt.slice ⟨⟨x ++ y⟩⟩ (some (Int.ofNat x.length)) none = ⟨⟨y⟩⟩ := by
  have e := slice_from_eq (x := ⟨⟨x ++ y⟩⟩) (i := Int.ofNat x.length) (b := Int.ofNat (x ++ y).length) (by simp) (by show (Int.ofNat _) ≤ ((x ++ y).length : Int); simp; omega) rfl
  rw [e]
  show (⟨⟨((x ++ y).drop (Int.ofNat x.length).toNat).take (Int.ofNat (x ++ y).length - Int.ofNat x.length).toNat⟩⟩ : Str) = _
  have e1 : (Int.ofNat (x ++ y).length - Int.ofNat x.length).toNat = y.length := by simp; omega
  have e2 : (Int.ofNat x.length).toNat = x.length := rfl
  rw [e1, e2, List.drop_append_of_le_length (Nat.le_refl _), List.drop_length, List.nil_append, List.take_length]
theorem sliceTo_ok (a : At κ hp h₀ L m ext news s.heap) {x j y : AV} {vx vj : Value} {elo ehi : Option Expr} {sp : Pos} {Q : Value → Shared → Prop} (h : sliceTo hp x j = some (y, hp')) (rx : RV κ (adr news) x vx) (rj : RV κ (adr news) j vj)
    (hQ : PV κ hp' h₀ L m ext news s y Q) : wpAny (model prog w) A (subscriptTail value (.Slice elo ehi none sp) vx (.ref s.heap.objs.size)) Q E (slSt s .none vj) := by
  unfold sliceTo at h
  split at h
  · rename_i l l'
    split at h
    · rename_i r0 q1 q2; cases h
      obtain ⟨t, rfl⟩ := rx; obtain ⟨u, rfl⟩ := rj
      refine kba_turn (value' := nm0) (fun _ => rfl) (slice_strN_ns (news := ext ++ news) a.fr a.led.ns (fun h' t' k F N => hQ _ h' news k ⟨t', ?_⟩ (a.withNews F N) (pre_refl _)) rfl (fun _ => rfl) ?_)
      · rw [behindT_ok q2, conc_append, txt_to u]
      · rw [str_length]; have := okT_len κ q1; unfold sizeLine; omega
    · cases h
  · rename_i i k
    split at h
    · rename_i b
      split at h
      · rename_i vs e
        split at h
        · rename_i q; cases h
          have q := nblt q
          obtain ⟨l, its, rfl, hl, r2⟩ := RO_list a e rx
          obtain ⟨u, rfl⟩ := rj
          have hsz : its.size < 1000 := by have := r2.length; simp at this; omega
          refine slice_list_ok hl .none (.int _ _) (by unfold sizeLine; omega) ?_
          have ro : RO κ (adr (news ++ [(s.heap.objs.size + 1, { cls := .type "list", data := .seq (slicePick its none (some (Int.ofNat b)) none) })])) (.list (vs.take b)) { cls := .type "list", data := .seq (slicePick its none (some (Int.ofNat b)) none) } :=
            ⟨_, _, rfl, by rw [pick_up]; exact (r2.take b).mono fun _ _ z => z.mono (adr_pre _ _)⟩
          exact hQ _ _ _ s.toks a.ref_last (a.two _ _ rfl rfl ro) (adr_pre _ _)
        · cases h
      · rename_i vs e
        split at h
        · rename_i q; cases h
          obtain ⟨q1, q2⟩ := Bool.and_eq_true_iff.mp q
          have q1 := nblt q1; have q2 := nblt q2
          obtain ⟨l, its, rfl, hl, r2⟩ := RO_tup a e rx
          obtain ⟨u, rfl⟩ := rj
          have hsz : its.size = vs.length := by have := r2.length; simp at this; omega
          refine slice_tup_ok hl (by omega) (by unfold sizeLine; omega) ?_
          have ro : RO κ (adr (news ++ [(s.heap.objs.size + 1, { cls := .type "tuple", data := .seq (its.toList.take b).toArray })])) (.tup (vs.take b)) { cls := .type "tuple", data := .seq (its.toList.take b).toArray } :=
            ⟨_, _, rfl, (r2.take b).mono fun _ _ z => z.mono (adr_pre _ _)⟩
          exact hQ _ _ _ s.toks a.ref_last (a.two _ _ rfl rfl ro) (adr_pre _ _)
        · cases h
      · cases h
    · cases h
  · cases h
theorem sliceFrom_ok (a : At κ hp h₀ L m ext news s.heap) {x j y : AV} {vx vj : Value} {elo ehi : Option Expr} {sp : Pos} {Q : Value → Shared → Prop} (h : sliceFrom hp x j = some (y, hp')) (rx : RV κ (adr news) x vx) (rj : RV κ (adr news) j vj)
    (hQ : PV κ hp' h₀ L m ext news s y Q) : wpAny (model prog w) A (subscriptTail value (.Slice elo ehi none sp) vx (.ref s.heap.objs.size)) Q E (slSt s vj .none) := by
  unfold sliceFrom at h
  split at h
  · rename_i l l'
    split at h
    · rename_i r0 q1 q2; cases h
      obtain ⟨t, rfl⟩ := rx; obtain ⟨u, rfl⟩ := rj
      refine kba_turn (value' := nm0) (fun _ => rfl) (slice_strN_sn (news := ext ++ news) a.fr a.led.ns (fun h' t' k F N => hQ _ h' news k ⟨t', ?_⟩ (a.withNews F N) (pre_refl _)) rfl (fun _ => rfl) ?_)
      · rw [behindT_ok q2, conc_append, txt_from]
      · rw [str_length]; have := okT_len κ q1; unfold sizeLine; omega
    · cases h
  · rename_i i k
    split at h
    · rename_i b
      split at h
      · rename_i vs e
        split at h
        · rename_i q; cases h
          have q := nblt q
          obtain ⟨l, its, rfl, hl, r2⟩ := RO_list a e rx
          obtain ⟨u, rfl⟩ := rj
          have hsz : its.size < 1000 := by have := r2.length; simp at this; omega
          refine slice_list_ok hl (.int _ _) .none (by unfold sizeLine; omega) ?_
          have ro : RO κ (adr (news ++ [(s.heap.objs.size + 1, { cls := .type "list", data := .seq (slicePick its (some (Int.ofNat b)) none none) })])) (.list (vs.drop b)) { cls := .type "list", data := .seq (slicePick its (some (Int.ofNat b)) none none) } :=
            ⟨_, _, rfl, by rw [pick_dn]; exact (r2.drop b).mono fun _ _ z => z.mono (adr_pre _ _)⟩
          exact hQ _ _ _ s.toks a.ref_last (a.two _ _ rfl rfl ro) (adr_pre _ _)
        · cases h
      · cases h
    · cases h
  · cases h
theorem subA_ok (TO : TabOk D w (KK w.params)) (KW : Kw κ W) (O : EvOk κ w prog n r.ev) {v sl : Expr} {pos : Pos} {y : AV} {Q : Value → Shared → Prop} (h : subA D W r sc loc hp v sl = some (y, hp'))
    (c : Cx κ w n A env sc loc hp h₀ L m ext news s.heap) (hQ : PV κ hp' h₀ L m ext news s y Q) : wpAny (model prog w) A (eval (.Subscript v sl pos) env) Q E s := by
  unfold subA at h
  split at h
  · rename_i x hp₁ q1
    refine Subscript_ (O q1 c fun vx h₁ news₁ tk₁ rx a₁ p₁ => ?_)
    have c₁ := c.next a₁ p₁
    split at h
    · rename_i ea eb sp
      split at h
      · rename_i i hp₂ q2
        split at h
        · rename_i j hp₃ q3
          split at h
          · split at h
            · rename_i y' q4; cases h
              refine wpAny_Slice (wpAny_evalPart_some (O q2 c₁ fun vi h₂ news₂ tk₂ ri a₂ p₂ => wpAny_evalPart_some (O q3 (c₁.next a₂ p₂) fun vj h₃ news₃ tk₃ rj a₃ p₃ => wpAny_evalPart_none ?_)))
              obtain ⟨t, rfl⟩ := rx
              obtain ⟨u1, rfl⟩ := ri
              obtain ⟨u2, rfl⟩ := rj
              refine kba_turn (value' := nm0) (fun _ => rfl) (slice_strN_ss (s := { s with heap := h₃, toks := tk₃ }) (news := ext ++ news₃) a₃.fr a₃.led.ns (fun h' t' k F N => hQ _ h' news₃ k (sliceA_ok KW q4 t') (a₃.withNews F N) ((p₁.trans p₂).trans p₃)) rfl (fun _ => rfl) ?_)
              rw [str_length]; have := KW.short; unfold sizeLine; omega
            · cases h
          · cases h
        · cases h
      · cases h
    · rename_i eb sp
      split at h
      · rename_i j hp₂ q2
        refine wpAny_Slice (wpAny_evalPart_none (wpAny_evalPart_some (O q2 c₁ fun vj h₂ news₂ tk₂ rj a₂ p₂ => wpAny_evalPart_none ?_)))
        exact sliceTo_ok (s := { s with heap := h₂, toks := tk₂ }) a₂ h (rx.mono p₂) rj fun vv h₃ news₃ tk₃ r₃ a₃ p₃ => hQ vv h₃ news₃ tk₃ r₃ a₃ ((p₁.trans p₂).trans p₃)
      · cases h
    · rename_i ea sp
      split at h
      · rename_i j hp₂ q2
        refine wpAny_Slice (wpAny_evalPart_some (O q2 c₁ fun vj h₂ news₂ tk₂ rj a₂ p₂ => wpAny_evalPart_none (wpAny_evalPart_none ?_)))
        exact sliceFrom_ok (s := { s with heap := h₂, toks := tk₂ }) a₂ h (rx.mono p₂) rj fun vv h₃ news₃ tk₃ r₃ a₃ p₃ => hQ vv h₃ news₃ tk₃ r₃ a₃ ((p₁.trans p₂).trans p₃)
      · cases h
    · cases h
    · rename_i k1 k2 k3 k4
      split at h
      · rename_i i hp₂ q2
        split at h
        · rename_i y' q3; cases h
          have hn : notSlice sl = true := by
            cases sl <;> first | rfl | (exfalso; exact k4 _ _ _ _ rfl)
          exact O q2 c₁ fun vi h₂ news₂ tk₂ ri a₂ p₂ => itemA_ok TO c.bs KW a₂ hn q3 (rx.mono p₂) ri fun vv tk r₃ => hQ vv h₂ news₂ tk r₃ a₂ (p₁.trans p₂)
        · cases h
      · cases h
  · cases h
end
end Mine
namespace Mine
section
variable {prog : Program} {w : World} {A : Around} {E : Value → Shared → Prop} {s : Shared} {κ : Kap} {W : Win} {D : Tab} {hp hp' : Hp} {n : Nat} {r : Rc}
variable {h₀ h h' : Heap} {L : Addr} {m : Str → Option Value} {ext news : List (Addr × Obj)} {env : Env} {sc : Scope} {loc : Loc}
/-! new ground: the base is all that the ledger does not hold -/
noncomputable abbrev grnd (h : Heap) (l : List (Addr × Obj)) : Heap := hideAll h (adr l)
theorem grnd_get {l : List (Addr × Obj)} {b : Addr} {o : Obj} (e : h.get? b = some o) (hn : b ∉ adr l) : (grnd h l).get? b = some o := hideAll_get _ e hn
theorem base_notin (a : At κ hp h₀ L m ext news h) {b : Addr} {o : Obj} (e : h₀.get? b = some o) : b ∉ adr (ext ++ news) := fun q => by
  obtain ⟨p, hp, rfl⟩ := List.mem_map.mp q
  have := (a.led.ns p hp).2.2; rw [e] at this; cases this
theorem L_notin (a : At κ hp h₀ L m ext news h) : L ∉ adr (ext ++ news) := fun q => by
  obtain ⟨p, hp, e⟩ := List.mem_map.mp q
  exact (a.led.ns p hp).2.1 e
theorem grnd_base (a : At κ hp h₀ L m ext news h) : ∀ b o, h₀.get? b = some o → (grnd h (ext ++ news)).get? b = some o := fun b o e => grnd_get (a.fr.keep b o e) (base_notin a e)
theorem At.into (a : At κ hp h₀ L m ext news h) {Lc : Addr} {h₁ : Heap} {mc : Str → Option Value} (hns : h₁.Ns Lc mc) (hk : ∀ b o, h.get? b = some o → h₁.get? b = some o) (hL : h.objs.size ≤ Lc) :
    At κ hp (grnd h (ext ++ news)) Lc mc ext news h₁ := by
  refine ⟨⟨hns, fun b o e => hk b o (of_hideAll _ e), by rw [hideAll_size]; exact hL⟩, ⟨fun p hp => ⟨hk _ _ (a.led.ns p hp).1, fun e => ?_, hideAll_none _ (List.mem_map_of_mem hp)⟩, a.led.nd, a.led.ho⟩⟩
  have := adr_lt a p.1 (List.mem_map_of_mem hp)
  rw [e] at this
  exact absurd (Nat.lt_of_lt_of_le this hL) (Nat.lt_irrefl _)
theorem At.back {κ' : Kap} (a : At κ hp h₀ L m ext news h) {Lc : Addr} {mc : Str → Option Value} {hp' : Hp} {ext' news' : List (Addr × Obj)} {h' : Heap} (b : At κ' hp' (grnd h (ext ++ news)) Lc mc ext' news' h') : At κ' hp' h₀ L m ext' news' h' := by
  have old := grnd_base a
  obtain ⟨oL, es, ep, hL, hd, hk, hf⟩ := a.fr.ns
  have gL := grnd_get hL (L_notin a)
  refine ⟨⟨⟨oL, es, ep, b.fr.keep _ _ gL, hd, hk, hf⟩, fun x o e => b.fr.keep _ _ (old x o e), a.fr.above⟩, ⟨fun p hp => ⟨(b.led.ns p hp).1, fun e => ?_, ?_⟩, b.led.nd, b.led.ho⟩⟩
  · have := (b.led.ns p hp).2.2; rw [e, gL] at this; cases this
  · cases q : h₀.get? p.1 with
    | none => rfl
    | some o => have := (b.led.ns p hp).2.2; rw [old _ _ q] at this; cases this
theorem At.grnd_bs (a : At κ hp h₀ L m ext news h) (B : Bs w h₀) : Bs w (grnd h (ext ++ news)) := B.keeps (grnd_base a)
/-- a protected object more -/
theorem At.ext_add (a : At κ hp h₀ L m ext news h) {x : Addr} {o : Obj} (hx : h.get? x = some o) (hL : x ≠ L) (h0 : h₀.get? x = none) (hn : x ∉ adr (ext ++ news)) : At κ hp h₀ L m ((x, o) :: ext) news h := by
  refine ⟨a.fr, ⟨fun p hp => ?_, ?_, a.led.ho⟩⟩
  · rcases List.mem_cons.mp hp with rfl | hp
    · exact ⟨hx, hL, h0⟩
    · exact a.led.ns p hp
  · rw [List.cons_append, List.map_cons, List.nodup_cons]
    exact ⟨hn, a.led.nd⟩
theorem At.ext_push (a : At κ hp h₀ L m ext news h) (o : Obj) (hf : o.isFreed = false) : At κ hp h₀ L m ((h.objs.size, o) :: ext) news (h.push o) := by
  refine (a.keeps fun b ob e => Heap.get?_push_of_some _ e).ext_add (Heap.get?_push_size _ hf) (fun e => ?_) (base_size_none a) (size_fresh a)
  have := L_lt a; rw [← e] at this; exact Nat.lt_irrefl _ this
theorem At.ext_drop {e1 : List (Addr × Obj)} (a : At κ hp h₀ L m (e1 ++ ext) news h) : At κ hp h₀ L m ext news h := by
  refine ⟨a.fr, ⟨fun p hp => a.led.ns p ?_, ?_, a.led.ho⟩⟩
  · rw [List.append_assoc]; exact List.mem_append_right _ hp
  · have := a.led.nd
    rw [List.append_assoc, List.map_append] at this
    exact (List.nodup_append.mp this).2.1
/-- a protected object changed -/
theorem At.ext_set {e1 e2 : List (Addr × Obj)} {x : Addr} {o o' : Obj} (a : At κ hp h₀ L m (e1 ++ (x, o) :: e2) news h) (hk : ∀ b ob, b ≠ x → h.get? b = some ob → h'.get? b = some ob) (hx : h'.get? x = some o') :
    At κ hp h₀ L m (e1 ++ (x, o') :: e2) news h' := by
  have mem : (x, o) ∈ (e1 ++ (x, o) :: e2) ++ news := List.mem_append_left _ (List.mem_append_right _ (.head _))
  have hxx := a.led.ns _ mem
  have nd := a.led.nd
  have ap : ∀ p ∈ (e1 ++ e2) ++ news, p.1 ≠ x := fun p hp e => by
    rw [List.append_assoc, List.cons_append, List.map_append, List.map_cons] at nd
    have h1 := (List.nodup_append.mp nd)
    have h2 := List.nodup_cons.mp h1.2.1
    rw [List.append_assoc] at hp
    rcases List.mem_append.mp hp with hp | hp
    · exact h1.2.2 p.1 (List.mem_map_of_mem hp) x (.head _) e
    · exact h2.1 (List.mem_map.mpr ⟨p, hp, e⟩)
  refine ⟨⟨a.fr.ns.at' fun ob e => hk L ob (Ne.symm hxx.2.1) e, fun b ob q => hk b ob (fun z => ?_) (a.fr.keep b ob q), a.fr.above⟩, ⟨fun p hp => ?_, ?_, a.led.ho⟩⟩
  · have := hxx.2.2; rw [← z, q] at this; cases this
  · have main : p ∈ (e1 ++ e2) ++ news → h'.get? p.1 = some p.2 ∧ p.1 ≠ L ∧ h₀.get? p.1 = none := fun q => by
      have q' : p ∈ (e1 ++ (x, o) :: e2) ++ news := by
        rcases List.mem_append.mp q with q | q
        · refine List.mem_append_left _ ?_
          rcases List.mem_append.mp q with q | q
          · exact List.mem_append_left _ q
          · exact List.mem_append_right _ (.tail _ q)
        · exact List.mem_append_right _ q
      exact ⟨hk _ _ (ap p q) (a.led.ns p q').1, (a.led.ns p q').2⟩
    rcases List.mem_append.mp hp with hp | hp
    · rcases List.mem_append.mp hp with hp | hp
      · exact main (List.mem_append_left _ (List.mem_append_left _ hp))
      · rcases List.mem_cons.mp hp with rfl | hp
        · exact ⟨hx, hxx.2⟩
        · exact main (List.mem_append_left _ (List.mem_append_right _ hp))
    · exact main (List.mem_append_right _ hp)
  · have e : ((e1 ++ (x, o') :: e2) ++ news).map (·.1) = ((e1 ++ (x, o) :: e2) ++ news).map (·.1) := by simp
    rw [e]; exact nd
/-- an object goes over from the protected ones to the ledger -/
theorem At.ext_out {x : Addr} {o : Obj} {ao : AO} (a : At κ hp h₀ L m ((x, o) :: ext) news h) (r : RO κ (adr (news ++ [(x, o)])) ao o) : At κ (hp ++ [ao]) h₀ L m ext (news ++ [(x, o)]) h := by
  have a1 : At κ hp h₀ L m ext news h := At.ext_drop (e1 := [(x, o)]) a
  have hx := a.led.ns (x, o) (.head _)
  have nd := a.led.nd
  rw [List.cons_append, List.map_cons, List.nodup_cons] at nd
  exact a1.grow a1 hx.1 hx.2.1 hx.2.2 nd.1 r
theorem At.ext_get {e1 e2 : List (Addr × Obj)} {x : Addr} {o : Obj} (a : At κ hp h₀ L m (e1 ++ (x, o) :: e2) news h) : h.get? x = some o :=
  (a.led.ns _ (List.mem_append_left _ (List.mem_append_right _ (.head _)))).1
/-- a name stored -/
theorem Cx.store (c : Cx κ w n A env sc loc hp h₀ L m ext news s.heap) {x : Str} {v : AV} {vv : Value} (hx : isLoc sc x = true) (rv : RV κ (adr news) v vv) {Q : Unit → Shared → Prop}
    (hQ : ∀ h' m' tk, Cx κ w n A env sc (put x v loc) hp h₀ L m' ext news h' → Q () { s with heap := h', toks := tk }) : wpAny (model prog w) A (storeName env x vv) Q E s := by
  refine wpAny_storeName_local (c.isL hx) (by rw [c.env.loc]; exact c.st.fr.ns) (fun h' hn hs => ?_) (by rw [c.kind]; rfl)
  rw [c.env.loc] at hn hs
  exact hQ h' _ _ ⟨c.bs, c.room, c.env, c.st.withNews (c.st.fr.set hn hs) (c.st.led.ns.set hs), c.loc.set hx rv⟩
/-! comprehensions -/
theorem compScL_ok : ∀ {l : List (Str × NameKind)}, compScL sc l = true → ∀ x ∈ l, x.2 ≠ .free ∧ x.2 ≠ .cell ∧ (x.2 = .local → sc.names.lookup x.1 = some .local)
  | [], _, x, hx => by cases hx
  | (y, k) :: l, h, x, hx => by
    unfold compScL at h
    split at h
    · rename_i e; cases e
    · rename_i e; cases e
      split at h
      · rename_i q
        rcases List.mem_cons.mp hx with rfl | hx
        · exact ⟨by simp, by simp, fun _ => isLoc_iff.mp q⟩
        · exact compScL_ok h x hx
      · cases h
    · rename_i e; cases e
      rcases List.mem_cons.mp hx with rfl | hx
      · exact ⟨by simp, by simp, fun e => by cases e⟩
      · exact compScL_ok h x hx
    · cases h
theorem isFun_ok (h : isFun sc = true) : sc.kind = .function := by
  unfold isFun at h
  split at h
  · assumption
  · cases h
theorem notSet_fold {e : Expr} (h : notSet e = true) (env : Env) (x : Value) : foldedSetIterable e env x = pure x := by
  cases e <;> first | rfl | cases h
theorem Heap.IsList.of_get {o : Obj} {l : Addr} {items : Array Value} {k : Nat} (e : h.get? l = some o) (hc : o.cls = .type "list") (hd : o.data = .seq items k) : h.IsList l items := ⟨o, e, hc, k, hd⟩
theorem compLoop_ok (TO : TabOk D w (KK w.params)) (O : EvOk κ w prog n r.ev) {elt it : Expr} {x : Str} {px pos : Pos} {csc : Scope} {cenv : Env} {av : AV} {l : Addr} {g : Heap} {Lc I acc : Addr} {e0 news₀ : List (Addr × Obj)} {hpe : Hp} {ysAll : List AV} {R : Result → Shared → Prop}
    (hx : isLoc csc x = true) (s₀ : Shared) (hlen : ysAll.length < 1000)
    (hR : ∀ h' tk mc its k news', At κ hpe g Lc mc ((acc, PySem.W.listOf its k) :: e0) news' h' → adr news₀ <+: adr news' → All2 (RV κ (adr news')) ysAll its.toList → R (.ok .next) { s₀ with heap := h', toks := tk })
    (f : Nat) (ix : Nat) (hp₁ : Hp) (ysD ysR : List AV) (hA : compA D r csc x elt (.seq true av) f ix hp₁ = some (ysR, hpe)) (hy : ysAll = ysD ++ ysR)
    {mc : Str → Option Value} {iob : Obj} {its : Array Value} {k : Nat} {news' : List (Addr × Obj)} {h₁ : Heap} {tk : Nat} (rl : RV κ (adr news₀) av (.ref l)) (pp : adr news₀ <+: adr news')
    (B : Bs w g) (RM : Room n A) (EO : EnvOk cenv csc Lc) (a : At κ hp₁ g Lc mc ((I, iob) :: (acc, PySem.W.listOf its k) :: e0) news' h₁) (hi : h₁.IsListIter I l ix) (rd : All2 (RV κ (adr news')) ysD its.toList) :
    codeAny (model prog w) A (.compLoop (.ListComp elt [⟨.Name x px, it, [], 0⟩] csc pos) 0 (.ref I) (.ref acc) cenv) R { s₀ with heap := h₁, toks := tk } := by
  refine codeAny_compLoop_list (fun q s' => ∃ ix hp₁ ysD ysR mc iob its k news' h₁ tk, s' = { s₀ with heap := h₁, toks := tk } ∧ compA D r csc x elt (.seq true av) q ix hp₁ = some (ysR, hpe) ∧ ysAll = ysD ++ ysR ∧ adr news₀ <+: adr news' ∧
    At κ hp₁ g Lc mc ((I, iob) :: (acc, PySem.W.listOf its k) :: e0) news' h₁ ∧ h₁.IsListIter I l ix ∧ All2 (RV κ (adr news')) ysD its.toList) ?_ f ⟨ix, hp₁, ysD, ysR, mc, iob, its, k, news', h₁, tk, rfl, hA, hy, pp, a, hi, rd⟩
  rintro q s' ⟨ix, hp₁, ysD, ysR, mc, iob, its, k, news', h₁, tk, rfl, hA, hy, pp, a, hi, rd⟩
  cases q with
  | zero => cases hA
  | succ q =>
    unfold compA at hA
    have src : ∀ {vs : List AV}, seqK D hp₁ av = some (true, vs) → ∃ items, h₁.IsList l items ∧ All2 (RV κ (adr news')) vs items.toList := fun {vs} e => by
      obtain ⟨z, items, e1, r2, hl, _⟩ := seqK_ok (s := { s₀ with heap := h₁, toks := tk }) TO B a e (rl.mono pp)
      cases e1
      exact ⟨items, hl rfl, r2⟩
    split at hA
    · rename_i v e
      unfold srcAt at e
      simp only at e
      split at e
      · rename_i c vs e1
        cases c with
        | false => cases e
        | true =>
          simp only [Option.some.injEq] at e
          obtain ⟨items, hl, r2⟩ := src e1
          obtain ⟨xv, ex, rx⟩ := r2.item e
          split at hA
          · rename_i y hp₂ q1
            split at hA
            · rename_i ys hp₃ q2
              cases hA
              refine wpAny_pyNext_list_item hi hl ex fun h₂ hi₂ hs₂ => ?_
              obtain ⟨iob₂, gi, _⟩ := id hi₂
              have a₂ : At κ hp₁ g Lc mc ((I, iob₂) :: (acc, PySem.W.listOf its k) :: e0) news' h₂ := At.ext_set (e1 := []) a (fun b ob hb e => (hs₂.2 b hb).trans e) gi
              have c₂ : Cx κ w n A cenv csc [] hp₁ g Lc mc ((I, iob₂) :: (acc, PySem.W.listOf its k) :: e0) news' h₂ := ⟨B, RM, EO, a₂, fun y v h => by cases h⟩
              show wpAny (model prog w) A (assign (.Name x px) cenv xv) _ _ _
              refine wpAny_assign_Name (Cx.store (s := { s₀ with heap := h₂, toks := tk }) c₂ hx rx fun h₃ mc₃ tk₃ c₃ => ?_)
              have hi₃ : h₃.IsListIter I l (ix + 1) := ⟨iob₂, At.ext_get (e1 := []) c₃.st, by obtain ⟨o, g1, g2⟩ := hi₂; rw [gi] at g1; cases g1; exact g2⟩
              refine O q1 c₃ fun yv h₄ news₄ tk₄ ry a₄ p₄ => ?_
              have hi₄ : h₄.IsListIter I l (ix + 1) := ⟨iob₂, At.ext_get (e1 := []) a₄, by obtain ⟨o, g1, g2⟩ := hi₂; rw [gi] at g1; cases g1; exact g2⟩
              have hacc : h₄.IsList acc its := ⟨_, At.ext_get (e1 := [(I, iob₂)]) a₄, rfl, k, rfl⟩
              have hsz : its.size ≤ sizeLine := by
                have := rd.length; simp at this
                have h3 : ysAll.length = ysD.length + (y :: ys).length := by rw [hy, List.length_append]
                unfold sizeLine; omega
              have up : Upd acc (PySem.W.listOf its k) (PySem.W.listOf (its.push yv) (k + 1)) (((I, iob₂) :: (acc, PySem.W.listOf its k) :: e0) ++ news₄) (((I, iob₂) :: (acc, PySem.W.listOf (its.push yv) (k + 1)) :: e0) ++ news₄) := by
                have nd := a₄.led.nd
                rw [List.cons_append, List.cons_append, List.map_cons, List.map_cons, List.nodup_cons, List.nodup_cons] at nd
                exact .tail (fun e => nd.1 (by
                  have e : I = acc := e
                  show I ∈ acc :: _
                  rw [e]; exact .head _)) (.head fun p hp e => nd.2.1 (List.mem_map.mpr ⟨p, hp, e⟩))
              refine append_K a₄.fr a₄.led.ns up (fun h₅ F N => ?_) hsz
              have a₅ : At κ hp₂ g Lc mc₃ ((I, iob₂) :: (acc, PySem.W.listOf (its.push yv) (k + 1)) :: e0) news₄ h₅ := ⟨F, N, by
                have := a₄.led.nd
                simpa using this, a₄.led.ho⟩
              have hi₅ : h₅.IsListIter I l (ix + 1) := ⟨iob₂, At.ext_get (e1 := []) a₅, by obtain ⟨o, g1, g2⟩ := hi₂; rw [gi] at g1; cases g1; exact g2⟩
              refine ⟨q, Nat.lt_succ_self _, ix + 1, hp₂, ysD ++ [y], ys, mc₃, iob₂, its.push yv, k + 1, news₄, h₅, tk₄, rfl, q2, by rw [hy, List.append_assoc]; rfl, pp.trans p₄, a₅, hi₅, ?_⟩
              rw [Array.toList_push]
              exact (rd.mono fun _ _ z => z.mono p₄).append (.one ry)
            · cases hA
          · cases hA
      · cases e
    · rename_i e
      cases hA
      unfold srcAt at e
      simp only at e
      split at e
      · rename_i c vs e1
        cases c with
        | false => cases e
        | true =>
          simp only [Option.some.injEq] at e
          obtain ⟨items, hl, r2⟩ := src e1
          have en : items[ix]? = none := by
            have := r2.length
            simp at this e ⊢; omega
          refine wpAny_pyNext_list_end RM.hh hi hl en fun h₂ hx₂ => ?_
          rw [List.append_nil] at hy
          subst hy
          refine hR h₂ tk mc its k news' ((At.ext_drop (e1 := [(I, iob)]) a).keep (wr := [I]) (fun b o hb e => hx₂ b o (fun z => hb (by simp [z])) e) fun b hb => ?_) pp rd
          rw [List.mem_singleton.mp hb]
          have hI := a.led.ns (I, iob) (.head _)
          have nd := a.led.nd
          rw [List.cons_append, List.map_cons, List.nodup_cons] at nd
          exact ⟨hI.2.1, hI.2.2, nd.1⟩
      · cases e
    · cases hA
end
end Mine
namespace Mine
section
variable {prog : Program} {w : World} {A : Around} {E : Value → Shared → Prop} {s : Shared} {κ : Kap} {W : Win} {D : Tab} {hp hp' : Hp} {n : Nat} {r : Rc}
variable {h₀ h h' : Heap} {L : Addr} {m : Str → Option Value} {ext news : List (Addr × Obj)} {env : Env} {sc : Scope} {loc : Loc}
theorem At.ext_swap {p q : Addr × Obj} (a : At κ hp h₀ L m (p :: q :: ext) news h) : At κ hp h₀ L m (q :: p :: ext) news h := by
  refine ⟨a.fr, ⟨fun x hx => a.led.ns x ?_, ?_, a.led.ho⟩⟩
  · rcases List.mem_cons.mp hx with rfl | hx
    · exact .tail _ (.head _)
    · rcases List.mem_cons.mp hx with rfl | hx
      · exact .head _
      · exact .tail _ (.tail _ hx)
  · have nd := a.led.nd
    rw [List.cons_append, List.cons_append, List.map_cons, List.map_cons, List.nodup_cons, List.nodup_cons] at nd ⊢
    refine ⟨fun z => ?_, fun z => nd.1 (.tail _ z), nd.2.2⟩
    rcases List.mem_cons.mp z with z | z
    · exact nd.1 (by rw [z]; exact .head _)
    · exact nd.2.1 z
theorem comp_ok (TO : TabOk D w (KK w.params)) (O : EvOk κ w prog n r.ev) {elt it : Expr} {x : Str} {px pos : Pos} {csc : Scope} {v : AV} {hp₁ hp₂ : Hp} {vs ys : List AV} {Q : Value → Shared → Prop}
    (q1 : r.ev sc loc hp it = some (v, hp₁)) (q2 : seqK D hp₁ v = some (true, vs)) (hx : isLoc csc x = true) (hs : notSet it = true) (hc : compSc csc = true) (q3 : compA D r csc x elt (.seq true v) 1000 0 hp₁ = some (ys, hp₂)) (hl : ys.length < 1000)
    (c : Cx κ w n A env sc loc hp h₀ L m ext news s.heap) (hQ : PV κ (hp₂ ++ [.list ys]) h₀ L m ext news s (.ref hp₂.length) Q) :
    wpAny (model prog w) A (eval (.ListComp elt [⟨.Name x px, it, [], 0⟩] csc pos) env) Q E s := by
  obtain ⟨hk, hn⟩ := Bool.and_eq_true_iff.mp hc
  have hk := isFun_ok hk
  have hn := compScL_ok hn
  refine PySem.wpAny_ListComp (fun x hx => (hn x hx).1) hk (fun x hx => (hn x hx).2.2) (O q1 c fun xv h₁ news₁ tk₁ rv a₁ p₁ => ?_) (notSet_fold hs env)
  obtain ⟨l, items, rfl, r2, hli, _⟩ := seqK_ok (s := { s with heap := h₁, toks := tk₁ }) TO c.bs a₁ q2 rv
  refine wpAny_pyIter_list (hli rfl) ?_
  have a₂ := a₁.ext_push { cls := .type "list_iterator", data := .fields #[.ref l, .int 0 0] } rfl
  refine newList_N (s := { s with heap := h₁.push { cls := .type "list_iterator", data := .fields #[.ref l, .int 0 0] }, toks := tk₁ }) (vs := []) a₂.fr a₂.led.ns (fun h₃ F N => ?_) (by simp [sizeLine])
  have a₃ : At κ hp₁ h₀ L m (((h₁.push { cls := .type "list_iterator", data := .fields #[.ref l, .int 0 0] }).objs.size, PySem.W.listOf #[] 0) :: (h₁.objs.size, { cls := .type "list_iterator", data := .fields #[.ref l, .int 0 0] }) :: ext) news₁ h₃ :=
    ⟨F, N, by
      rw [List.cons_append, List.map_cons, List.nodup_cons]
      exact ⟨size_fresh a₂, a₂.led.nd⟩, a₂.led.ho⟩
  have a₃ := a₃.ext_swap
  refine wpAny_newFunctionEnv (fun x hx => (hn x hx).2.1) (fun x hx => by cases hx) (fun h₄ hns hsb => ?_) hk
  have k₄ : ∀ b o, h₃.get? b = some o → h₄.get? b = some o := fun b o e => (hsb.2 b (Nat.ne_of_lt (Heap.lt_size e))).trans (Heap.get?_push_of_some _ e)
  have a₄ := a₃.into hns k₄ (Nat.le_refl _)
  have B₄ := a₃.grnd_bs c.bs
  have hi : h₄.IsListIter h₁.objs.size l 0 := ⟨_, k₄ _ _ (At.ext_get (e1 := []) a₃), rfl, rfl⟩
  have EO : EnvOk { newEnv csc h₃.objs.size env.globals [] env.qual none .none (some env) builtinsNs with scope := csc } csc h₃.objs.size := ⟨rfl, hk, rfl, c.env.glob, c.env.blt⟩
  have main : codeAny (model prog w) A (.compLoop (.ListComp elt [⟨.Name x px, it, [], 0⟩] csc pos) 0 (.ref h₁.objs.size) (.ref (h₁.push { cls := .type "list_iterator", data := .fields #[.ref l, .int 0 0] }).objs.size) { newEnv csc h₃.objs.size env.globals [] env.qual none .none (some env) builtinsNs with scope := csc })
      (fun r s' => ∃ m, s'.heap.Ns h₃.objs.size m ∧ ∀ h', Heap.SameBut h₃.objs.size s'.heap h' → match r with
        | .ok _ => Q (.ref (h₁.push { cls := .type "list_iterator", data := .fields #[.ref l, .int 0 0] }).objs.size) { s' with heap := h' }
        | .error x => wpAny (model prog w) A (PySem.passOn "comprehension.variables-let-go" x { newEnv csc h₃.objs.size env.globals [] env.qual none .none (some env) builtinsNs with scope := csc }) Q E { s' with heap := h' })
      { s with heap := h₄, toks := tk₁ } := by
    refine compLoop_ok (D := D) (n := n) (av := v) (l := l) (g := grnd h₃ _) (Lc := h₃.objs.size) (e0 := ext) (news₀ := news₁) (hpe := hp₂) (ysAll := ys) TO O hx s hl (fun h₅ tk₅ mc its k news₅ a₅ p₅ ry => ?_) 1000 0 hp₁ [] ys q3 rfl rv (pre_refl _) B₄ c.room EO a₄ hi .nil
    refine ⟨mc, a₅.fr.ns, fun h₆ hs₆ => ?_⟩
    have b1 := a₃.back a₅
    have b2 : At κ hp₂ h₀ L m (((h₁.push { cls := .type "list_iterator", data := .fields #[.ref l, .int 0 0] }).objs.size, PySem.W.listOf its k) :: ext) news₅ h₆ := b1.keep (wr := [h₃.objs.size]) (fun b o hb e => (hs₆.2 b (fun z => hb (by simp [z]))).trans e) fun b hb => by
      rw [List.mem_singleton.mp hb]
      refine ⟨fun e => ?_, base_size_none a₃, fun z => ?_⟩
      · have := L_lt a₃; rw [← e] at this; exact Nat.lt_irrefl _ this
      · obtain ⟨p, hp, e⟩ := List.mem_map.mp z
        exact (a₅.led.ns p hp).2.1 e
    have b3 := b2.ext_out (ao := .list ys) ⟨its, k, rfl, ry.mono fun _ _ z => z.mono (adr_pre _ _)⟩
    exact hQ _ h₆ _ tk₅ b2.ref_last b3 ((p₁.trans p₅).trans (adr_pre _ _))
  exact codeAny_compStart_list main (wpAny_pyIter_listiter hi main)
theorem newTuple_ok {vs : List AV} {vvs : List Value} {Q : Value → Shared → Prop} (a : At κ hp h₀ L m ext news s.heap) (r : All2 (RV κ (adr news)) vs vvs) (hl : vs.length < 1000)
    (hQ : PV κ (hp ++ [.tup vs]) h₀ L m ext news s (.ref hp.length) Q) : wpAny (model prog w) A (newTuple vvs) Q E s := by
  refine newTuple_N a.fr a.led.ns (fun h' F N => ?_) (by have := r.length; unfold sizeLine; omega)
  have a1 : At κ hp h₀ L m ext news h' := a.withNews F fun p hp => N p (.tail _ hp)
  have o := N _ (.head _)
  have a2 := a1.grow (ao := .tup vs) a1 o.1 o.2.1 o.2.2 (size_fresh a) ⟨_, _, rfl, r.mono fun _ _ z => z.mono (adr_pre _ _)⟩
  exact hQ _ h' _ s.toks a.ref_last a2 (adr_pre _ _)
theorem newList_ok {vs : List AV} {vvs : List Value} {Q : Value → Shared → Prop} (a : At κ hp h₀ L m ext news s.heap) (r : All2 (RV κ (adr news)) vs vvs) (hl : vs.length < 1000)
    (hQ : PV κ (hp ++ [.list vs]) h₀ L m ext news s (.ref hp.length) Q) : wpAny (model prog w) A (newList vvs) Q E s := by
  refine newList_N a.fr a.led.ns (fun h' F N => ?_) (by have := r.length; unfold sizeLine; omega)
  have a1 : At κ hp h₀ L m ext news h' := a.withNews F fun p hp => N p (.tail _ hp)
  have o := N _ (.head _)
  have a2 := a1.grow (ao := .list vs) a1 o.1 o.2.1 o.2.2 (size_fresh a) ⟨_, _, rfl, r.mono fun _ _ z => z.mono (adr_pre _ _)⟩
  exact hQ _ h' _ s.toks a.ref_last a2 (adr_pre _ _)
theorem attr_eq {v : Expr} (h : baseOk v = true) (x : Str) (pos : Pos) (env : Env) : eval (v.Attribute x pos) env = (do
    let o ← eval v env
    standAt pos.atName
    let r ← holding [o] (getAttr o x true)
    letTemporaryGo v o r
    pure r) := by
  have e0 : eval (v.Attribute x pos) env = (do
    let o ← attributeBase v x env (eval v env)
    standAt pos.atName
    let r ← holding [o] (getAttr o x true)
    letTemporaryGo v o r
    pure r) := rfl
  rw [e0, base_eq h]
theorem constA_ok {k : Const} {kk : Nat} {pos : Pos} {v : AV} {Q : Value → Shared → Prop} (a : At κ hp h₀ L m ext news s.heap) (h : constA k = some v) (hQ : PV κ hp h₀ L m ext news s v Q) : wpAny (model prog w) A (eval (.Constant k kk pos) env) Q E s := by
  unfold constA at h
  split at h
  · cases h; exact Constant_none (hQ _ _ _ s.toks rfl a (pre_refl _))
  · cases h; exact Constant_bool (hQ _ _ _ s.toks rfl a (pre_refl _))
  · cases h; exact wpAny_Constant_int (hQ _ _ _ _ ⟨_, rfl⟩ a (pre_refl _))
  · cases h; exact wpAny_Constant_str (hQ _ _ _ _ ⟨_, rfl⟩ a (pre_refl _))
  · cases h
theorem evA_ok (TO : TabOk D w (KK w.params)) (KW : Kw κ W) (O : EvOk κ w prog n r.ev) (O2 : EvsOk κ w prog n r.evs) (OT : TrOk κ w prog n r.tr) (O3 : ClsOk κ w prog n r.cl) : EvOk κ w prog (n + 1) (evA D W r) := by
  intro sc loc hp e v hp' h A E s env h₀ L m ext news Q c hQ
  have c' := c.le (k := n) (by omega)
  unfold evA at h
  split at h
  · split at h
    · rename_i q; cases h; exact constA_ok c.st q hQ
    · cases h
  · split at h
    · cases h
    · rename_i hd
      split at h
      · rename_i q; cases h
        exact c.name_loc q hd fun vv rv => hQ vv _ _ s.toks rv c.st (pre_refl _)
      · split at h
        · rename_i q1 q2; cases h
          obtain ⟨vv, k1, k2⟩ := TO.val _ _ q2
          exact c.glob q1 (TO.nodbg _ _ q2) k1 (hQ vv _ _ s.toks (k2 _ _) c.st (pre_refl _))
        · cases h
  · split at h
    · rename_i o hp₁ q1 q2
      split at h
      · rename_i q3; cases h
        refine Attribute_any_ (O q2 c' fun vv h₁ news₁ tk₁ rv a₁ p₁ => ?_) (attr_eq q1 _ _ _)
        exact getA_ok TO c.bs a₁ q3 rv fun yv tk ry => hQ yv h₁ news₁ tk ry a₁ p₁
      · cases h
    · cases h
  · split at h
    · split at h
      · exact callGA_ok TO KW O2 O3 h c hQ
      · exact callMA_ok TO KW O O2 O3 h c hQ
      · cases h
    · cases h
  · split at h
    · rename_i x hp₁ q1
      split at h
      · rename_i y hp₂ q2
        split at h
        · rename_i q3; cases h
          refine wpAny_BinOp (O q1 c' fun va h₁ news₁ tk₁ ra a₁ p₁ => O q2 (c'.next a₁ p₁) fun vb h₂ news₂ tk₂ rb a₂ p₂ => ?_)
          exact binA_ok q3 (ra.mono p₂) rb fun vv tk rv => hQ vv h₂ news₂ tk rv a₂ (p₁.trans p₂)
        · cases h
      · cases h
    · cases h
  · split at h
    · rename_i x hp₁ q1
      split at h
      · split at h
        · rename_i q2; cases h
          exact UnaryOp_ (O q1 c' fun va h₁ news₁ tk₁ ra a₁ p₁ => not_of (truthyA_ok q2 ra (hQ _ h₁ news₁ tk₁ rfl a₁ p₁)))
        · cases h
      · split at h
        · rename_i q2; cases h
          refine UnaryOp_ (O q1 c' fun va h₁ news₁ tk₁ ra a₁ p₁ => ?_)
          obtain ⟨t, rfl⟩ := intOf_ok q2 ra
          exact neg_int (hQ _ h₁ news₁ _ ⟨_, rfl⟩ a₁ p₁)
        · cases h
      · cases h
    · cases h
  · rename_i l ops es _
    split at h
    · rename_i a hp₁ q0 q1
      split at h
      · rename_i b hp₂ q2; cases h
        match ops, es, q0, q2 with
        | [], es, _, q2 => unfold chainA at q2; cases es <;> cases q2
        | op :: ops, [], _, q2 => unfold chainA at q2; cases ops <;> cases q2
        | [op], [e1], q0, q2 =>
          unfold chainA at q2
          split at q2
          · rename_i vb hp₃ q3
            split at q2
            · rename_i cc q4; cases q2
              refine PySem.wpAny_Compare1 (O q1 c' fun va h₁ news₁ tk₁ ra a₁ p₁ => O q3 (c'.next a₁ p₁) fun vb h₂ news₂ tk₂ rb a₂ p₂ => ?_) q0
              exact cmpA_ok TO c.bs KW a₂ (by have := c.room.units; omega) q4 (ra.mono p₂) rb fun tk => hQ _ h₂ news₂ tk rfl a₂ (p₁.trans p₂)
            · cases q2
          · cases q2
        | [op], e1 :: e2 :: es, _, q2 => unfold chainA at q2; cases q2
        | op :: op' :: ops, [e1], _, q2 => unfold chainA at q2; cases q2
        | op :: op' :: ops, e1 :: e2 :: es, q0, q2 =>
          refine Compare_chain (O q1 c' fun va h₁ news₁ tk₁ ra a₁ p₁ => ?_) q0
          exact chainV TO KW O q2 (c'.next a₁ p₁) ra fun h₂ news₂ tk₂ a₂ p₂ => hQ _ h₂ news₂ tk₂ rfl a₂ (p₁.trans p₂)
      · cases h
    · cases h
  · exact boolV TO O h c' hQ
  · split at h
    · rename_i hp₁ q1
      refine IfExp_ (OT q1 c' fun h₁ news₁ tk₁ a₁ p₁ => ?_)
      simp only [if_true]
      exact O h (c'.next a₁ p₁) fun vv h₂ news₂ tk₂ rv a₂ p₂ => hQ vv h₂ news₂ tk₂ rv a₂ (p₁.trans p₂)
    · rename_i hp₁ q1
      refine IfExp_ (OT q1 c' fun h₁ news₁ tk₁ a₁ p₁ => ?_)
      simp only [Bool.false_eq_true, if_false]
      exact O h (c'.next a₁ p₁) fun vv h₂ news₂ tk₂ rv a₂ p₂ => hQ vv h₂ news₂ tk₂ rv a₂ (p₁.trans p₂)
    · cases h
  · split at h
    · rename_i vs hp₁ q1
      split at h
      · rename_i q2; cases h
        exact Tuple_ (O2 q1 c' fun vvs h₁ news₁ tk₁ rvs a₁ p₁ => newTuple_ok (s := { s with heap := h₁, toks := tk₁ }) a₁ rvs (nblt q2) fun vv h₂ news₂ tk₂ rv a₂ p₂ => hQ vv h₂ news₂ tk₂ rv a₂ (p₁.trans p₂))
      · cases h
    · cases h
  · split at h
    · rename_i vs hp₁ q1
      split at h
      · rename_i q2; cases h
        exact List_ (O2 q1 c' fun vvs h₁ news₁ tk₁ rvs a₁ p₁ => newList_ok (s := { s with heap := h₁, toks := tk₁ }) a₁ rvs (nblt q2) fun vv h₂ news₂ tk₂ rv a₂ p₂ => hQ vv h₂ news₂ tk₂ rv a₂ (p₁.trans p₂))
      · cases h
    · cases h
  · exact subA_ok TO KW O h c' hQ
  · split at h
    · split at h
      · rename_i v1 hp₁ q1
        split at h
        · rename_i q2 q3
          obtain ⟨q3, q5⟩ := Bool.and_eq_true_iff.mp q3
          obtain ⟨q3, q4⟩ := Bool.and_eq_true_iff.mp q3
          split at h
          · rename_i ys hp₂ q6
            split at h
            · rename_i q7; cases h
              exact comp_ok TO O q1 q2 q3 q4 q5 q6 (nblt q7) c' hQ
            · cases h
          · cases h
        · cases h
      · cases h
    · cases h
  · cases h
theorem trA_ok (TO : TabOk D w (KK w.params)) (KW : Kw κ W) (O : EvOk κ w prog n r.ev) (OT : TrOk κ w prog n r.tr) : TrOk κ w prog (n + 1) (trA D W r) := by
  intro sc loc hp e b hp' h A E s env h₀ L m ext news Q c hQ
  have c' := c.le (k := n) (by omega)
  unfold trA at h
  split at h
  · split at h
    · rename_i b1 hp₁ q1; cases h
      exact isTrue_not (OT q1 c' fun h₁ news₁ tk₁ a₁ p₁ => hQ h₁ news₁ tk₁ a₁ p₁)
    · cases h
  · exact boolT OT h c' hQ
  · split at h
    · rename_i hp₁ q1
      refine isTrue_IfExp (OT q1 c' fun h₁ news₁ tk₁ a₁ p₁ => ?_)
      simp only [if_true]
      exact OT h (c'.next a₁ p₁) fun h₂ news₂ tk₂ a₂ p₂ => hQ h₂ news₂ tk₂ a₂ (p₁.trans p₂)
    · rename_i hp₁ q1
      refine isTrue_IfExp (OT q1 c' fun h₁ news₁ tk₁ a₁ p₁ => ?_)
      simp only [Bool.false_eq_true, if_false]
      exact OT h (c'.next a₁ p₁) fun h₂ news₂ tk₂ a₂ p₂ => hQ h₂ news₂ tk₂ a₂ (p₁.trans p₂)
    · cases h
  · rename_i l ops es _
    split at h
    · rename_i a hp₁ q0 q1
      match ops, es, q0, h with
      | [], es, _, q2 => unfold chainA at q2; cases es <;> cases q2
      | op :: ops, [], _, q2 => unfold chainA at q2; cases ops <;> cases q2
      | [op], [e1], q0, q2 =>
        unfold chainA at q2
        split at q2
        · rename_i vb hp₃ q3
          split at q2
          · rename_i cc q4; cases q2
            refine wpAny_isTrue_Compare1 (O q1 c' fun va h₁ news₁ tk₁ ra a₁ p₁ => O q3 (c'.next a₁ p₁) fun vb h₂ news₂ tk₂ rb a₂ p₂ => ?_) q0
            exact cmpA_ok TO c.bs KW a₂ (by have := c.room.units; omega) q4 (ra.mono p₂) rb fun tk => wpAny_truthy_bool (hQ h₂ news₂ tk a₂ (p₁.trans p₂))
          · cases q2
        · cases q2
      | [op], e1 :: e2 :: es, _, q2 => unfold chainA at q2; cases q2
      | op :: op' :: ops, [e1], _, q2 => unfold chainA at q2; cases q2
      | op :: op' :: ops, e1 :: e2 :: es, q0, q2 =>
        refine isTrue_chain (O q1 c' fun va h₁ news₁ tk₁ ra a₁ p₁ => ?_) q0
        exact chainT TO KW O q2 (c'.next a₁ p₁) ra fun h₂ news₂ tk₂ a₂ p₂ => hQ h₂ news₂ tk₂ a₂ (p₁.trans p₂)
    · cases h
  · rename_i k1 k2 k3 k4
    split at h
    · rename_i v hp₁ q1
      split at h
      · rename_i q2; cases h
        refine isTrue_plain (O q1 c' fun vv h₁ news₁ tk₁ rv a₁ p₁ => truthyA_ok q2 rv (hQ h₁ news₁ tk₁ a₁ p₁)) ?_
        cases e with
        | UnaryOp op x p => cases op <;> first | rfl | (exfalso; exact k1 _ _ rfl)
        | BoolOp a b p => exfalso; exact k2 _ _ _ rfl
        | IfExp a b d p => exfalso; exact k3 _ _ _ _ rfl
        | Compare a b d p => exfalso; exact k4 _ _ _ _ rfl
        | _ => rfl
      · cases h
    · cases h
end
end Mine
namespace Mine
section
variable {prog : Program} {w : World} {A : Around} {E : Value → Shared → Prop} {s : Shared} {κ : Kap} {W : Win} {D : Tab} {hp hp' : Hp} {n : Nat} {r : Rc}
variable {h₀ h h' : Heap} {L : Addr} {m : Str → Option Value} {ext news : List (Addr × Obj)} {env : Env} {sc : Scope} {loc loc' : Loc}
/-! stores -/
theorem asgLoc_ok {x : Str} {v : AV} (h : asgLoc sc x v loc = some loc') : isLoc sc x = true ∧ loc' = put x v loc := by
  unfold asgLoc at h
  split at h
  · rename_i q; cases h; exact ⟨q, rfl⟩
  · cases h
theorem asgNames_len : ∀ {ts : List Expr} {ys : List AV} {loc loc' : Loc}, asgNames sc ts ys loc = some loc' → ts.length = ys.length
  | [], [], _, _, _ => rfl
  | [], _ :: _, _, _, h => by cases h
  | t :: ts, [], _, _, h => by cases t <;> cases h
  | t :: ts, y :: ys, loc, loc', h => by
    unfold asgNames at h
    split at h
    · rename_i e1 e2; cases e1
    · rename_i e1 e2; cases e1; cases e2
      split at h
      · rename_i q; simp [asgNames_len h]
      · cases h
    · cases h
theorem asgNames_each {env : Env} : ∀ {ts : List Expr} {ys : List AV} {loc loc' : Loc}, asgNames sc ts ys loc = some loc' → (assignEach ts env).length = ts.length ∧ (assignEach ts env).findIdx? (·.1) = none
  | [], [], _, _, _ => ⟨rfl, rfl⟩
  | [], _ :: _, _, _, h => by cases h
  | t :: ts, [], _, _, h => by cases t <;> cases h
  | t :: ts, y :: ys, loc, loc', h => by
    unfold asgNames at h
    split at h
    · rename_i e1 e2; cases e1
    · rename_i x p ts' v ys' e1 e2; cases e1; cases e2
      split at h
      · rename_i q
        obtain ⟨h1, h2⟩ := asgNames_each (env := env) h
        have e : assignEach (Expr.Name x p :: ts) env = (false, assign (.Name x p) env) :: assignEach ts env := rfl
        rw [e]
        refine ⟨by simp [h1], ?_⟩
        rw [List.findIdx?_cons, h2]
        rfl
      · cases h
    · cases h
theorem assignEach_ok : ∀ {ts : List Expr} {ys : List AV} {vvs : List Value} {loc : Loc} {s : Shared} {m : Str → Option Value} {Q : Unit → Shared → Prop}, asgNames sc ts ys loc = some loc' → All2 (RV κ (adr news)) ys vvs → Cx κ w n A env sc loc hp h₀ L m ext news s.heap →
      (∀ h' m' tk, Cx κ w n A env sc loc' hp h₀ L m' ext news h' → Q () { s with heap := h', toks := tk }) → wpAny (model prog w) A (assignInOrder ((assignEach ts env).map (·.2)) vvs) Q E s
  | [], [], vvs, loc, s, m, Q, h, r, c, hQ => by cases h; cases r; exact wpAny_pure (hQ s.heap m s.toks c)
  | [], _ :: _, _, _, _, _, _, h, _, _, _ => by cases h
  | t :: ts, [], _, _, _, _, _, h, _, _, _ => by cases t <;> cases h
  | t :: ts, y :: ys, vvs, loc, s, m, Q, h, r, c, hQ => by
    obtain ⟨vv, vvs, rfl, rv, r⟩ := r.inv1
    unfold asgNames at h
    split at h
    · rename_i e1 e2; cases e1
    · rename_i x p ts' v ys' e1 e2; cases e1; cases e2
      split at h
      · rename_i q
        obtain ⟨hx, rfl⟩ := asgLoc_ok q
        show wpAny (model prog w) A (assignInOrder (assign (.Name x p) env :: (assignEach ts env).map (·.2)) (vv :: vvs)) Q E s
        unfold assignInOrder
        refine wpAny_bind (wpAny_holding (PySem.wpAny_assign_Name (c.store hx rv fun h₁ m₁ tk₁ c₁ => ?_)))
        exact assignEach_ok (s := { s with heap := h₁, toks := tk₁ }) h r c₁ hQ
      · cases h
    · cases h
noncomputable def nameOf : Expr → Str
  | .Name x _ => x
  | _ => Str.empty
theorem assignBind_ok : ∀ {ts : List Expr} {ys : List AV} {vvs : List Value} {loc : Loc} {s : Shared} {m : Str → Option Value} {Q : Unit → Shared → Prop}, asgNames sc ts ys loc = some loc' → All2 (RV κ (adr news)) ys vvs → Cx κ w n A env sc loc hp h₀ L m ext news s.heap →
      (∀ h' m' tk, Cx κ w n A env sc loc' hp h₀ L m' ext news h' → Q () { s with heap := h', toks := tk }) → wpAny (model prog w) A (assignInOrder ((ts.map nameOf).map fun n => bindName env n) vvs) Q E s
  | [], [], vvs, loc, s, m, Q, h, r, c, hQ => by cases h; cases r; exact wpAny_pure (hQ s.heap m s.toks c)
  | [], _ :: _, _, _, _, _, _, h, _, _, _ => by cases h
  | t :: ts, [], _, _, _, _, _, h, _, _, _ => by cases t <;> cases h
  | t :: ts, y :: ys, vvs, loc, s, m, Q, h, r, c, hQ => by
    obtain ⟨vv, vvs, rfl, rv, r⟩ := r.inv1
    unfold asgNames at h
    split at h
    · rename_i e1 e2; cases e1
    · rename_i x p ts' v ys' e1 e2; cases e1; cases e2
      split at h
      · rename_i q
        obtain ⟨hx, rfl⟩ := asgLoc_ok q
        show wpAny (model prog w) A (assignInOrder (bindName env x :: (ts.map nameOf).map fun n => bindName env n) (vv :: vvs)) Q E s
        unfold assignInOrder
        refine wpAny_bind (wpAny_holding (bindName_ (c.store hx rv fun h₁ m₁ tk₁ c₁ => ?_)))
        exact assignBind_ok (s := { s with heap := h₁, toks := tk₁ }) h r c₁ hQ
      · cases h
    · cases h
theorem Cx.grown (c : Cx κ w n A env sc loc hp h₀ L m ext news h) (hk : Heap.ExtBut h.objs.size h h') : Cx κ w n A env sc loc hp h₀ L m ext news h' :=
  ⟨c.bs, c.room, c.env, c.st.keeps fun b o e => hk b o (Nat.ne_of_lt (Heap.lt_size e)) e, c.loc⟩
/-- (t, u) = a tuple -/
theorem assignTup_ok {ts : List Expr} {k : Nat} {tp : Pos} {ys : List AV} {T : Addr} {items : Array Value} {Q : Unit → Shared → Prop} (h : asgNames sc ts ys loc = some loc') (ht : IsTup s.heap T items) (r : All2 (RV κ (adr news)) ys items.toList)
    (c : Cx κ w n A env sc loc hp h₀ L m ext news s.heap) (hQ : ∀ h' m' tk, Cx κ w n A env sc loc' hp h₀ L m' ext news h' → Q () { s with heap := h', toks := tk }) : wpAny (model prog w) A (assign (.Tuple ts k tp) env (.ref T)) Q E s := by
  obtain ⟨e1, e2⟩ := asgNames_each (env := env) h
  refine wpAny_assign_Tuple c.room.hh ht ?_ e2 fun h' hx => assignEach_ok (s := { s with heap := h' }) h r (c.grown hx) hQ
  rw [e1, asgNames_len h, r.length]; simp
/-! the stores laid in the other order -/
theorem notComp_swaps {v : Expr} (h : notComp v = true) (t : Option Expr) (l : Nat) (env : Env) : swapsWith v t l env = pure false := by
  cases v <;> first | rfl | cases h
theorem notComp_sole {v : Expr} (h : notComp v = true) (t : Expr) (l : Nat) (env : Env) : swapsWithSole [t] v l env = pure false := notComp_swaps h (some t) l env
theorem swapNames_ok {line : Nat} (he : ∀ x, isLoc sc x = true → env.kindOf x = some .local) : ∀ {ts : List Expr} {names : List Str}, swapNames sc line ts = some names →
    names = ts.map nameOf ∧ (ts.filterMap fun e => match e with | .Name id pos => if (env.kindOf id == some NameKind.local && pos.line == line) = true then some id else none | _ => none) = names
  | [], names, h => by cases h; exact ⟨rfl, rfl⟩
  | t :: ts, names, h => by
    unfold swapNames at h
    split at h
    · rename_i e; cases e
    · rename_i x p r e; cases e
      split at h
      · rename_i l q1 q2; cases h
        obtain ⟨h1, h2⟩ := swapNames_ok he q2
        obtain ⟨q1, q3⟩ := Bool.and_eq_true_iff.mp q1
        have q3 := Nat.eq_of_beq_eq_true q3
        refine ⟨by rw [h1]; rfl, ?_⟩
        rw [List.filterMap_cons]
        have : (env.kindOf x == some NameKind.local && p.line == line) = true := by rw [he x q1, q3]; simp
        simp only [this, if_true]
        rw [h2]
      · cases h
    · cases h
theorem distinct_dups {l : List Str} (h : distinctS l = true) (hl : l.length = 2 ∨ l.length = 3) : l.eraseDups.length = l.length := by
  match l, h, hl with
  | [a, b], h, _ =>
    simp [distinctS, eqS_beq] at h
    have h1 : b ≠ a := fun e => h e.symm
    simp [List.eraseDups_cons, h1]
  | [a, b, c], h, _ =>
    simp [distinctS, eqS_beq] at h
    have h1 : b ≠ a := fun e => h.1.1 e.symm
    have h2 : c ≠ a := fun e => h.1.2 e.symm
    have h3 : c ≠ b := fun e => h.2 e.symm
    simp [List.eraseDups_cons, h1, h2, h3]
  | [], _, h => simp at h
  | [_], _, h => simp at h
  | _ :: _ :: _ :: _ :: _, _, h => simp at h
theorem noStar_vs : ∀ {vs : List Expr}, noStar vs = true → (vs.any fun e => match e with | .Starred .. => true | _ => false) = false
  | [], _ => rfl
  | v :: vs, h => by
    have : noStar vs = true := by cases v <;> first | exact h | cases h
    rw [List.any_cons, noStar_vs this]
    cases v <;> first | rfl | cases h
theorem firstLine_ok : ∀ {ts : List Expr} {line : Nat} {names : List Str}, swapNames sc line ts = some names → ts ≠ [] → (ts.head?.map (·.pos.line)).getD 0 = firstLine ts
  | [], _, _, _, h => absurd rfl h
  | t :: ts, line, names, h, _ => by
    unfold swapNames at h
    split at h
    · rename_i e; cases e
    · rename_i x p r e; cases e; rfl
    · cases h
theorem sw_gen {F : Expr → Option Str} {S : Expr → Bool} {ts vs : List Expr} {names : List Str} {b : Bool} (hS : vs.any S = false) (hF : ts.filterMap F = names)
    (c2 : (names.length != ts.length || names.eraseDups.length != names.length) = false) (q : (match vs.all (foldedForSure 8) with
      | true => some false
      | false => match vs.all (constantsAlone 8) with
        | true => Option.none
        | false => some true) = some b) :
    (if vs.any S = true then pure none
      else if ((ts.filterMap F).length != ts.length || (ts.filterMap F).eraseDups.length != (ts.filterMap F).length) = true then pure none
        else if vs.all (foldedForSure 8) = true then pure none
          else if vs.all (constantsAlone 8) = true then do
            unsupported "assign.tuple-of-constant-expressions:order-of-the-stores"
            pure (some (ts.filterMap F))
          else pure (some (ts.filterMap F)) : Sem (Option (List Str))) = pure (if b then some names else none) := by
  rw [hS, hF, c2]
  simp only [Bool.false_eq_true, if_false]
  split at q
  · rename_i q3; cases q
    simp only [q3, if_true, Bool.false_eq_true, if_false]
  · rename_i q3
    split at q
    · cases q
    · rename_i q4; cases q
      simp only [q3, q4, Bool.false_eq_true, if_false, if_true]
theorem swapA_ok (c : Cx κ w n A env sc loc hp h₀ L m ext news h) {ts vs : List Expr} {b : Bool} {k k' : Nat} {tp vp : Pos} (q : swapA sc ts vs = some b) :
    swappedStores [.Tuple ts k tp] (.Tuple vs k' vp) env = pure (if b then some (ts.map nameOf) else none) := by
  unfold swapA at q
  split at q
  · cases q
  · rename_i g
    obtain ⟨g, g3⟩ := Bool.and_eq_true_iff.mp g
    obtain ⟨g1, g2⟩ := Bool.and_eq_true_iff.mp g
    have g2 := Nat.eq_of_beq_eq_true g2
    have g1' : ts.length = 2 ∨ ts.length = 3 := by
      rcases Bool.or_eq_true_iff.mp g1 with z | z
      · exact .inl (Nat.eq_of_beq_eq_true z)
      · exact .inr (Nat.eq_of_beq_eq_true z)
    split at q
    · rename_i names q1
      split at q
      · cases q
      · rename_i q2
        have he : ∀ x, isLoc sc x = true → env.kindOf x = some .local := fun x hx => by unfold Env.kindOf; rw [c.env.scope]; exact isLoc_iff.mp hx
        obtain ⟨n1, n2⟩ := swapNames_ok he q1
        have nl : names.length = ts.length := by rw [n1, List.length_map]
        have nd := distinct_dups q2 (by rw [nl]; exact g1')
        have ne : ts ≠ [] := fun e => by rw [e] at g1'; simp at g1'
        have fl := firstLine_ok q1 ne
        have bk : env.blockKind = .function := by
          unfold Env.blockKind
          rw [c.env.scope, c.env.kind]; rfl
        have c1 : (!(ts.length == 2 || ts.length == 3) || vs.length != ts.length || env.blockKind != .function) = false := by
          rw [bk, g2]
          rcases g1' with z | z <;> rw [z] <;> rfl
        unfold swappedStores
        simp only [c1, fl, Bool.false_eq_true, if_false]
        have c2 : (names.length != ts.length || names.eraseDups.length != names.length) = false := by rw [nl, nd, nl]; simp
        rw [← n1]
        refine sw_gen ?_ ?_ c2 q
        · exact noStar_vs g3
        · exact n2
    · cases q
theorem asg_ok (TO : TabOk D w (KK w.params)) (O : EvOk κ w prog n r.ev) {t v : Expr} {pos : Pos} {fl : Fl} {Q : Flow → Shared → Prop} (h : asgA D r sc loc hp t v = some (fl, loc', hp')) (c : Cx κ w n A env sc loc hp h₀ L m ext news s.heap)
    (hQ : PS κ hp' loc' sc h₀ L ext news s fl Q) : wpAny (model prog w) A (exec (.Assign [t] v pos) env) Q E s := by
  unfold asgA at h
  split at h
  · cases h
  · rename_i hc
    split at h
    · split at h
      · rename_i y hp₁ q1
        split at h
        · rename_i loc₁ q2; cases h
          obtain ⟨hx, rfl⟩ := asgLoc_ok q2
          refine PySem.wpAny_Assign_Name (O q1 c fun vv h₁ news₁ tk₁ rv a₁ p₁ => ?_) (notComp_swaps hc _ _ _)
          exact Cx.store (s := { s with heap := h₁, toks := tk₁ }) (c.next a₁ p₁) hx rv fun h₂ m₂ tk₂ c₂ => hQ _ h₂ m₂ news₁ tk₂ rfl c₂.st c₂.loc p₁
        · cases h
      · cases h
    · split at h
      · rename_i y hp₁ q1
        split at h
        · rename_i ov hp₂ q2
          split at h
          · rename_i hp₃ q3; cases h
            refine plainObj_wpAny_Assign_Attribute (O q1 c fun vv h₁ news₁ tk₁ rv a₁ p₁ => O q2 (c.next a₁ p₁) fun oo h₂ news₂ tk₂ ro a₂ p₂ => ?_) (notComp_swaps hc _ _ _)
            refine storeA_ok (s := { s with heap := h₂, toks := tk₂ }) TO c.bs a₂ q3 ro (rv.mono p₂) fun h₃ news₃ tk₃ a₃ p₃ => ?_
            exact hQ _ h₃ m news₃ tk₃ rfl a₃ (c.loc.mono ((p₁.trans p₂).trans p₃)) ((p₁.trans p₂).trans p₃)
          · cases h
        · cases h
      · cases h
    · rename_i ts k tp
      split at h
      · rename_i vs k' vp
        split at h
        · cases h
        · rename_i b q0
          split at h
          · rename_i y hp₁ q1
            split at h
            · rename_i ys q2
              split at h
              · rename_i loc₁ q3; cases h
                have sw := swapA_ok c (k := k) (k' := k') (tp := tp) (vp := vp) q0
                cases b with
                | false =>
                  refine Assign_Tuple (O q1 c fun vv h₁ news₁ tk₁ rv a₁ p₁ => ?_) (notComp_sole hc _ _ _) sw
                  obtain ⟨z, items, rfl, r2, _, ht⟩ := seqK_ok (s := { s with heap := h₁, toks := tk₁ }) TO c.bs a₁ q2 rv
                  exact assignTup_ok (s := { s with heap := h₁, toks := tk₁ }) q3 (ht rfl) r2 (c.next a₁ p₁) fun h₂ m₂ tk₂ c₂ => hQ _ h₂ m₂ news₁ tk₂ rfl c₂.st c₂.loc p₁
                | true =>
                  refine Assign_Tuple_swapped (names := ts.map nameOf) (O q1 c fun vv h₁ news₁ tk₁ rv a₁ p₁ => ?_) (notComp_sole hc _ _ _) sw
                  obtain ⟨z, items, rfl, r2, _, ht⟩ := seqK_ok (s := { s with heap := h₁, toks := tk₁ }) TO c.bs a₁ q2 rv
                  have hl : (ts.map nameOf).length = items.size := by
                    have h1 := asgNames_len q3
                    have h2 := r2.length
                    simp at h1 h2 ⊢; omega
                  rw [hl]
                  refine wpAny_unpackItems_tuple (s := { s with heap := h₁, toks := tk₁ }) c.room.hh (ht rfl) fun h₂ hx₂ => ?_
                  rw [← List.map_reverse]
                  refine assignBind_ok (s := { s with heap := h₂, toks := tk₁ }) q3 r2.rev ((c.next a₁ p₁).grown hx₂) fun h₃ m₃ tk₃ c₃ => hQ _ h₃ m₃ news₁ tk₃ rfl c₃.st c₃.loc p₁
              · cases h
            · cases h
          · cases h
      · rename_i kk
        split at h
        · rename_i y hp₁ q1
          split at h
          · rename_i ys q2
            split at h
            · rename_i loc₁ q3; cases h
              have sw : swappedStores [.Tuple ts k tp] v env = pure none := by
                cases v <;> first | rfl | (exfalso; exact kk _ _ _ rfl)
              refine Assign_Tuple (O q1 c fun vv h₁ news₁ tk₁ rv a₁ p₁ => ?_) (notComp_sole hc _ _ _) sw
              obtain ⟨z, items, rfl, r2, _, ht⟩ := seqK_ok (s := { s with heap := h₁, toks := tk₁ }) TO c.bs a₁ q2 rv
              exact assignTup_ok (s := { s with heap := h₁, toks := tk₁ }) q3 (ht rfl) r2 (c.next a₁ p₁) fun h₂ m₂ tk₂ c₂ => hQ _ h₂ m₂ news₁ tk₂ rfl c₂.st c₂.loc p₁
            · cases h
          · cases h
        · cases h
    · cases h
theorem aug_ok (TO : TabOk D w (KK w.params)) (O : EvOk κ w prog n r.ev) {t v : Expr} {op : Operator} {pos : Pos} {fl : Fl} {Q : Flow → Shared → Prop} (h : augA D r sc loc hp t op v = some (fl, loc', hp')) (c : Cx κ w n A env sc loc hp h₀ L m ext news s.heap)
    (hQ : PS κ hp' loc' sc h₀ L ext news s fl Q) : wpAny (model prog w) A (exec (.AugAssign t op v pos) env) Q E s := by
  unfold augA at h
  split at h
  · rename_i x xp
    split at h
    · rename_i old q0
      split at h
      · rename_i y hp₁ q1
        split at h
        · rename_i z q2
          split at h
          · rename_i loc₁ q3; cases h
            obtain ⟨hx, rfl⟩ := asgLoc_ok q3
            obtain ⟨_, ov, hm, ro⟩ := c.loc x old q0
            refine wpAny_AugAssign_Name (wpAny_loadName_local c.kind (c.isL hx) (by rw [c.env.loc]; exact c.st.fr.ns) hm (O q1 c fun vv h₁ news₁ tk₁ rv a₁ p₁ => iaddA_ok q2 (ro.mono p₁) rv fun zv tk₂ rz => ?_))
            exact Cx.store (s := { s with heap := h₁, toks := tk₂ }) (c.next a₁ p₁) hx rz fun h₂ m₂ tk₃ c₂ => hQ _ h₂ m₂ news₁ tk₃ rfl c₂.st c₂.loc p₁
          · cases h
        · cases h
      · cases h
    · cases h
  · split at h
    · rename_i ov hp₀ q0
      split at h
      · rename_i old q1
        split at h
        · rename_i y hp₁ q2
          split at h
          · rename_i z q3
            split at h
            · rename_i hp₂ q4; cases h
              refine wpAny_AugAssign_AttributeAny (O q0 c fun oo h₁ news₁ tk₁ ro a₁ p₁ => getA_ok (s := { s with heap := h₁, toks := tk₁ }) TO c.bs a₁ q1 ro fun olv tk₂ rol => ?_)
              refine O (s := { s with heap := h₁, toks := tk₂ }) q2 (c.next a₁ p₁) fun vv h₃ news₃ tk₃ rv a₃ p₃ => iaddA_ok (s := { s with heap := h₃, toks := tk₃ }) q3 (rol.mono p₃) rv fun zv tk₄ rz => ?_
              refine storeA_ok (s := { s with heap := h₃, toks := tk₄ }) TO c.bs a₃ q4 (ro.mono p₃) rz fun h₅ news₅ tk₅ a₅ p₅ => ?_
              exact hQ _ h₅ m news₅ tk₅ rfl a₅ (c.loc.mono ((p₁.trans p₃).trans p₅)) ((p₁.trans p₃).trans p₅)
            · cases h
          · cases h
        · cases h
      · cases h
    · cases h
  · cases h
end
end Mine
namespace Mine
/-- where an iterator stands -/
noncomputable def ItSt (κ : Kap) (as : List Addr) (h : Heap) (I : Addr) : Src → Nat → Prop
  | .seq true v, k => ∃ l, RV κ as v (.ref l) ∧ h.IsListIter I l k
  | .seq false v, k => ∃ l, RV κ as v (.ref l) ∧ h.IsTupleIter I l k
  | .rng a n, k => k ≤ n ∧ IsRangeIter h I (a + Int.ofNat k) (Int.ofNat n - Int.ofNat k) 1
section
variable (κ : Kap) (w : World) (prog : Program) (n : Nat)
noncomputable def FoOk (fo : Scope → Loc → Hp → Expr → Src → Nat → List Stmt → RS) : Prop := ∀ {sc loc hp t src k b fl loc' hp'}, fo sc loc hp t src k b = some (fl, loc', hp') → ∀ {A R s env h₀ L m ext news I iob},
  Cx κ w n A env sc loc hp h₀ L m ((I, iob) :: ext) news s.heap → ItSt κ (adr news) s.heap I src k → PS κ hp' loc' sc h₀ L ext news s fl (fun f s' => R (.ok f) s') → codeAny (model prog w) A (.forLoop t (.ref I) b [] env) R s
noncomputable def FeOk (fe : Scope → Loc → Hp → Expr → AV → Nat → List Stmt → RS) : Prop := ∀ {sc loc hp t v k b fl loc' hp'}, fe sc loc hp t v k b = some (fl, loc', hp') → ∀ {A R s env h₀ L m ext news e it eo io l old},
  Cx κ w n A env sc loc hp h₀ L m ((e, eo) :: (it, io) :: ext) news s.heap → RV κ (adr news) v (.ref l) → IsEnum s.heap e it (Int.ofNat k) old → s.heap.IsListIter it l k → PS κ hp' loc' sc h₀ L ext news s fl (fun f s' => R (.ok f) s') → codeAny (model prog w) A (.forLoop t (.ref e) b [] env) R s
end
section
variable {prog : Program} {w : World} {A : Around} {E : Value → Shared → Prop} {s : Shared} {κ : Kap} {W : Win} {D : Tab} {hp hp' : Hp} {n : Nat} {r : Rc}
variable {h₀ h h' : Heap} {L : Addr} {m : Str → Option Value} {ext news : List (Addr × Obj)} {env : Env} {sc : Scope} {loc loc' : Loc}
theorem ItSt.move {as as' : List Addr} {I : Addr} {src : Src} {k : Nat} {o : Obj} (t : ItSt κ as h I src k) (e : h.get? I = some o) (e' : h'.get? I = some o) (p : as <+: as') : ItSt κ as' h' I src k := by
  match src, t with
  | .seq true v, ⟨l, r, o', g, x⟩ => rw [e] at g; cases g; exact ⟨l, r.mono p, _, e', x⟩
  | .seq false v, ⟨l, r, o', g, x⟩ => rw [e] at g; cases g; exact ⟨l, r.mono p, _, e', x⟩
  | .rng a n, ⟨q, g⟩ => refine ⟨q, ?_⟩; unfold IsRangeIter at g ⊢; rw [e] at g; rw [e']; exact g
theorem At.ext_end {I : Addr} {o : Obj} (a : At κ hp h₀ L m ((I, o) :: ext) news h) (hx : Heap.ExtBut I h h') : At κ hp h₀ L m ext news h' := by
  refine (At.ext_drop (e1 := [(I, o)]) a).keep (wr := [I]) (fun b ob hb e => hx b ob (fun z => hb (by simp [z])) e) fun b hb => ?_
  rw [List.mem_singleton.mp hb]
  have hI := a.led.ns (I, o) (.head _)
  have nd := a.led.nd
  rw [List.cons_append, List.map_cons, List.nodup_cons] at nd
  exact ⟨hI.2.1, hI.2.2, nd.1⟩
theorem At.two_set {e it : Addr} {eo eo' io io' : Obj} (a : At κ hp h₀ L m ((e, eo) :: (it, io) :: ext) news h) (ho : h'.get? e = some eo') (hi : h'.get? it = some io')
    (hk : ∀ b o, b ≠ e → b ≠ it → h.get? b = some o → h'.get? b = some o) : At κ hp h₀ L m ((e, eo') :: (it, io') :: ext) news h' := by
  have he := a.led.ns (e, eo) (.head _)
  have ht := a.led.ns (it, io) (.tail _ (.head _))
  have nd := a.led.nd
  rw [List.cons_append, List.cons_append, List.map_cons, List.map_cons, List.nodup_cons, List.nodup_cons] at nd
  refine ⟨⟨a.fr.ns.at' fun o q => hk L o (Ne.symm he.2.1) (Ne.symm ht.2.1) q, fun b o q => hk b o (fun z => ?_) (fun z => ?_) (a.fr.keep b o q), a.fr.above⟩, ⟨fun p hp => ?_, ?_, a.led.ho⟩⟩
  · have := he.2.2; rw [← z, q] at this; cases this
  · have := ht.2.2; rw [← z, q] at this; cases this
  · rcases List.mem_cons.mp hp with rfl | hp
    · exact ⟨ho, he.2⟩
    · rcases List.mem_cons.mp hp with rfl | hp
      · exact ⟨hi, ht.2⟩
      · have o := a.led.ns p (.tail _ (.tail _ hp))
        exact ⟨hk _ _ (fun z => nd.1 (.tail _ (List.mem_map.mpr ⟨p, hp, z⟩))) (fun z => nd.2.1 (List.mem_map.mpr ⟨p, hp, z⟩)) o.1, o.2⟩
  · rw [List.cons_append, List.cons_append, List.map_cons, List.map_cons, List.nodup_cons, List.nodup_cons]
    exact nd
theorem next_ok (TO : TabOk D w (KK w.params)) (B : Bs w h₀) (hh : A.handled = none) {I : Addr} {iob : Obj} {src : Src} {k : Nat} {o : Option AV} {Q : Option Value → Shared → Prop} (a : At κ hp h₀ L m ((I, iob) :: ext) news s.heap) (t : ItSt κ (adr news) s.heap I src k) (h : srcAt D hp src k = some o)
    (h0 : o = none → ∀ h' tk, At κ hp h₀ L m ext news h' → Q none { s with heap := h', toks := tk })
    (h1 : ∀ v, o = some v → ∀ vv h' iob' tk, RV κ (adr news) v vv → At κ hp h₀ L m ((I, iob') :: ext) news h' → ItSt κ (adr news) h' I src (k + 1) → Q (some vv) { s with heap := h', toks := tk }) :
    wpAny (model prog w) A (pyNext (.ref I)) Q E s := by
  unfold srcAt at h
  split at h
  · rename_i b v
    split at h
    · rename_i c vs e1
      split at h
      · obtain ⟨l, rl, hi⟩ := t
        obtain ⟨z, items, e2, r2, hl, _⟩ := seqK_ok TO B a e1 rl
        cases e2
        cases q : vs[k]? with
        | none =>
          rw [q] at h; cases h
          have en : items[k]? = none := by
            have := r2.length
            simp at this q ⊢; omega
          exact wpAny_pyNext_list_end hh hi (hl rfl) en fun h₂ hx => h0 rfl h₂ s.toks (a.ext_end hx)
        | some x =>
          rw [q] at h; cases h
          obtain ⟨xv, ex, rx⟩ := r2.item q
          refine wpAny_pyNext_list_item hi (hl rfl) ex fun h₂ hi₂ hs₂ => ?_
          obtain ⟨io, g, gg⟩ := id hi₂
          exact h1 _ rfl _ h₂ io s.toks rx (At.ext_set (e1 := []) a (fun b ob hb e => (hs₂.2 b hb).trans e) g) ⟨l, rl, hi₂⟩
      · obtain ⟨l, rl, hi⟩ := t
        obtain ⟨z, items, e2, r2, _, ht⟩ := seqK_ok TO B a e1 rl
        cases e2
        cases q : vs[k]? with
        | none =>
          rw [q] at h; cases h
          have en : items[k]? = none := by
            have := r2.length
            simp at this q ⊢; omega
          exact wpAny_pyNext_tuple_end hh hi (ht rfl) en fun h₂ hx => h0 rfl h₂ s.toks (a.ext_end hx)
        | some x =>
          rw [q] at h; cases h
          obtain ⟨xv, ex, rx⟩ := r2.item q
          refine wpAny_pyNext_tuple_item hi (ht rfl) ex fun h₂ hi₂ hs₂ => ?_
          obtain ⟨io, g, gg⟩ := id hi₂
          exact h1 _ rfl _ h₂ io s.toks rx (At.ext_set (e1 := []) a (fun b ob hb e => (hs₂.2 b hb).trans e) g) ⟨l, rl, hi₂⟩
      · cases h
    · cases h
  · rename_i a0 n0
    obtain ⟨hle, hi⟩ := t
    split at h
    · rename_i q; cases h
      have q := nblt q
      refine wpAny_pyNext_range_item hi (by simp; omega) fun h₂ hi₂ hs₂ => ?_
      refine h1 _ rfl _ h₂ _ _ ⟨_, rfl⟩ (At.ext_set (e1 := []) a (fun b ob hb e => (hs₂.2 b hb).trans e) hi₂) ⟨q, ?_⟩
      have e1 : a0 + Int.ofNat k + 1 = a0 + Int.ofNat (k + 1) := by simp; omega
      have e2 : Int.ofNat n0 - Int.ofNat k - 1 = Int.ofNat n0 - Int.ofNat (k + 1) := by simp; omega
      rw [← e1, ← e2]; exact hi₂
    · rename_i q; cases h
      have q : ¬ k < n0 := fun z => by rw [Nat.blt_eq.mpr z] at q; cases q
      exact wpAny_pyNext_range_end hh hi (by simp; omega) fun h₂ hx => h0 rfl h₂ s.toks (a.ext_end hx)
theorem go_ok {I : Addr} {src : Src} {k : Nat} {as : List Addr} {t : Expr} {v : AV} {vv : Value} {loc₁ : Loc} {Q : Unit → Shared → Prop} (q : targetA D sc hp t v loc = some loc₁) (hs : srcAt D hp src k = some (some v)) (rv : RV κ as v vv) (st : ItSt κ as s.heap I src (k + 1)) (hQ : Q () s) :
    wpAny (model prog w) A (letOwnedTupleGo t (.ref I) vv) Q E s := by
  unfold targetA at q
  split at q
  · exact wpAny_pure hQ
  · match src, st, hs with
    | .seq true _, ⟨l, _, hi⟩, _ =>
      cases vv <;> first | exact wpAny_pure hQ | exact wpAny_letOwnedTupleGo_listiter hi hQ
    | .seq false _, ⟨l, _, hi⟩, _ => exact letGo_tupleiter hi hQ
    | .rng a n, ⟨_, hi⟩, hs =>
      unfold srcAt at hs
      simp only at hs
      split at hs
      · cases hs; obtain ⟨t, rfl⟩ := rv; exact wpAny_pure hQ
      · cases hs
  · cases q
theorem target_ok (TO : TabOk D w (KK w.params)) {t : Expr} {v : AV} {vv : Value} {Q : Unit → Shared → Prop} (q : targetA D sc hp t v loc = some loc') (rv : RV κ (adr news) v vv) (c : Cx κ w n A env sc loc hp h₀ L m ext news s.heap)
    (hQ : ∀ h' m' tk, Cx κ w n A env sc loc' hp h₀ L m' ext news h' → Q () { s with heap := h', toks := tk }) : wpAny (model prog w) A (assign t env vv) Q E s := by
  unfold targetA at q
  split at q
  · obtain ⟨hx, rfl⟩ := asgLoc_ok q
    exact PySem.wpAny_assign_Name (c.store hx rv hQ)
  · split at q
    · rename_i ys e
      obtain ⟨z, items, rfl, r2, _, ht⟩ := seqK_ok TO c.bs c.st e rv
      exact assignTup_ok q (ht rfl) r2 c hQ
    · cases q
  · cases q
theorem fo_all (TO : TabOk D w (KK w.params)) (off N : Nat) (OX : ∀ q, q < N → ExOk κ w prog (q + off) (rc D W q).ex) : FoOk κ w prog (N + off) (rc D W N).fo := by
  intro sc loc hp t src k b fl loc' hp' h A R s env h₀ L m ext news I iob c st hQ
  refine codeAny_forLoop_any (fun q s' => q ≤ N ∧ ∃ k loc hp m news₁ iob h₁ tk, s' = { s with heap := h₁, toks := tk } ∧ (rc D W q).fo sc loc hp t src k b = some (fl, loc', hp') ∧ adr news <+: adr news₁ ∧
    At κ hp h₀ L m ((I, iob) :: ext) news₁ h₁ ∧ LocOk κ (adr news₁) sc loc m ∧ ItSt κ (adr news₁) h₁ I src k) ?_ N ⟨Nat.le_refl _, k, loc, hp, m, news, iob, s.heap, s.toks, rfl, h, pre_refl _, c.st, c.loc, st⟩
  rintro q s' ⟨hq, k, loc, hp, m, news₁, iob, h₁, tk, rfl, h, p₁, a, lo, st⟩
  cases q with
  | zero => cases h
  | succ q =>
    have h : foA D (rc D W q) sc loc hp t src k b = some (fl, loc', hp') := h
    unfold foA at h
    split at h
    · rename_i e; cases h
      refine next_ok (s := { s with heap := h₁, toks := tk }) TO c.bs c.room.hh a st e (fun _ h₂ tk₂ a₂ => ?_) (fun v hv => by cases hv)
      exact wpAny_execs_nil (hQ _ h₂ m news₁ tk₂ rfl a₂ lo p₁)
    · rename_i v e
      split at h
      · rename_i loc₁ e2
        refine next_ok (s := { s with heap := h₁, toks := tk }) TO c.bs c.room.hh a st e (fun hv => by cases hv) (fun v' hv vv h₂ iob₂ tk₂ rv a₂ st₂ => ?_)
        cases hv
        refine go_ok (s := { s with heap := h₂, toks := tk₂ }) e2 e rv st₂ ?_
        have c₂ : Cx κ w (q + off) A env sc loc hp h₀ L m ((I, iob₂) :: ext) news₁ h₂ := ⟨c.bs, c.room.le (by omega), c.env, a₂, lo⟩
        refine target_ok (s := { s with heap := h₂, toks := tk₂ }) TO e2 rv c₂ fun h₃ m₃ tk₃ c₃ => ?_
        have i2 := At.ext_get (e1 := []) a₂
        split at h
        · rename_i loc₂ hp₂ e3
          refine OX q (by omega) e3 (s := { s with heap := h₃, toks := tk₃ }) c₃ fun f h₄ m₄ news₄ tk₄ hf a₄ l₄ p₄ => ?_
          cases hf
          exact ⟨q, Nat.lt_succ_self _, by omega, k + 1, loc₂, hp₂, m₄, news₄, iob₂, h₄, tk₄, rfl, h, p₁.trans p₄, a₄, l₄, st₂.move i2 (At.ext_get (e1 := []) a₄) p₄⟩
        · rename_i rv' loc₂ hp₂ e3; cases h
          refine OX q (by omega) e3 (s := { s with heap := h₃, toks := tk₃ }) c₃ fun f h₄ m₄ news₄ tk₄ hf a₄ l₄ p₄ => ?_
          obtain ⟨vv', rfl, rr⟩ := hf
          exact hQ _ h₄ m₄ news₄ tk₄ ⟨vv', rfl, rr⟩ (At.ext_drop (e1 := [_]) a₄) l₄ (p₁.trans p₄)
        · cases h
      · cases h
    · cases h
theorem wh_all (off N : Nat) (OX : ∀ q, q < N → ExOk κ w prog (q + off) (rc D W q).ex) (OT : ∀ q, q < N → TrOk κ w prog (q + off) (rc D W q).tr) : WhOk κ w prog (N + off) (rc D W N).wh := by
  intro sc loc hp t b fl loc' hp' h A R s env h₀ L m ext news c hQ
  refine codeAny_whileLoop (fun q s' => q ≤ N ∧ ∃ loc hp m news₁ h₁ tk, s' = { s with heap := h₁, toks := tk } ∧ (rc D W q).wh sc loc hp t b = some (fl, loc', hp') ∧ adr news <+: adr news₁ ∧
    At κ hp h₀ L m ext news₁ h₁ ∧ LocOk κ (adr news₁) sc loc m) ?_ N ⟨Nat.le_refl _, loc, hp, m, news, s.heap, s.toks, rfl, h, pre_refl _, c.st, c.loc⟩
  rintro q s' ⟨hq, loc, hp, m, news₁, h₁, tk, rfl, h, p₁, a, lo⟩
  cases q with
  | zero => cases h
  | succ q =>
    have h : whA (rc D W q) sc loc hp t b = some (fl, loc', hp') := h
    have c₁ : Cx κ w (q + off) A env sc loc hp h₀ L m ext news₁ h₁ := ⟨c.bs, c.room.le (by omega), c.env, a, lo⟩
    unfold whA at h
    split at h
    · rename_i hp₁ e; cases h
      refine OT q (by omega) e (s := { s with heap := h₁, toks := tk }) c₁ fun h₂ news₂ tk₂ a₂ p₂ => ?_
      simp only [Bool.false_eq_true, if_false]
      exact wpAny_execs_nil (hQ _ h₂ m news₂ tk₂ rfl a₂ (lo.mono p₂) (p₁.trans p₂))
    · rename_i hp₁ e
      refine OT q (by omega) e (s := { s with heap := h₁, toks := tk }) c₁ fun h₂ news₂ tk₂ a₂ p₂ => ?_
      simp only [if_true]
      have c₂ := c₁.next a₂ p₂
      split at h
      · rename_i loc₂ hp₂ e3
        refine OX q (by omega) e3 (s := { s with heap := h₂, toks := tk₂ }) c₂ fun f h₄ m₄ news₄ tk₄ hf a₄ l₄ p₄ => ?_
        cases hf
        exact ⟨q, Nat.lt_succ_self _, by omega, loc₂, hp₂, m₄, news₄, h₄, tk₄, rfl, h, (p₁.trans p₂).trans p₄, a₄, l₄⟩
      · rename_i rv' loc₂ hp₂ e3; cases h
        refine OX q (by omega) e3 (s := { s with heap := h₂, toks := tk₂ }) c₂ fun f h₄ m₄ news₄ tk₄ hf a₄ l₄ p₄ => ?_
        obtain ⟨vv', rfl, rr⟩ := hf
        exact hQ _ h₄ m₄ news₄ tk₄ ⟨vv', rfl, rr⟩ a₄ l₄ ((p₁.trans p₂).trans p₄)
      · cases h
    · cases h
theorem fe_all (TO : TabOk D w (KK w.params)) (off N : Nat) (OX : ∀ q, q < N → ExOk κ w prog (q + off) (rc D W q).ex) : FeOk κ w prog (N + off) (rc D W N).fe := by
  intro sc loc hp t v k b fl loc' hp' h A R s env h₀ L m ext news e it eo io l old c rl he hi hQ
  have hei : e ≠ it := fun z => by
    have nd := c.st.led.nd
    rw [List.cons_append, List.cons_append, List.map_cons, List.map_cons, List.nodup_cons] at nd
    exact nd.1 (by
      show e ∈ it :: _
      rw [z]; exact .head _)
  refine codeAny_forLoop_any (fun q s' => q ≤ N ∧ ∃ k loc hp m news₁ eo io old h₁ tk, s' = { s with heap := h₁, toks := tk } ∧ (rc D W q).fe sc loc hp t v k b = some (fl, loc', hp') ∧ adr news <+: adr news₁ ∧
    At κ hp h₀ L m ((e, eo) :: (it, io) :: ext) news₁ h₁ ∧ LocOk κ (adr news₁) sc loc m ∧ IsEnum h₁ e it (Int.ofNat k) old ∧ h₁.IsListIter it l k) ?_ N ⟨Nat.le_refl _, k, loc, hp, m, news, eo, io, old, s.heap, s.toks, rfl, h, pre_refl _, c.st, c.loc, he, hi⟩
  rintro q s' ⟨hq, k, loc, hp, m, news₁, eo, io, old, h₁, tk, rfl, h, p₁, a, lo, he, hi⟩
  cases q with
  | zero => cases h
  | succ q =>
    have h : feA D (rc D W q) sc loc hp t v k b = some (fl, loc', hp') := h
    have src : ∀ {o : Option AV}, srcAt D hp (.seq true v) k = some o → ∃ vs items, h₁.IsList l items ∧ All2 (RV κ (adr news₁)) vs items.toList ∧ o = vs[k]? := fun {o} z => by
      unfold srcAt at z
      simp only at z
      split at z
      · rename_i c vs e1
        cases c with
        | false => cases z
        | true =>
          simp only [Option.some.injEq] at z
          obtain ⟨z', items, e2, r2, hl, _⟩ := seqK_ok (s := { s with heap := h₁, toks := tk }) TO c.bs a e1 (rl.mono p₁)
          cases e2
          exact ⟨vs, items, hl rfl, r2, z.symm⟩
      · cases z
    unfold feA at h
    split at h
    · rename_i z; cases h
      obtain ⟨vs, items, hl, r2, e2⟩ := src z
      have en : items[k]? = none := by
        have := r2.length
        have e2 := e2.symm
        simp at this e2 ⊢; omega
      refine wpAny_pyNext_enum_end (s := { s with heap := h₁, toks := tk }) c.room.hh he hi hl en fun h₂ hx => wpAny_execs_nil ?_
      have a' := At.ext_drop (e1 := [(e, eo)]) a
      exact hQ _ h₂ m news₁ tk rfl (a'.ext_end hx) lo p₁
    · rename_i x z
      obtain ⟨vs, items, hl, r2, e2⟩ := src z
      obtain ⟨xv, ex, rx⟩ := r2.item e2.symm
      split at h
      · rename_i ts kk tp
        split at h
        · rename_i loc₁ e3
          refine wpAny_pyNext_enum_item (s := { s with heap := h₁, toks := tk }) he hi hl ex hei fun h₂ ho hi₂ hT hsz hk => ?_
          refine wpAny_letOwnedTupleGo_enum ho fun h₃ he₃ hs₃ => ?_
          have hi₃ : h₃.IsListIter it l (k + 1) := by
            obtain ⟨o, g, x⟩ := hi₂
            exact ⟨o, (hs₃.2 it hei.symm).trans g, x⟩
          obtain ⟨io₂, gi₂, _⟩ := id hi₂
          have a₂ := a.two_set ho gi₂ hk
          have a₃ := At.ext_set (e1 := []) a₂ (fun b ob hb z => (hs₃.2 b hb).trans z) he₃
          have hT₃ : h₃.get? h₁.objs.size = some { cls := .type "tuple", data := .seq #[.int (Int.ofNat k) tk, xv] } := by
            have : h₁.objs.size ≠ e := fun z => by
              have := Heap.lt_size he
              rw [← z] at this; exact Nat.lt_irrefl _ this
            exact (hs₃.2 _ this).trans hT
          have c₃ : Cx κ w (q + off) A env sc loc hp h₀ L m _ news₁ h₃ := ⟨c.bs, c.room.le (by omega), c.env, a₃, lo⟩
          refine assignTup_ok (s := { s with heap := h₃, toks := tk + 1 }) e3 ⟨_, hT₃, rfl, _, rfl⟩ (.cons ⟨_, rfl⟩ (.cons rx .nil)) c₃ fun h₄ m₄ tk₄ c₄ => ?_
          have mv : ∀ {h₅ : Heap} {hp₅ : Hp} {m₅ : Str → Option Value} {news₅ : List (Addr × Obj)}, At κ hp₅ h₀ L m₅ ((e, { cls := .type "enumerate", dict := none, data := .fields #[.none, .bool false, .ref it, rawInt (Int.ofNat k + 1), .none, xv], slots := #[] }) :: (it, io₂) :: ext) news₅ h₅ → IsEnum h₅ e it (Int.ofNat (k + 1)) xv ∧ h₅.IsListIter it l (k + 1) := fun a₅ => by
            refine ⟨At.ext_get (e1 := []) a₅, io₂, At.ext_get (e1 := [_]) a₅, ?_⟩
            obtain ⟨o, g, x⟩ := hi₃
            have := At.ext_get (e1 := [_]) a₃
            rw [this] at g; cases g; exact x
          split at h
          · rename_i loc₂ hp₂ e4
            refine OX q (by omega) e4 (s := { s with heap := h₄, toks := tk₄ }) c₄ fun f h₅ m₅ news₅ tk₅ hf a₅ l₅ p₅ => ?_
            cases hf
            obtain ⟨he₅, hi₅⟩ := mv a₅
            exact ⟨q, Nat.lt_succ_self _, by omega, k + 1, loc₂, hp₂, m₅, news₅, _, _, _, h₅, tk₅, rfl, h, p₁.trans p₅, a₅, l₅, he₅, hi₅⟩
          · rename_i rv' loc₂ hp₂ e4; cases h
            refine OX q (by omega) e4 (s := { s with heap := h₄, toks := tk₄ }) c₄ fun f h₅ m₅ news₅ tk₅ hf a₅ l₅ p₅ => ?_
            obtain ⟨vv', rfl, rr⟩ := hf
            exact hQ _ h₅ m₅ news₅ tk₅ ⟨vv', rfl, rr⟩ (At.ext_drop (e1 := [_, _]) a₅) l₅ (p₁.trans p₅)
          · cases h
        · cases h
      · cases h
    · cases h
end
end Mine
namespace Mine
section
variable {prog : Program} {w : World} {A : Around} {E : Value → Shared → Prop} {s : Shared} {κ : Kap} {W : Win} {D : Tab} {hp hp' : Hp} {n : Nat} {r : Rc}
variable {h₀ h h' : Heap} {L : Addr} {m : Str → Option Value} {ext news : List (Addr × Obj)} {env : Env} {sc : Scope} {loc loc' : Loc}
theorem iter_fold {it : Expr} {src : Src} (h : iterA D r sc loc hp it = some (src, hp')) (env : Env) (x : Value) : foldedSetIterable it env x = pure x := by
  unfold iterA at h
  split at h
  · rfl
  · split at h
    · rename_i q _
      exact notSet_fold q env x
    · cases h
theorem rangeSize_1 {a b : Int} (h : a ≤ b) : Builtin.Range.rangeSize a b 1 = b - a := by
  unfold Builtin.Range.rangeSize
  have h1 : (1 : Int) > 0 := by decide
  simp only [h1, if_true, Int.ediv_one]
  split <;> omega
theorem range_go {R : Addr} {a b : Int} {t u v : Tok} {Q : Value → Shared → Prop} (hr : IsRange s.heap R a b 1 t u v) (hab : a ≤ b) (h1 : b < 1000) (h2 : -1000 < a) (A0 : At κ hp h₀ L m ext news s.heap)
    (hQ : ∀ I iob h' tk, At κ hp h₀ L m ((I, iob) :: ext) news h' → ItSt κ (adr news) h' I (.rng a (b - a).toNat) 0 → Q (.ref I) { s with heap := h', toks := tk }) : wpAny (model prog w) A (pyIter (.ref R)) Q E s := by
  refine wpAny_pyIter_range hr ?_ ?_
  · unfold Builtin.Range.small Builtin.Range.rangeFitsLong
    rw [rangeSize_1 hab]
    simp only [Bool.and_eq_true, Bool.or_eq_true, decide_eq_true_eq, beq_iff_eq, show (1 : Int) > 0 by decide, if_true]
    refine ⟨⟨⟨⟨?_, ?_⟩, ?_⟩, ?_⟩, .inr ?_⟩ <;> (constructor <;> omega)
  · refine hQ _ _ _ s.toks (A0.ext_push _ rfl) ⟨Nat.zero_le _, ?_⟩
    rw [rangeSize_1 hab]
    have e1 : a + Int.ofNat 0 = a := by simp
    have e2 : Int.ofNat (b - a).toNat - Int.ofNat 0 = b - a := by simp; omega
    rw [e1, e2]
    exact Heap.get?_push_size _ rfl
theorem iter_ok (TO : TabOk D w (KK w.params)) (O : EvOk κ w prog n r.ev) (O2 : EvsOk κ w prog n r.evs) {it : Expr} {src : Src} {Q : Value → Shared → Prop} (h : iterA D r sc loc hp it = some (src, hp')) (c : Cx κ w n A env sc loc hp h₀ L m ext news s.heap)
    (hQ : ∀ I iob h' news' tk, At κ hp' h₀ L m ((I, iob) :: ext) news' h' → ItSt κ (adr news') h' I src 0 → adr news <+: adr news' → Q (.ref I) { s with heap := h', toks := tk }) :
    wpAny (model prog w) A (eval it env) (fun x s₁ => wpAny (model prog w) A (pyIter x) Q E s₁) E s := by
  unfold iterA at h
  split at h
  · rename_i g gp args pos
    split at h
    · rename_i q1 q2
      obtain ⟨k1, k2, k3⟩ := TO.range _ q2
      have head : ∀ {vs : List AV} {hp₁ : Hp}, (noStar args && neL args) = true → r.evs sc loc hp args = some (vs, hp₁) →
          (∀ {vvs : List Value} {h₁ : Heap} {news₁ : List (Addr × Obj)} {tk₁ : Nat}, All2 (RV κ (adr news₁)) vs vvs → At κ hp₁ h₀ L m ext news₁ h₁ → adr news <+: adr news₁ →
            wpAny (model prog w) A (call (.type "range") vvs) (fun x s₁ => wpAny (model prog w) A (pyIter x) Q E s₁) E { s with heap := h₁, toks := tk₁ }) →
          wpAny (model prog w) A (eval (.Call (.Name g gp) args [] pos) env) (fun x s₁ => wpAny (model prog w) A (pyIter x) Q E s₁) E s := fun {vs hp₁} gs q3 k => by
        obtain ⟨gs, gn⟩ := Bool.and_eq_true_iff.mp gs
        cases args with
        | nil => cases gn
        | cons e es =>
          obtain ⟨e1, e2⟩ := noStar_cons gs env
          refine Call_ (c.built q1 (TO.nodbg _ _ q2) k1 k2 k3 ?_) rfl
          exact PyProof.Rows.callWith_type1 (O2 q3 c fun vvs h₁ news₁ tk₁ rvs a₁ p₁ => k rvs a₁ p₁) e1 (noStar_any e2)
      split at h
      · rename_i b hp₁ gs q3
        split at h
        · rename_i q4; cases h
          obtain ⟨q4, q5⟩ := of_decide_eq_true q4
          refine head gs q3 fun {vvs h₁ news₁ tk₁} rvs a₁ p₁ => ?_
          obtain ⟨x1, y1, rfl, r1, rvs⟩ := rvs.inv1
          cases rvs.inv0
          obtain ⟨t, rfl⟩ := r1
          refine range1_rows (s := { s with heap := h₁, toks := tk₁ }) (news := ext ++ news₁) a₁.fr a₁.led.ns fun h₂ tk₂ t₁ u₁ v₁ hr F N _ => ?_
          refine range_go (s := { s with heap := h₂, toks := tk₂ }) hr q4 q5 (by decide) (a₁.withNews F N) fun I iob h₃ tk₃ a₃ st => ?_
          rw [Int.sub_zero] at st
          exact hQ I iob h₃ news₁ tk₃ a₃ st p₁
        · cases h
      · rename_i a b hp₁ gs q3
        split at h
        · rename_i q4; cases h
          obtain ⟨q4, q5, q6⟩ := of_decide_eq_true q4
          refine head gs q3 fun {vvs h₁ news₁ tk₁} rvs a₁ p₁ => ?_
          obtain ⟨x1, y1, rfl, r1, rvs⟩ := rvs.inv1
          obtain ⟨x2, y2, rfl, r2, rvs⟩ := rvs.inv1
          cases rvs.inv0
          obtain ⟨t, rfl⟩ := r1
          obtain ⟨u, rfl⟩ := r2
          refine range2_rows (s := { s with heap := h₁, toks := tk₁ }) (news := ext ++ news₁) a₁.fr a₁.led.ns fun h₂ tk₂ t₁ u₁ v₁ hr F N _ => ?_
          exact range_go (s := { s with heap := h₂, toks := tk₂ }) hr q4 q5 q6 (a₁.withNews F N) fun I iob h₃ tk₃ a₃ st => hQ I iob h₃ news₁ tk₃ a₃ st p₁
        · cases h
      · cases h
    · cases h
  · split at h
    · rename_i v hp₁ q1 q2
      split at h
      · rename_i b vs q3; cases h
        refine O q2 c fun vv h₁ news₁ tk₁ rv a₁ p₁ => ?_
        obtain ⟨l, items, rfl, r2, hl, ht⟩ := seqK_ok (s := { s with heap := h₁, toks := tk₁ }) TO c.bs a₁ q3 rv
        cases b with
        | true =>
          refine wpAny_pyIter_list (hl rfl) (hQ _ _ _ news₁ tk₁ (a₁.ext_push _ rfl) ⟨l, rv, _, Heap.get?_push_size _ rfl, rfl, rfl⟩ p₁)
        | false =>
          refine wpAny_pyIter_tuple (ht rfl) (hQ _ _ _ news₁ tk₁ (a₁.ext_push _ rfl) ⟨l, rv, _, Heap.get?_push_size _ rfl, rfl, rfl⟩ p₁)
      · cases h
    · cases h
theorem exOne_ok (TO : TabOk D w (KK w.params)) (O : EvOk κ w prog n r.ev) (O2 : EvsOk κ w prog n r.evs) (OT : TrOk κ w prog n r.tr) (OX : ExOk κ w prog n r.ex) (OW : WhOk κ w prog n r.wh) (OF : FoOk κ w prog n r.fo) (OE : FeOk κ w prog n r.fe)
    {st : Stmt} {fl : Fl} {Q : Flow → Shared → Prop} (h : exOneA D r sc loc hp st = some (fl, loc', hp')) (c : Cx κ w n A env sc loc hp h₀ L m ext news s.heap)
    (hQ : PS κ hp' loc' sc h₀ L ext news s fl Q) : wpAny (model prog w) A (exec st env) Q E s := by
  unfold exOneA at h
  split at h
  · exact asg_ok TO O h c hQ
  · exact aug_ok TO O h c hQ
  · split at h
    · rename_i hp₁ q1
      refine wpAny_If (OT q1 c fun h₁ news₁ tk₁ a₁ p₁ => ?_)
      simp only [if_true]
      exact OX h (s := { s with heap := h₁, toks := tk₁ }) (c.next a₁ p₁) fun f h₂ m₂ news₂ tk₂ hf a₂ l₂ p₂ => hQ f h₂ m₂ news₂ tk₂ hf a₂ l₂ (p₁.trans p₂)
    · rename_i hp₁ q1
      refine wpAny_If (OT q1 c fun h₁ news₁ tk₁ a₁ p₁ => ?_)
      simp only [Bool.false_eq_true, if_false]
      exact OX h (s := { s with heap := h₁, toks := tk₁ }) (c.next a₁ p₁) fun f h₂ m₂ news₂ tk₂ hf a₂ l₂ p₂ => hQ f h₂ m₂ news₂ tk₂ hf a₂ l₂ (p₁.trans p₂)
    · cases h
  · exact wpAny_While (OW h c hQ)
  · rename_i t it b pos
    split at h
    · rename_i ea q0
      unfold enumOf at q0
      split at q0
      · rename_i g gp a cp
        split at q0
        · rename_i q1 q2
          split at q0
          · rename_i q3; cases q0
            obtain ⟨k1, k2, k3⟩ := TO.enum _ q2
            obtain ⟨e1, e2⟩ := noStar_cons q3 env
            split at h
            · rename_i v hp₁ q4
              split at h
              · rename_i vs q5
                refine wpAny_For (Call_ (c.built q1 (TO.nodbg _ _ q2) k1 k2 k3 ?_) rfl) (fun x => rfl)
                refine PyProof.Rows.callWith_type1 ?_ e1 (noStar_any e2)
                refine spliced_more (O q4 c fun vv h₁ news₁ tk₁ rv a₁ p₁ => spliced_none ?_) e1
                obtain ⟨l, items, rfl, r2, hl, _⟩ := seqK_ok (s := { s with heap := h₁, toks := tk₁ }) TO c.bs a₁ q5 rv
                refine call_enumerate_list (s := { s with heap := h₁, toks := tk₁ }) (hl rfl) fun h₂ he hi hsz hk => ?_
                refine wpAny_pyIter_enum he ?_
                obtain ⟨io, gi, gx⟩ := id hi
                have a₂ := a₁.keeps hk
                have nI := size_fresh a₁
                have L1 := L_lt a₁
                have a₃ : At κ hp₁ h₀ L m ((h₁.objs.size, io) :: ext) news₁ h₂ := a₂.ext_add gi (fun e => by rw [← e] at L1; exact Nat.lt_irrefl _ L1) (base_size_none a₁) nI
                have a₄ : At κ hp₁ h₀ L m ((h₁.objs.size + 1, _) :: (h₁.objs.size, io) :: ext) news₁ h₂ := a₃.ext_add he (fun e => by rw [← e] at L1; exact absurd L1 (by simp)) (by
                  cases q : h₀.get? (h₁.objs.size + 1) with
                  | none => rfl
                  | some ob => exact absurd (base_lt a₁ q) (by simp)) (fun z => by
                  rcases List.mem_cons.mp (by simpa [adr] using z : h₁.objs.size + 1 ∈ h₁.objs.size :: adr (ext ++ news₁)) with z | z
                  · simp at z
                  · exact absurd (adr_lt a₁ _ z) (by simp))
                exact OE h (s := { s with heap := h₂, toks := tk₁ }) ⟨c.bs, c.room, c.env, a₄, c.loc.mono p₁⟩ rv he hi fun f h₅ m₅ news₅ tk₅ hf a₅ l₅ p₅ => hQ f h₅ m₅ news₅ tk₅ hf a₅ l₅ (p₁.trans p₅)
              · cases h
            · cases h
          · cases q0
        · cases q0
      · cases q0
    · split at h
      · rename_i src hp₁ q1
        refine wpAny_For (iter_ok TO O O2 q1 c fun I iob h₁ news₁ tk₁ a₁ st p₁ => ?_) (fun x => iter_fold q1 env x)
        exact OF h (s := { s with heap := h₁, toks := tk₁ }) ⟨c.bs, c.room, c.env, a₁, c.loc.mono p₁⟩ st fun f h₅ m₅ news₅ tk₅ hf a₅ l₅ p₅ => hQ f h₅ m₅ news₅ tk₅ hf a₅ l₅ (p₁.trans p₅)
      · cases h
  · split at h
    · rename_i v hp₁ q1; cases h
      exact wpAny_Return_some (O q1 c fun vv h₁ news₁ tk₁ rv a₁ p₁ => hQ _ h₁ m news₁ tk₁ ⟨vv, rfl, rv⟩ a₁ (c.loc.mono p₁) p₁)
    · cases h
  · split at h
    · rename_i hp₁ q1 q2; cases h
      refine wpAny_Expr (O q2 c fun vv h₁ news₁ tk₁ rv a₁ p₁ => ?_) ?_ (notComp_swaps q1 _ _ _)
      · cases rv
        exact hQ _ h₁ m news₁ tk₁ rfl a₁ (c.loc.mono p₁) p₁
      · unfold interactive
        rw [c.kind]; rfl
    · cases h
  · cases h
theorem exA_ok (TO : TabOk D w (KK w.params)) (O : EvOk κ w prog n r.ev) (O2 : EvsOk κ w prog n r.evs) (OT : TrOk κ w prog n r.tr) (OX : ExOk κ w prog n r.ex) (OW : WhOk κ w prog n r.wh) (OF : FoOk κ w prog n r.fo) (OE : FeOk κ w prog n r.fe) :
    ExOk κ w prog (n + 1) (exA D r) := by
  intro sc loc hp b fl loc' hp' h A E s env h₀ L m ext news Q c hQ
  have c' := c.le (k := n) (by omega)
  unfold exA at h
  split at h
  · cases h
    exact wpAny_execs_nil (hQ _ _ m news s.toks rfl c.st c.loc (pre_refl _))
  · split at h
    · rename_i loc₁ hp₁ q1
      refine wpAny_execs_cons (exOne_ok TO O O2 OT OX OW OF OE q1 c' fun f h₁ m₁ news₁ tk₁ hf a₁ l₁ p₁ => ?_)
      cases hf
      exact OX h (s := { s with heap := h₁, toks := tk₁ }) ⟨c.bs, c'.room, c.env, a₁, l₁⟩ fun f h₂ m₂ news₂ tk₂ hf a₂ l₂ p₂ => hQ f h₂ m₂ news₂ tk₂ hf a₂ l₂ (p₁.trans p₂)
    · rename_i v loc₁ hp₁ q1; cases h
      refine wpAny_execs_cons (exOne_ok TO O O2 OT OX OW OF OE q1 c' fun f h₁ m₁ news₁ tk₁ hf a₁ l₁ p₁ => ?_)
      obtain ⟨vv, rfl, rv⟩ := hf
      exact hQ _ h₁ m₁ news₁ tk₁ ⟨vv, rfl, rv⟩ a₁ l₁ p₁
    · cases h
end
end Mine
namespace Mine
section
variable {prog : Program} {w : World} {A : Around} {E : Value → Shared → Prop} {s : Shared} {κ : Kap} {W : Win} {D : Tab} {hp hp' : Hp} {n : Nat} {r : Rc}
variable {h₀ h h' : Heap} {L : Addr} {m : Str → Option Value} {ext news : List (Addr × Obj)} {env : Env} {sc : Scope} {loc loc' : Loc}
theorem bindA_len : ∀ {ps : List Str} {vs : List AV} {loc : Loc}, bindA ps vs = some loc → ps.length = vs.length
  | [], [], _, _ => rfl
  | [], _ :: _, _, h => by cases h
  | _ :: _, [], _, h => by cases h
  | p :: ps, v :: vs, loc, h => by
    unfold bindA at h
    cases q : bindA ps vs with
    | none => rw [q] at h; cases h
    | some l => simp [bindA_len q]
theorem bindA_ok {as : List Addr} : ∀ {ps : List Str} {vs : List AV} {loc : Loc} {vvs : List Value}, bindA ps vs = some loc → All2 (RV κ as) vs vvs → ∀ x v, look x loc = some v → x ∈ ps ∧ ∃ vv, (x, vv) ∈ ps.zip vvs ∧ RV κ as v vv
  | [], [], _, _, h, _, x, v, hv => by cases h; cases hv
  | [], _ :: _, _, _, h, _, _, _, _ => by cases h
  | _ :: _, [], _, _, h, _, _, _, _ => by cases h
  | p :: ps, v :: vs, loc, vvs, h, r, x, u, hv => by
    obtain ⟨vv, vvs, rfl, rv, r⟩ := r.inv1
    unfold bindA at h
    cases q : bindA ps vs with
    | none => rw [q] at h; cases h
    | some l =>
      rw [q] at h
      cases h
      rw [look_cons] at hv
      by_cases e : x = p
      · subst e
        simp at hv; subst hv
        exact ⟨.head _, vv, .head _, rv⟩
      · rw [if_neg e] at hv
        obtain ⟨h1, v', h2, h3⟩ := bindA_ok q r x u hv
        exact ⟨.tail _ h1, v', .tail _ h2, h3⟩
theorem lookup_mem {l : List (Str × Value)} (hn : (l.map (·.1)).Nodup) {x : Str} {v : Value} (hm : (x, v) ∈ l) : l.lookup x = some v := by
  induction l with
  | nil => cases hm
  | cons p l ih =>
    obtain ⟨y, u⟩ := p
    rw [List.map_cons, List.nodup_cons] at hn
    rw [List.lookup_cons]
    rcases List.mem_cons.mp hm with e | hm
    · cases e; simp
    · have : (x == y) = false := by
        rw [beq_eq_false_iff_ne]
        intro e
        exact hn.1 (List.mem_map.mpr ⟨_, hm, e⟩)
      rw [this]
      exact ih hn.2 hm
theorem zip_keys {α β : Type} : ∀ (a : List α) (b : List β), a.length = b.length → (a.zip b).map (·.1) = a
  | [], _, _ => rfl
  | x :: a, [], h => by simp at h
  | x :: a, y :: b, h => by simp at h; simp [zip_keys a b h]
theorem Room.deeper (R : Room (n + 1) A) (env : Env) : Room n (A.deeper env) :=
  ⟨R.hh, by have := R.depth; show A.depth + 1 + _ ≤ _; omega, by have := R.units; show A.units + 3 + _ ≤ _; omega⟩
theorem cl_ok (TO : TabOk D w (KK w.params)) (OX : ExOk κ w prog n r.ex) (HO : ClsOk κ w prog (n + 1) D.hook) : ClsOk κ w prog (n + 1) (clA D r) := by
  intro a vs hp v hp' h A R s h₀ L m ext news vvs B RM a0 rv hQ
  unfold clA at h
  split at h
  · rename_i x q; cases h
    exact HO q B RM a0 rv hQ
  · split at h
    · rename_i f q
      have FO := TO.fns a f q
      split at h
      · rename_i loc q1
        obtain ⟨name, qual, params, dV, kV, doc, pm, cdv, ct, oc, an, od, osl, hl, hc, hb⟩ := FO.rec_
        have len : vvs.length = f.params.length := by rw [← rv.length, bindA_len q1]
        obtain ⟨mg, mb, T⟩ := B.T
        have X := B.X.keeps a0.fr.keep
        have keys : ((f.params.zip vvs).map (·.1)) = f.params := zip_keys _ _ len.symm
        refine codeAny_call_def (binds := f.params.zip vvs) RM.at (X _ _ hl) rfl (T.nolimit.keeps a0.fr.keep) (codeRec_of X hc) rfl (BindsTo.of_eq (hb vvs len)) FO.nocell (fun x hx => ?_) (fun h₁ hns hk => ?_) FO.co FO.gen FO.kind
        · have : x.1 ∈ f.params := by rw [← keys]; exact List.mem_map_of_mem hx
          exact isLoc_iff.mp (FO.pars _ this)
        · have a₁ := a0.into hns hk (Nat.le_refl _)
          have lo : LocOk κ (adr news) f.scope loc (fun x => (f.params.zip vvs).reverse.lookup x) := fun x u hu => by
            obtain ⟨h1, vv, h2, h3⟩ := bindA_ok q1 rv x u hu
            refine ⟨FO.pars _ h1, vv, lookup_mem ?_ (List.mem_reverse.mpr h2), h3⟩
            rw [List.map_reverse, keys]
            exact List.pairwise_reverse.mpr (FO.dist.imp fun h => Ne.symm h)
          have EO : EnvOk (callEnv (fnOf name qual params f.body f.scope dV kV doc pm an cdv ct) s.heap.objs.size a) f.scope s.heap.objs.size := ⟨rfl, FO.kind, rfl, rfl, rfl⟩
          split at h
          · rename_i v' loc₂ hp₂ q2; cases h
            refine OX q2 ⟨a0.grnd_bs B, RM.deeper _, EO, a₁, lo⟩ fun fl h₂ m₂ news₂ tk₂ hf a₂ l₂ p₂ => ?_
            obtain ⟨vv, rfl, rr⟩ := hf
            exact hQ vv h₂ news₂ tk₂ rr (a0.back a₂) p₂
          · rename_i loc₂ hp₂ q2; cases h
            refine OX q2 ⟨a0.grnd_bs B, RM.deeper _, EO, a₁, lo⟩ fun fl h₂ m₂ news₂ tk₂ hf a₂ l₂ p₂ => ?_
            cases hf
            exact hQ _ h₂ news₂ tk₂ rfl (a0.back a₂) p₂
          · cases h
      · cases h
    · cases h
structure AllOk (κ : Kap) (w : World) (prog : Program) (D : Tab) (W : Win) (off n : Nat) : Prop where
  ev : EvOk κ w prog (n + off) (rc D W n).ev
  evs : EvsOk κ w prog (n + off) (rc D W n).evs
  tr : TrOk κ w prog (n + off) (rc D W n).tr
  ex : ExOk κ w prog (n + off) (rc D W n).ex
  wh : WhOk κ w prog (n + off) (rc D W n).wh
  fo : FoOk κ w prog (n + off) (rc D W n).fo
  fe : FeOk κ w prog (n + off) (rc D W n).fe
  cl : ClsOk κ w prog (n + off) (rc D W n).cl
theorem EvsOk.up {evs} (O : EvsOk κ w prog n evs) : EvsOk κ w prog (n + 1) evs := fun h _ _ _ _ _ _ _ _ _ _ _ c hQ => O h (c.le (by omega)) hQ
theorem ClsOk.up {cl} {k : Nat} (O : ClsOk κ w prog n cl) (hk : n ≤ k) : ClsOk κ w prog k cl := by
  intro a vs hp v hp' h A R s h₀ L m ext news vvs B RM a0 rv hQ
  exact O h B (RM.le hk) a0 rv hQ
theorem all_ok (TO : TabOk D w (KK w.params)) (KW : Kw κ W) {off : Nat} (HO : ClsOk κ w prog off D.hook) (n : Nat) : AllOk κ w prog D W off n := by
  induction n using Nat.strongRecOn with
  | _ n ih =>
    have fo : FoOk κ w prog (n + off) (rc D W n).fo := fo_all TO off n fun q hq => (ih q hq).ex
    have fe : FeOk κ w prog (n + off) (rc D W n).fe := fe_all TO off n fun q hq => (ih q hq).ex
    have wh : WhOk κ w prog (n + off) (rc D W n).wh := wh_all off n (fun q hq => (ih q hq).ex) fun q hq => (ih q hq).tr
    cases n with
    | zero =>
      refine ⟨?_, ?_, ?_, ?_, wh, fo, fe, ?_⟩
      · intro sc loc hp e v hp' h; cases h
      · intro sc loc hp e v hp' h; cases h
      · intro sc loc hp e v hp' h; cases h
      · intro sc loc hp b fl loc' hp' h; cases h
      · intro a vs hp v hp' h; cases h
    | succ n =>
      have I := ih n (Nat.lt_succ_self _)
      have e : n + 1 + off = n + off + 1 := by omega
      have ev : EvOk κ w prog (n + off + 1) (rc D W (n + 1)).ev := evA_ok TO KW I.ev I.evs I.tr I.cl
      have evs : EvsOk κ w prog (n + off + 1) (rc D W (n + 1)).evs := EvsOk.up (evsA_ok I.ev)
      have tr : TrOk κ w prog (n + off + 1) (rc D W (n + 1)).tr := trA_ok TO KW I.ev I.tr
      have ex : ExOk κ w prog (n + off + 1) (rc D W (n + 1)).ex := exA_ok TO I.ev I.evs I.tr I.ex I.wh I.fo I.fe
      have cl : ClsOk κ w prog (n + off + 1) (rc D W (n + 1)).cl := cl_ok TO I.ex (HO.up (by omega))
      refine ⟨?_, ?_, ?_, ?_, wh, fo, fe, ?_⟩ <;> (rw [e]; assumption)
end
end Mine
namespace Mine
theorem ex_cons {α : Type} {l : List α} {n : Nat} (h : l.length = n + 1) : ∃ a t, l = a :: t ∧ t.length = n := by
  cases l with
  | nil => cases h
  | cons a t => exact ⟨a, t, rfl, Nat.succ.inj h⟩
theorem ex_nil {α : Type} {l : List α} (h : l.length = 0) : l = [] := List.length_eq_zero_iff.mp h
noncomputable def distinctL : List Str → Bool
  | [] => true
  | x :: r => !(r.any (eqS x)) && distinctL r
theorem distinctL_ok : ∀ {l : List Str}, distinctL l = true → l.Nodup
  | [], _ => .nil
  | x :: r, h => by
    obtain ⟨h1, h2⟩ := Bool.and_eq_true_iff.mp h
    refine List.nodup_cons.mpr ⟨fun hx => ?_, distinctL_ok h2⟩
    have : r.any (eqS x) = true := List.any_eq_true.mpr ⟨x, hx, eqS_iff.mpr rfl⟩
    rw [this] at h1; cases h1
noncomputable def kindChk (sc : Scope) (ps : List Str) : Bool :=
  (sc.names.all fun x => match x.2 with | .cell => false | _ => true) && (ps.all fun x => isLoc sc x) && distinctL ps && !sc.isCoroutine && !sc.isGenerator && isFun sc
noncomputable def fdOf (o : Obj) : FuncData := match o.data with
  | .func F => F
  | _ => default
/-- the object, written anew from the text's def -/
noncomputable def reD (F : FuncData) (s : Stmt) : FuncData := fnOf F.name F.qualname (fP s) (fB s) (fS s) F.defaults F.kwdefaults F.doc F.pyModule F.annotations F.code F.closureTuple
noncomputable def reF (o : Obj) (s : Stmt) : Obj := { cls := o.cls, dict := o.dict, data := .func (reD (fdOf o) s), slots := o.slots }
theorem FnOk.mk' {K : Frag} {a : Nat} {o : Obj} {s : Stmt} (h : K.lookup a = some (reF o s)) (hk : (codeIn K (fdOf o).code (fdOf o).qualname && kindChk (fS s) (fnI s).params) = true)
    (hb : ∀ vs : List Value, vs.length = (fnI s).params.length → bindArgs (reD (fdOf o) s) ⟨vs, []⟩ = pure ((fnI s).params.zip vs)) : FnOk K a (fnI s) := by
  obtain ⟨hc, k⟩ := Bool.and_eq_true_iff.mp hk
  unfold kindChk at k
  simp only [Bool.and_eq_true, Bool.not_eq_true'] at k
  obtain ⟨⟨⟨⟨⟨k1, k2⟩, k3⟩, k4⟩, k5⟩, k6⟩ := k
  refine ⟨⟨_, _, _, _, _, _, _, _, _, _, _, _, _, h, hc, hb⟩, fun x hx e => ?_, fun x hx => List.all_eq_true.mp k2 x hx, distinctL_ok k3, k4, k5, isFun_ok k6⟩
  have := List.all_eq_true.mp k1 x hx
  rw [e] at this; cases this
section
variable {K : Frag} {a : Nat} (o : Obj) (s : Stmt) (h : K.lookup a = some (reF o s)) (hk : (codeIn K (fdOf o).code (fdOf o).qualname && kindChk (fS s) (fnI s).params) = true)
include h hk
theorem FnOk.of1 (hn : (fnI s).params.length = 1) (hb : ∀ x, bindArgs (reD (fdOf o) s) ⟨[x], []⟩ = pure ((fnI s).params.zip [x])) : FnOk K a (fnI s) := .mk' h hk fun vs e0 => by
  obtain ⟨x, t1, rfl, e1⟩ := ex_cons (e0.trans hn)
  obtain rfl := ex_nil e1
  exact hb x
theorem FnOk.of2 (hn : (fnI s).params.length = 2) (hb : ∀ x y, bindArgs (reD (fdOf o) s) ⟨[x, y], []⟩ = pure ((fnI s).params.zip [x, y])) : FnOk K a (fnI s) := .mk' h hk fun vs e0 => by
  obtain ⟨x, t1, rfl, e1⟩ := ex_cons (e0.trans hn)
  obtain ⟨y, t2, rfl, e2⟩ := ex_cons e1
  obtain rfl := ex_nil e2
  exact hb x y
theorem FnOk.of3 (hn : (fnI s).params.length = 3) (hb : ∀ x y z, bindArgs (reD (fdOf o) s) ⟨[x, y, z], []⟩ = pure ((fnI s).params.zip [x, y, z])) : FnOk K a (fnI s) := .mk' h hk fun vs e0 => by
  obtain ⟨x, t1, rfl, e1⟩ := ex_cons (e0.trans hn)
  obtain ⟨y, t2, rfl, e2⟩ := ex_cons e1
  obtain ⟨z, t3, rfl, e3⟩ := ex_cons e2
  obtain rfl := ex_nil e3
  exact hb x y z
theorem FnOk.of4 (hn : (fnI s).params.length = 4) (hb : ∀ x y z u, bindArgs (reD (fdOf o) s) ⟨[x, y, z, u], []⟩ = pure ((fnI s).params.zip [x, y, z, u])) : FnOk K a (fnI s) := .mk' h hk fun vs e0 => by
  obtain ⟨x, t1, rfl, e1⟩ := ex_cons (e0.trans hn)
  obtain ⟨y, t2, rfl, e2⟩ := ex_cons e1
  obtain ⟨z, t3, rfl, e3⟩ := ex_cons e2
  obtain ⟨u, t4, rfl, e4⟩ := ex_cons e3
  obtain rfl := ex_nil e4
  exact hb x y z u
theorem FnOk.of7 (hn : (fnI s).params.length = 7) (hb : ∀ x y z u v w q, bindArgs (reD (fdOf o) s) ⟨[x, y, z, u, v, w, q], []⟩ = pure ((fnI s).params.zip [x, y, z, u, v, w, q])) : FnOk K a (fnI s) := .mk' h hk fun vs e0 => by
  obtain ⟨x, t1, rfl, e1⟩ := ex_cons (e0.trans hn)
  obtain ⟨y, t2, rfl, e2⟩ := ex_cons e1
  obtain ⟨z, t3, rfl, e3⟩ := ex_cons e2
  obtain ⟨u, t4, rfl, e4⟩ := ex_cons e3
  obtain ⟨v, t5, rfl, e5⟩ := ex_cons e4
  obtain ⟨w, t6, rfl, e6⟩ := ex_cons e5
  obtain ⟨q, t7, rfl, e7⟩ := ex_cons e6
  obtain rfl := ex_nil e7
  exact hb x y z u v w q
end
inductive AllP {α : Type} (R : α → Prop) : List α → Prop
  | nil : AllP R []
  | cons {a x} (h : R a) (t : AllP R x) : AllP R (a :: x)
theorem AllP.mem {α : Type} {R : α → Prop} {l : List α} (h : AllP R l) : ∀ a ∈ l, R a := by
  induction h with
  | nil => intro a m; cases m
  | cons h t ih => intro a m; cases m with
    | head => exact h
    | tail _ m => exact ih a m
theorem lookN_mem {α : Type} {a : Nat} {v : α} : ∀ {l : List (Nat × α)}, lookN a l = some v → (a, v) ∈ l
  | [], h => by cases h
  | (b, u) :: r, h => by
    unfold lookN at h
    split at h
    · rename_i q; cases h; rw [Nat.eq_of_beq_eq_true q]; exact .head _
    · exact .tail _ (lookN_mem h)
theorem look_mem {α : Type} {x : Str} {v : α} : ∀ {l : List (Str × α)}, look x l = some v → (x, v) ∈ l
  | [], h => by cases h
  | (b, u) :: r, h => by
    unfold look at h
    split at h
    · rename_i q; cases h; rw [eqS_iff.mp q]; exact .head _
    · exact .tail _ (look_mem h)
theorem f63 (P : Params) : FnOk (KK P) 63 (fnI (st 5)) := .of2 o63 (st 5) (by kernel_rfl) (by kernel_rfl) (by kernel_rfl) (by intros; kernel_rfl)
theorem f70 (P : Params) : FnOk (KK P) 70 (fnI (st 6)) := .of1 o70 (st 6) (by kernel_rfl) (by kernel_rfl) (by kernel_rfl) (by intros; kernel_rfl)
theorem f77 (P : Params) : FnOk (KK P) 77 (fnI (st 7)) := .of1 o77 (st 7) (by kernel_rfl) (by kernel_rfl) (by kernel_rfl) (by intros; kernel_rfl)
theorem f84 (P : Params) : FnOk (KK P) 84 (fnI (st 8)) := .of1 o84 (st 8) (by kernel_rfl) (by kernel_rfl) (by kernel_rfl) (by intros; kernel_rfl)
theorem f91 (P : Params) : FnOk (KK P) 91 (fnI (st 9)) := .of1 o91 (st 9) (by kernel_rfl) (by kernel_rfl) (by kernel_rfl) (by intros; kernel_rfl)
theorem f98 (P : Params) : FnOk (KK P) 98 (fnI (st 10)) := .of1 o98 (st 10) (by kernel_rfl) (by kernel_rfl) (by kernel_rfl) (by intros; kernel_rfl)
theorem f105 (P : Params) : FnOk (KK P) 105 (fnI (st 11)) := .of1 o105 (st 11) (by kernel_rfl) (by kernel_rfl) (by kernel_rfl) (by intros; kernel_rfl)
theorem f112 (P : Params) : FnOk (KK P) 112 (fnI (st 12)) := .of1 o112 (st 12) (by kernel_rfl) (by kernel_rfl) (by kernel_rfl) (by intros; kernel_rfl)
theorem f119 (P : Params) : FnOk (KK P) 119 (fnI (st 22)) := .of1 o119 (st 22) (by kernel_rfl) (by kernel_rfl) (by kernel_rfl) (by intros; kernel_rfl)
theorem f126 (P : Params) : FnOk (KK P) 126 (fnI (st 23)) := .of3 o126 (st 23) (by kernel_rfl) (by kernel_rfl) (by kernel_rfl) (by intros; kernel_rfl)
theorem f140 (P : Params) : FnOk (KK P) 140 (fnI (st 25)) := .of3 o140 (st 25) (by kernel_rfl) (by kernel_rfl) (by kernel_rfl) (by intros; kernel_rfl)
theorem f147 (P : Params) : FnOk (KK P) 147 (fnI (st 26)) := .of3 o147 (st 26) (by kernel_rfl) (by kernel_rfl) (by kernel_rfl) (by intros; kernel_rfl)
theorem f154 (P : Params) : FnOk (KK P) 154 (fnI (st 27)) := .of3 o154 (st 27) (by kernel_rfl) (by kernel_rfl) (by kernel_rfl) (by intros; kernel_rfl)
theorem f161 (P : Params) : FnOk (KK P) 161 (fnI (st 28)) := .of1 o161 (st 28) (by kernel_rfl) (by kernel_rfl) (by kernel_rfl) (by intros; kernel_rfl)
theorem f169 (P : Params) : FnOk (KK P) 169 (fnI (st 31)) := .of2 o169 (st 31) (by kernel_rfl) (by kernel_rfl) (by kernel_rfl) (by intros; kernel_rfl)
theorem f176 (P : Params) : FnOk (KK P) 176 (fnI (st 32)) := .of3 o176 (st 32) (by kernel_rfl) (by kernel_rfl) (by kernel_rfl) (by intros; kernel_rfl)
theorem f183 (P : Params) : FnOk (KK P) 183 (fnI (st 33)) := .of2 o183 (st 33) (by kernel_rfl) (by kernel_rfl) (by kernel_rfl) (by intros; kernel_rfl)
theorem f197 (P : Params) : FnOk (KK P) 197 (fnI (st 35)) := .of2 o197 (st 35) (by kernel_rfl) (by kernel_rfl) (by kernel_rfl) (by intros; kernel_rfl)
theorem f204 (P : Params) : FnOk (KK P) 204 (fnI (st 38)) := .of1 o204 (st 38) (by kernel_rfl) (by kernel_rfl) (by kernel_rfl) (by intros; kernel_rfl)
theorem f211 (P : Params) : FnOk (KK P) 211 (fnI (st 39)) := .of4 o211 (st 39) (by kernel_rfl) (by kernel_rfl) (by kernel_rfl) (by intros; kernel_rfl)
theorem f218 (P : Params) : FnOk (KK P) 218 (fnI (st 40)) := .of2 o218 (st 40) (by kernel_rfl) (by kernel_rfl) (by kernel_rfl) (by intros; kernel_rfl)
theorem f293 (P : Params) : FnOk (KK P) 293 (fnI (sm 45 0)) := .of7 o293 (sm 45 0) (by kernel_rfl) (by kernel_rfl) (by kernel_rfl) (by intros; kernel_rfl)
theorem f307 (P : Params) : FnOk (KK P) 307 (fnI (st 46)) := .of1 o307 (st 46) (by kernel_rfl) (by kernel_rfl) (by kernel_rfl) (by intros; kernel_rfl)
theorem f314 (P : Params) : FnOk (KK P) 314 (fnI (st 47)) := .of2 o314 (st 47) (by kernel_rfl) (by kernel_rfl) (by kernel_rfl) (by intros; kernel_rfl)
theorem f348 (P : Params) : FnOk (KK P) 348 (fnI (sm 51 0)) := .of2 o348 (sm 51 0) (by kernel_rfl) (by kernel_rfl) (by kernel_rfl) (by intros; kernel_rfl)
theorem f355 (P : Params) : FnOk (KK P) 355 (fnI (sm 51 1)) := .of1 o355 (sm 51 1) (by kernel_rfl) (by kernel_rfl) (by kernel_rfl) (by intros; kernel_rfl)
theorem f369 (P : Params) : FnOk (KK P) 369 (fnI (sm 51 3)) := .of1 o369 (sm 51 3) (by kernel_rfl) (by kernel_rfl) (by kernel_rfl) (by intros; kernel_rfl)
theorem f376 (P : Params) : FnOk (KK P) 376 (fnI (sm 51 4)) := .of1 o376 (sm 51 4) (by kernel_rfl) (by kernel_rfl) (by kernel_rfl) (by intros; kernel_rfl)
theorem f383 (P : Params) : FnOk (KK P) 383 (fnI (sm 51 5)) := .of1 o383 (sm 51 5) (by kernel_rfl) (by kernel_rfl) (by kernel_rfl) (by intros; kernel_rfl)
theorem f390 (P : Params) : FnOk (KK P) 390 (fnI (sm 51 6)) := .of2 o390 (sm 51 6) (by kernel_rfl) (by kernel_rfl) (by kernel_rfl) (by intros; kernel_rfl)
theorem f397 (P : Params) : FnOk (KK P) 397 (fnI (sm 51 7)) := .of2 o397 (sm 51 7) (by kernel_rfl) (by kernel_rfl) (by kernel_rfl) (by intros; kernel_rfl)
theorem f404 (P : Params) : FnOk (KK P) 404 (fnI (sm 51 8)) := .of1 o404 (sm 51 8) (by kernel_rfl) (by kernel_rfl) (by kernel_rfl) (by intros; kernel_rfl)
theorem f411 (P : Params) : FnOk (KK P) 411 (fnI (sm 51 9)) := .of2 o411 (sm 51 9) (by kernel_rfl) (by kernel_rfl) (by kernel_rfl) (by intros; kernel_rfl)
theorem f418 (P : Params) : FnOk (KK P) 418 (fnI (sm 51 10)) := .of1 o418 (sm 51 10) (by kernel_rfl) (by kernel_rfl) (by kernel_rfl) (by intros; kernel_rfl)
theorem f432 (P : Params) : FnOk (KK P) 432 (fnI (sm 51 12)) := .of1 o432 (sm 51 12) (by kernel_rfl) (by kernel_rfl) (by kernel_rfl) (by intros; kernel_rfl)
theorem f439 (P : Params) : FnOk (KK P) 439 (fnI (sm 51 13)) := .of1 o439 (sm 51 13) (by kernel_rfl) (by kernel_rfl) (by kernel_rfl) (by intros; kernel_rfl)
theorem f460 (P : Params) : FnOk (KK P) 460 (fnI (sm 51 16)) := .of3 o460 (sm 51 16) (by kernel_rfl) (by kernel_rfl) (by kernel_rfl) (by intros; kernel_rfl)
theorem f467 (P : Params) : FnOk (KK P) 467 (fnI (sm 51 17)) := .of2 o467 (sm 51 17) (by kernel_rfl) (by kernel_rfl) (by kernel_rfl) (by intros; kernel_rfl)
theorem f474 (P : Params) : FnOk (KK P) 474 (fnI (sm 51 18)) := .of2 o474 (sm 51 18) (by kernel_rfl) (by kernel_rfl) (by kernel_rfl) (by intros; kernel_rfl)
theorem f488 (P : Params) : FnOk (KK P) 488 (fnI (st 52)) := .of1 o488 (st 52) (by kernel_rfl) (by kernel_rfl) (by kernel_rfl) (by intros; kernel_rfl)
theorem f495 (P : Params) : FnOk (KK P) 495 (fnI (st 54)) := .of1 o495 (st 54) (by kernel_rfl) (by kernel_rfl) (by kernel_rfl) (by intros; kernel_rfl)
theorem f500 (P : Params) : FnOk (KK P) 500 (fnI (st 55)) := .of1 o500 (st 55) (by kernel_rfl) (by kernel_rfl) (by kernel_rfl) (by intros; kernel_rfl)
theorem f505 (P : Params) : FnOk (KK P) 505 (fnI (st 56)) := .of1 o505 (st 56) (by kernel_rfl) (by kernel_rfl) (by kernel_rfl) (by intros; kernel_rfl)
theorem fnAll (P : Params) : AllP (fun p : Nat × Stmt => FnOk (KK P) p.1 (fnI p.2)) fnL := .cons (f63 P) (.cons (f70 P) (.cons (f77 P) (.cons (f84 P) (.cons (f91 P) (.cons (f98 P) (.cons (f105 P) (.cons (f112 P) (.cons (f119 P) (.cons (f126 P) (.cons (f140 P) (.cons (f147 P) (.cons (f154 P) (.cons (f161 P) (.cons (f169 P) (.cons (f176 P) (.cons (f183 P) (.cons (f197 P) (.cons (f204 P) (.cons (f211 P) (.cons (f218 P) (.cons (f293 P) (.cons (f307 P) (.cons (f314 P) (.cons (f348 P) (.cons (f355 P) (.cons (f369 P) (.cons (f376 P) (.cons (f383 P) (.cons (f390 P) (.cons (f397 P) (.cons (f404 P) (.cons (f411 P) (.cons (f418 P) (.cons (f432 P) (.cons (f439 P) (.cons (f460 P) (.cons (f467 P) (.cons (f474 P) (.cons (f488 P) (.cons (f495 P) (.cons (f500 P) (.cons (f505 P) (.nil)))))))))))))))))))))))))))))))))))))))))))
noncomputable def punctT : List (List Nat × Nat) := [([62, 62, 62, 61], 579), ([61, 61, 61], 580), ([33, 61, 61], 581), ([62, 62, 62], 582), ([60, 60, 61], 583), ([62, 62, 61], 584), ([60, 61], 585), ([62, 61], 586), ([61, 61], 587), ([33, 61], 588), ([43, 43], 589), ([45, 45], 590), ([60, 60], 591), ([62, 62], 592), ([38, 38], 593), ([124, 124], 594), ([43, 61], 595), ([45, 61], 596), ([42, 61], 597), ([37, 61], 598), ([38, 61], 599), ([124, 61], 600), ([94, 61], 601), ([47, 61], 602), ([123], 603), ([125], 604), ([40], 605), ([41], 606), ([91], 607), ([93], 608), ([46], 609), ([59], 610), ([44], 611), ([60], 612), ([62], 613), ([43], 614), ([45], 615), ([42], 616), ([37], 617), ([38], 618), ([124], 619), ([94], 620), ([33], 621), ([126], 622), ([63], 623), ([58], 624), ([61], 625), ([47], 626)]
noncomputable def punctN : Nat := 48
end Mine
namespace Mine
/-! classes -/
noncomputable def attrChk (K : Frag) (C : Nat) (x : Str) : Bool := takerIn K C x == some none && (match findIn K (.ref C) x with | some a => noGet K a | none => false)
noncomputable def methChk (K : Frag) (C : Nat) (p : Str × Nat) : Bool := findIn K (.ref C) p.1 == some (some (.ref p.2)) && isFn K (.ref p.2) && keepIn K (.ref p.2)
noncomputable def clsChk (K : Frag) (C : Nat) (c : ClI) : Bool :=
  makesIn K C && findIn K (.ref C) "__init__" == some (some (.ref c.init)) && isFn K (.ref c.init) && findIn K (.ref C) "__setattr__" == some (some (.builtin "object.__setattr__")) && plainOver K C && hasDictIn K C &&
  plainGet K C Str.empty && (c.attrs.all (attrChk K C)) && (c.meths.all (methChk K C))
theorem ClOk.mk' {K : Frag} {C : Nat} {c : ClI} (h : clsChk K C c = true) : ClOk K C c := by
  unfold clsChk at h
  simp only [Bool.and_eq_true, beq_iff_eq] at h
  obtain ⟨⟨⟨⟨⟨⟨⟨⟨h1, h2⟩, h3⟩, h4⟩, h5⟩, h6⟩, h7⟩, h8⟩, h9⟩ := h
  refine ⟨h1, ⟨h2, h3⟩, ⟨h4, h5⟩, h6, fun x => h7, fun x hx => ?_, fun x a hx => ?_⟩
  · have := List.all_eq_true.mp h8 x hx
    unfold attrChk at this
    simp only [Bool.and_eq_true, beq_iff_eq] at this
    refine ⟨this.1, ?_⟩
    cases q : findIn K (.ref C) x with
    | none => rw [q] at this; exact absurd this.2 (by simp)
    | some a => rw [q] at this; exact ⟨a, rfl, this.2⟩
  · have := List.all_eq_true.mp h9 _ (look_mem hx)
    unfold methChk at this
    simp only [Bool.and_eq_true, beq_iff_eq] at this
    exact ⟨this.1.1, this.1.2, this.2⟩
theorem clsL (P : Params) : clsChk (KK P) 477 ⟨348, lexMeths, lexAttrs⟩ = true := by kernel_rfl
theorem clsT (P : Params) : clsChk (KK P) 296 ⟨293, [], tokAttrs⟩ = true := by kernel_rfl
/-! values at the top -/
noncomputable def rvB : AV → Value → Bool
  | .int i, .int j _ => decide (i = j)
  | .str s, .str x _ => eqL s x.cps.toList
  | .top a, .ref b => Nat.beq a b
  | _, _ => false
theorem rvB_ok {v : AV} {vv : Value} (h : rvB v vv = true) (κ : Kap) (as : List Addr) : RV κ as v vv := by
  unfold rvB at h
  split at h
  · rw [of_decide_eq_true h]; exact ⟨_, rfl⟩
  · rename_i s x t
    rw [eqL_iff] at h
    subst h
    exact ⟨t, rfl⟩
  · rw [Nat.eq_of_beq_eq_true h]; rfl
  · cases h
noncomputable def rvsB : List AV → List Value → Bool
  | [], [] => true
  | a :: x, b :: y => rvB a b && rvsB x y
  | _, _ => false
theorem rvsB_ok : ∀ {x : List AV} {y : List Value}, rvsB x y = true → ∀ (κ : Kap) (as : List Addr), All2 (RV κ as) x y
  | [], [], _, _, _ => .nil
  | [], _ :: _, h, _, _ => by cases h
  | _ :: _, [], h, _, _ => by cases h
  | a :: x, b :: y, h, κ, as => by
    obtain ⟨h1, h2⟩ := Bool.and_eq_true_iff.mp h
    exact .cons (rvB_ok h1 κ as) (rvsB_ok h2 κ as)
noncomputable def topChk (K : Frag) (p : Nat × AO) : Bool := match K.lookup p.1, seqAO p.2 with
  | some ⟨.type c, _, .seq items _, _⟩, some (b, vs) => c == (if b then "list" else "tuple") && rvsB vs items.toList
  | _, _ => false
theorem topsL (P : Params) : (topL.all (topChk (KK P))) = true := by kernel_rfl
theorem topChk_ok {K : Frag} {a : Nat} {o : AO} {b : Bool} {vs : List AV} (h : topChk K (a, o) = true) (e : seqAO o = some (b, vs)) :
    ∃ ob items n, K.lookup a = some ob ∧ ob.cls = .type (if b then "list" else "tuple") ∧ ob.data = .seq items n ∧ ∀ κ as, All2 (RV κ as) vs items.toList := by
  unfold topChk at h
  simp only [e] at h
  split at h
  · rename_i c d items n sl b' vs' q1 q2
    cases q2
    simp only [Bool.and_eq_true, beq_iff_eq] at h
    exact ⟨_, items, n, q1, by rw [h.1], rfl, rvsB_ok h.2⟩
  · cases h
/-! names -/
noncomputable def globChk (K : Frag) (p : Str × GV) : Bool := !(p.1 == ("__debug__" : Str)) && (match p.2 with
  | .fn a => nsIn K mainGlobals p.1 == some (some (.ref a)) && keepIn K (.ref a)
  | .cls a => nsIn K mainGlobals p.1 == some (some (.ref a)) && keepIn K (.ref a)
  | .val v => (match nsIn K mainGlobals p.1 with | some (some vv) => rvB v vv | _ => false)
  | .blt b => nsIn K mainGlobals p.1 == some none && bootBuiltins p.1 == some (bltV b) && !(p.1 == ("__name__" : Str))
  | .range => nsIn K mainGlobals p.1 == some none && bootBuiltins p.1 == some (.type "range") && !(p.1 == ("__name__" : Str))
  | .enumerate => nsIn K mainGlobals p.1 == some none && bootBuiltins p.1 == some (.type "enumerate") && !(p.1 == ("__name__" : Str)))
theorem globL (P : Params) : (globK.all (globChk (KK P))) = true := by kernel_rfl
/-! the table of signs -/
theorem punctL (P : Params) : (KK P).lookup 274 = some { cls := .type "dict", data := .dict ⟨punctT.map fun e => de P e.1 e.2 (.bool true)⟩ punctN } := by kernel_rfl
theorem punctKeys : punctK = punctT.map (·.1) := by kernel_rfl
theorem keysLit_map (P : Params) : ∀ l : List (List Nat × Nat), KeysLit P (l.map fun e => de P e.1 e.2 (.bool true))
  | [] => trivial
  | e :: r => ⟨⟨S e.1, e.2, rfl, rfl⟩, keysLit_map P r⟩
theorem find_map (P : Params) (x : Str) : ∀ l : List (List Nat × Nat), ((l.map fun e => de P e.1 e.2 (.bool true)).find? fun e => e.key.isStr x).isSome = hasS x.cps.toList (l.map (·.1)) ∧ ((l.map fun e => de P e.1 e.2 (.bool true)).any fun e => e.refKey) = false
  | [] => ⟨rfl, rfl⟩
  | e :: r => by
    obtain ⟨h1, h2⟩ := find_map P x r
    have hk : (de P e.1 e.2 (.bool true)).key.isStr x = eqL e.1 x.cps.toList := by
      show ((⟨⟨e.1⟩⟩ : Str) == x) = _
      obtain ⟨⟨y⟩⟩ := x
      exact str_beq e.1 y
    refine ⟨?_, ?_⟩
    · rw [List.map_cons, List.find?_cons, hk, List.map_cons]
      unfold hasS
      cases eqL e.1 x.cps.toList
      · exact h1
      · rfl
    · rw [List.map_cons, List.any_cons, h2]; rfl
theorem tab_ok (w : World) (hook : Nat → List AV → Hp → R) : TabOk (tabH hook) w (KK w.params) := by
  have gl : ∀ g v, look g globK = some v → globChk (KK w.params) (g, v) = true := fun g v h => List.all_eq_true.mp (globL w.params) _ (look_mem h)
  refine ⟨fun g a h => ?_, fun g C h => ?_, fun g v h => ?_, fun g b h => ?_, fun g h => ?_, fun g h => ?_, fun g v h => ?_, fun a f h => ?_, fun C c h => ?_, fun a o b vs h e => ?_, ?_⟩
  · have := gl g _ h
    unfold globChk at this
    simp only [Bool.and_eq_true, beq_iff_eq] at this
    exact this.2
  · have := gl g _ h
    unfold globChk at this
    simp only [Bool.and_eq_true, beq_iff_eq] at this
    exact this.2
  · have := gl g _ h
    unfold globChk at this
    simp only [Bool.and_eq_true] at this
    have t := this.2
    split at t
    · rename_i vv q; exact ⟨vv, q, rvB_ok t⟩
    · cases t
  · have := gl g _ h
    unfold globChk at this
    simp only [Bool.and_eq_true, beq_iff_eq, Bool.not_eq_true', beq_eq_false_iff_ne] at this
    exact ⟨this.2.1.1, this.2.1.2, this.2.2⟩
  · have := gl g _ h
    unfold globChk at this
    simp only [Bool.and_eq_true, beq_iff_eq, Bool.not_eq_true', beq_eq_false_iff_ne] at this
    exact ⟨this.2.1.1, this.2.1.2, this.2.2⟩
  · have := gl g _ h
    unfold globChk at this
    simp only [Bool.and_eq_true, beq_iff_eq, Bool.not_eq_true', beq_eq_false_iff_ne] at this
    exact ⟨this.2.1.1, this.2.1.2, this.2.2⟩
  · have := gl g _ h
    unfold globChk at this
    obtain ⟨h1, _⟩ := Bool.and_eq_true_iff.mp this
    simpa using h1
  · have h : (match lookN a fnL with | some s => some (fnI s) | none => none) = some f := h
    split at h
    · rename_i s q; cases h
      exact (fnAll w.params).mem _ (lookN_mem q)
    · cases h
  · have h : clsK C = some c := h
    unfold clsK at h
    split at h
    · rename_i q; cases h
      rw [Nat.eq_of_beq_eq_true q]
      exact .mk' (clsL w.params)
    · split at h
      · rename_i q; cases h
        rw [Nat.eq_of_beq_eq_true q]
        exact .mk' (clsT w.params)
      · cases h
  · have h : lookN a topL = some o := h
    exact topChk_ok (List.all_eq_true.mp (topsL w.params) _ (lookN_mem h)) e
  · refine ⟨_, _, punctL w.params, keysLit_map _ _, rfl, fun x => ?_⟩
    obtain ⟨h1, h2⟩ := find_map w.params x punctT
    show ∃ r, nsIn (KK w.params) 274 x = some r ∧ r.isSome = hasS x.cps.toList punctK
    rw [punctKeys, ← h1]
    unfold nsIn
    rw [punctL]
    simp only
    cases q : (punctT.map fun e => de w.params e.1 e.2 (.bool true)).find? fun e => e.key.isStr x with
    | some e => exact ⟨_, rfl, rfl⟩
    | none =>
      rw [h2]
      exact ⟨none, rfl, rfl⟩
end Mine
namespace Mine
noncomputable def kSelf : Str := sl [115, 101, 108, 102]
noncomputable def hp2 : Hp := [.inst 477 1, lexD .text (.pos (Int.ofNat 0)) (.lin (Int.ofNat 0))]
noncomputable def noHook : Nat → List AV → Hp → R := fun _ _ _ => none
noncomputable def nb0 : Stmt := (fB (sm 51 1)).headD (.Pass ⟨0, 0, 0, 0⟩)
noncomputable def nbR : List Stmt := (fB (sm 51 1)).drop 1
/-- the first statement of next: blanks passed by -/
noncomputable def runA (W : Win) : RS := exOneA (tabH noHook) (rc (tabH noHook) W 110) (fS (sm 51 1)) [(kSelf, .ref 0)] hp2 nb0
/-- the rest of next -/
noncomputable def runB (W : Win) : RS := (rc (tabH noHook) W 120).ex (fS (sm 51 1)) [(kSelf, .ref 0), (kBehind, .flag)] hp2 nbR
/-- the first statement ends with so many signs passed by, so many lines, and the mark -/
noncomputable def resA (d k : Nat) (b : Bool) : RS := some (.next, [(kSelf, .ref 0), (kBehind, .bool b)], [.inst 477 1, lexD .text (.pos (Int.ofNat d)) (.lin (Int.ofNat k))])
/-- what is kept of the rest's run: how it ends, and the first four objects -/
noncomputable def projB (r : RS) : Option (Fl × Hp × Hp) := match r with
  | some (f, _, hp) => some (f, hp.drop 3 |>.take 2, hp.take 2)
  | none => none
noncomputable def resB (d : Nat) (ts : List (Str × AV)) : Option (Fl × Hp × Hp) := some (.ret (.ref 4), [.dict ts, .inst 296 3], [.inst 477 1, lexD .text (.pos (Int.ofNat d)) (.lin (Int.ofNat 0))])
theorem take_at {hp l : Hp} {n i : Nat} {o : AO} (h : hp.take n = l) (hi : i < n) (e : l[i]? = some o) : hp[i]? = some o := by
  rw [← h, List.getElem?_take, if_pos hi] at e
  exact e
theorem projB_ok {r : RS} {d : Nat} {ts : List (Str × AV)} (h : projB r = resB d ts) : ∃ loc hp, r = some (.ret (.ref 4), loc, hp) ∧ hp[0]? = some (.inst 477 1) ∧ hp[1]? = some (lexD .text (.pos (Int.ofNat d)) (.lin (Int.ofNat 0))) ∧ hp[4]? = some (.inst 296 3) ∧ hp[3]? = some (.dict ts) := by
  cases r with
  | none => cases h
  | some r =>
    obtain ⟨f, loc, hp⟩ := r
    have h : some (f, (hp.drop 3).take 2, hp.take 2) = some (_, _, _) := h
    have h2 := Prod.mk.inj (Option.some.inj h)
    obtain ⟨e1, e2⟩ := Prod.mk.inj h2.2
    obtain rfl := h2.1
    have u3 := take_at (n := 2) (i := 0) e1 (by decide) rfl
    have u4 := take_at (n := 2) (i := 1) e1 (by decide) rfl
    rw [List.getElem?_drop] at u3 u4
    exact ⟨loc, hp, rfl, take_at e2 (by decide) rfl, take_at e2 (by decide) rfl, u4, u3⟩
section
variable {prog : Program} {w : World} {A : Around} {s : Shared} {κ : Kap}
variable {h₀ h h' : Heap} {L : Addr} {m : Str → Option Value} {ext news : List (Addr × Obj)}
theorem noHook_ok (n : Nat) : ClsOk κ w prog n noHook := by intro a vs hp v hp' h; cases h
theorem next_cons : fB (sm 51 1) = nb0 :: nbR := by kernel_rfl
theorem next_pars : (fnI (sm 51 1)).params = [kSelf] := by kernel_rfl
theorem next_loc1 : isLoc (fS (sm 51 1)) kSelf = true := by kernel_rfl
theorem next_loc2 : isLoc (fS (sm 51 1)) kBehind = true := by kernel_rfl
/-- the call of next, at a ledger of the lexer alone: run A at one window, run B at the other -/
theorem next_two {WA WB : Win} {d k d2 : Nat} {b : Bool} {ts : List (Str × AV)} (hA : runA WA = resA d k b) (hB : projB (runB WB) = resB d2 ts)
    (KA : Kw κ WA) (KB : Kw ⟨κ.T, κ.p + d, κ.l + Int.ofNat k, b, κ.cell⟩ WB) {R : Result → Shared → Prop} {x : Value}
    (B : Bs w h₀) (RM : Room 122 A) (a0 : At κ hp2 h₀ L m ext news s.heap) (rx : RV κ (adr news) (.ref 0) x)
    (hQ : ∀ hpB xB h' newsB tk, hpB[0]? = some (.inst 477 1) → hpB[1]? = some (lexD .text (.pos (Int.ofNat d2)) (.lin (Int.ofNat 0))) → hpB[4]? = some (.inst 296 3) → hpB[3]? = some (.dict ts) →
      RV κ (adr newsB) (.ref 4) xB → At ⟨κ.T, κ.p + d, κ.l + Int.ofNat k, b, κ.cell⟩ hpB h₀ L m ext newsB h' → adr news <+: adr newsB → R (.ok (.ret xB)) { s with heap := h', toks := tk }) :
    codeAny (model prog w) A (.call (.ref 355) ⟨[x], []⟩) R s := by
  have TO := tab_ok w noHook
  have FO := f355 w.params
  obtain ⟨name, qual, params, dV, kV, doc, pm, cdv, ct, oc, an, od, osl, hl, hc, hb⟩ := FO.rec_
  obtain ⟨mg, mb, T⟩ := B.T
  have X := B.X.keeps a0.fr.keep
  refine codeAny_call_def (binds := [(kSelf, x)]) RM.at (X _ _ hl) rfl (T.nolimit.keeps a0.fr.keep) (codeRec_of X hc) rfl (BindsTo.of_eq ((hb [x] (by rw [next_pars]; rfl)).trans (by rw [next_pars]; rfl))) FO.nocell (fun y hy => ?_) (fun h₁ hns hk => ?_) FO.co FO.gen FO.kind
  · rw [List.mem_singleton.mp hy]; exact isLoc_iff.mp next_loc1
  · have a₁ := a0.into hns hk (Nat.le_refl _)
    have lo : LocOk κ (adr news) (fS (sm 51 1)) [(kSelf, .ref 0)] (fun y => [(kSelf, x)].reverse.lookup y) := fun y u hu => by
      rw [look_cons] at hu
      split at hu
      · rename_i e; cases hu; subst e
        exact ⟨next_loc1, x, by simp, rx⟩
      · cases hu
    have EO : EnvOk (callEnv (fnOf name qual params (fB (sm 51 1)) (fS (sm 51 1)) dV kV doc pm an cdv ct) s.heap.objs.size 355) (fS (sm 51 1)) s.heap.objs.size := ⟨rfl, FO.kind, rfl, rfl, rfl⟩
    have bs := a0.grnd_bs B
    show wpAny _ _ (execs (fB (sm 51 1)) _) _ _ _
    rw [next_cons]
    have IA := all_ok (κ := κ) (w := w) (prog := prog) (D := tabH noHook) (W := WA) TO KA (off := 0) (noHook_ok 0) 110
    have cA : Cx κ w 110 (A.deeper (callEnv (fnOf name qual params (fB (sm 51 1)) (fS (sm 51 1)) dV kV doc pm an cdv ct) s.heap.objs.size 355)) (callEnv (fnOf name qual params (fB (sm 51 1)) (fS (sm 51 1)) dV kV doc pm an cdv ct) s.heap.objs.size 355) (fS (sm 51 1)) [(kSelf, .ref 0)] hp2 (grnd s.heap (ext ++ news)) s.heap.objs.size _ ext news h₁ :=
      ⟨bs, (Room.deeper (n := 121) RM _).le (by omega), EO, a₁, lo⟩
    refine wpAny_execs_cons (exOne_ok (s := { s with heap := h₁, toks := _ }) TO IA.ev IA.evs IA.tr IA.ex IA.wh IA.fo IA.fe hA cA fun f h₂ m₂ news₂ tk₂ hf a₂ l₂ p₂ => ?_)
    cases hf
    have a₃ : At ⟨κ.T, κ.p + d, κ.l + Int.ofNat k, b, κ.cell⟩ hp2 (grnd s.heap (ext ++ news)) s.heap.objs.size m₂ ext news₂ h₂ := by
      refine ⟨a₂.fr, ⟨a₂.led.ns, a₂.led.nd, ?_⟩⟩
      obtain ⟨o1, r1, e1, q1, t1⟩ := a₂.led.ho.inv1
      obtain ⟨o2, r2, e2, q2, t2⟩ := t1.inv1
      have e3 := t2.inv0
      rw [e1, e2, e3]
      refine .cons q1 (.cons ?_ .nil)
      obtain ⟨ents, nn, rfl, re⟩ := q2
      refine ⟨ents, nn, rfl, ?_⟩
      obtain ⟨d1, y1, rfl, g1, re⟩ := re.inv1
      obtain ⟨d2, y2, rfl, g2, re⟩ := re.inv1
      obtain ⟨d3, y3, rfl, g3, re⟩ := re.inv1
      cases re.inv0
      refine .cons g1 (.cons ⟨g2.1, ?_⟩ (.cons ⟨g3.1, ?_⟩ .nil))
      · obtain ⟨t, e⟩ := g2.2
        refine ⟨t, ?_⟩
        rw [e]
        simp
      · obtain ⟨t, e⟩ := g3.2
        refine ⟨t, ?_⟩
        rw [e]
        simp
    have l₃ : LocOk ⟨κ.T, κ.p + d, κ.l + Int.ofNat k, b, κ.cell⟩ (adr news₂) (fS (sm 51 1)) [(kSelf, .ref 0), (kBehind, .flag)] m₂ := fun y u hu => by
      rw [look_cons] at hu
      split at hu
      · rename_i e; cases hu
        exact l₂ y _ (by rw [look_cons, if_pos e])
      · rename_i e
        rw [look_cons] at hu
        split at hu
        · rename_i e2; cases hu
          obtain ⟨z1, z2, z3, z4⟩ := l₂ y (.bool b) (by rw [look_cons, if_neg e, look_cons, if_pos e2])
          exact ⟨z1, z2, z3, z4⟩
        · cases hu
    obtain ⟨locB, hpB, eB, g1, g2, g3, g4⟩ := projB_ok hB
    have IB := all_ok (κ := ⟨κ.T, κ.p + d, κ.l + Int.ofNat k, b, κ.cell⟩) (w := w) (prog := prog) (D := tabH noHook) (W := WB) TO KB (off := 0) (noHook_ok 0) 120
    refine IB.ex eB (s := { s with heap := h₂, toks := tk₂ }) ⟨bs, (Room.deeper (n := 121) RM _).le (by omega), EO, a₃, l₃⟩ fun f h₄ m₄ news₄ tk₄ hf a₄ l₄ p₄ => ?_
    obtain ⟨vv, rfl, rr⟩ := hf
    exact hQ hpB vv h₄ news₄ tk₄ g1 g2 g3 g4 rr (a0.back a₄) (p₂.trans p₄)
end
end Mine
namespace Mine
/-! the runs of next, each by the kernel -/
noncomputable def gapN (g : Nat) : List Nat := (GAPS[g]?).getD []
noncomputable def tokN (t : Nat) : List Nat := (TOKS[t]?).getD []
noncomputable def tokKV : Nat → AV × AV
  | 0 => (.str [110, 97, 109, 101], .str (tokN 0))
  | 1 => (.str [112, 117, 110, 99, 116], .str (tokN 1))
  | 2 => (.str [110, 117, 109, 98, 101, 114], .int 4629418941960159232)
  | 3 => (.str [116, 101, 120, 116], .str [113, 59])
  | 4 => (.str [112, 117, 110, 99, 116], .str (tokN 4))
  | 5 => (.str [107, 101, 121, 119, 111, 114, 100], .str (tokN 5))
  | 6 => (.str [110, 117, 109, 98, 101, 114], .int 4654311885213007872)
  | 7 => (.str [112, 117, 110, 99, 116], .str (tokN 7))
  | 8 => (.str [110, 97, 109, 101], .str (tokN 8))
  | 9 => (.str [112, 117, 110, 99, 116], .str (tokN 9))
  | 10 => (.str [116, 101, 120, 116], .str [65])
  | _ => (.str [112, 117, 110, 99, 116], .str (tokN 11))
noncomputable def tsD (k v : AV) (n : Nat) (plain : Bool) : List (Str × AV) :=
  [(kKind, k), (kValue, v), (kLine, .lin (Int.ofNat 0)), (kBehind, .flag), (kStart, .pos (Int.ofNat 0)), (kEnd, .pos (Int.ofNat n)), (kOctal, .bool false), (kPlain, .bool plain)]
noncomputable def tsOf (t : Nat) : List (Str × AV) := tsD (tokKV t).1 (tokKV t).2 (tokN t).length (!Nat.beq t 10)
noncomputable def tsEnd : List (Str × AV) := tsD (.str [101, 110, 100]) (.str []) 0 true
/-- what comes behind a token: nothing, or one of three signs -/
noncomputable def tailW (t j : Nat) : Win := match j with
  | 0 => ⟨tokN t, true⟩
  | 1 => ⟨tokN t ++ [32], false⟩
  | 2 => ⟨tokN t ++ [10], false⟩
  | _ => ⟨tokN t ++ [160], false⟩
theorem map_at {α β : Type} {f g : α → β} {l : List α} (h : l.map f = l.map g) {a : α} (m : a ∈ l) : f a = g a := List.map_inj_left.mp h a m
noncomputable abbrev rA (g t : Nat) : RS := runA ⟨gapN g ++ tokN t, false⟩
noncomputable abbrev wA (g : Nat) : RS := resA (gapN g).length (nls (gapN g)) (Nat.blt 0 (nls (gapN g)))
noncomputable abbrev rB (j t : Nat) : Option (Fl × Hp × Hp) := projB (runB (tailW t j))
noncomputable abbrev wB (t : Nat) : Option (Fl × Hp × Hp) := resB (tokN t).length (tsOf t)
theorem chkA0 : ((List.range 12).map fun t => rA 0 t) = (List.range 12).map fun _ => wA 0 := by kernel_rfl
theorem chkA1 : ((List.range 12).map fun t => rA 1 t) = (List.range 12).map fun _ => wA 1 := by kernel_rfl
theorem chkA2 : ((List.range 12).map fun t => rA 2 t) = (List.range 12).map fun _ => wA 2 := by kernel_rfl
theorem chkA3 : ((List.range 12).map fun t => rA 3 t) = (List.range 12).map fun _ => wA 3 := by kernel_rfl
theorem chkA4 : ((List.range 12).map fun t => rA 4 t) = (List.range 12).map fun _ => wA 4 := by kernel_rfl
theorem chkB0 : ((List.range 12).map fun t => rB 0 t) = (List.range 12).map wB := by kernel_rfl
theorem chkB1 : ((List.range 12).map fun t => rB 1 t) = (List.range 12).map wB := by kernel_rfl
theorem chkB2 : ((List.range 12).map fun t => rB 2 t) = (List.range 12).map wB := by kernel_rfl
theorem chkB3 : ((List.range 12).map fun t => rB 3 t) = (List.range 12).map wB := by kernel_rfl
theorem chkA_all {g t : Nat} (hg : g < 5) (ht : t < 12) : rA g t = wA g := by
  have m : t ∈ List.range 12 := List.mem_range.mpr ht
  match g, hg with
  | 0, _ => exact map_at chkA0 m
  | 1, _ => exact map_at chkA1 m
  | 2, _ => exact map_at chkA2 m
  | 3, _ => exact map_at chkA3 m
  | 4, _ => exact map_at chkA4 m
theorem chkB_all {t j : Nat} (ht : t < 12) (hj : j < 4) : rB j t = wB t := by
  have m : t ∈ List.range 12 := List.mem_range.mpr ht
  match j, hj with
  | 0, _ => exact map_at chkB0 m
  | 1, _ => exact map_at chkB1 m
  | 2, _ => exact map_at chkB2 m
  | 3, _ => exact map_at chkB3 m
theorem chkA_end : runA ⟨[], true⟩ = resA 0 0 false := by kernel_rfl
theorem chkA_rem : runA ⟨[32, 47, 47, 32, 43, 10], true⟩ = resA 6 1 true := by kernel_rfl
theorem chkA_semi : runA ⟨[10, 59, 32, 120], true⟩ = resA 1 1 true := by kernel_rfl
theorem chkA_x : runA ⟨[32, 120], true⟩ = resA 1 0 false := by kernel_rfl
theorem chkB_end : projB (runB ⟨[], true⟩) = resB 0 tsEnd := by kernel_rfl
theorem chkB_semi : projB (runB ⟨[59, 32, 120], true⟩) = resB 1 (tsD (.str [112, 117, 110, 99, 116]) (.str [59]) 1 true) := by kernel_rfl
theorem chkB_x : projB (runB ⟨[120], true⟩) = resB 1 (tsD (.str [110, 97, 109, 101]) (.str [120]) 1 true) := by kernel_rfl
end Mine
namespace Mine
section
variable {prog : Program} {w : World} {A : Around} {s : Shared} {κ κ1 κB : Kap} {hp hp' hpB : Hp}
variable {h₀ h h' : Heap} {L : Addr} {m : Str → Option Value} {ext news newsB : List (Addr × Obj)}
theorem nls_append : ∀ a b : List Nat, nls (a ++ b) = nls a + nls b
  | [], b => by simp [nls]
  | c :: a, b => by simp only [List.cons_append, nls, nls_append a b]; omega
/-! a part of the ledger -/
noncomputable def restL (l : List (Addr × Obj)) (x dx : Addr) : List (Addr × Obj) := l.filter fun p => !(p.1 == x || p.1 == dx)
theorem mem_restL {l : List (Addr × Obj)} {x dx : Addr} {p : Addr × Obj} : p ∈ restL l x dx ↔ p ∈ l ∧ p.1 ≠ x ∧ p.1 ≠ dx := by
  unfold restL
  rw [List.mem_filter]
  simp
theorem At.sub (a : At κ hp h₀ L m ext news h) {i d : Nat} {x dx : Addr} {ox od : Obj} (n1 : news[i]? = some (x, ox)) (n2 : news[d]? = some (dx, od)) (ne : x ≠ dx) {ao1 ao2 : AO}
    (r1 : RO κ1 [x, dx] ao1 ox) (r2 : RO κ1 [x, dx] ao2 od) : At κ1 [ao1, ao2] h₀ L m (restL (ext ++ news) x dx) [(x, ox), (dx, od)] h := by
  have m1 : (x, ox) ∈ ext ++ news := List.mem_append_right _ (List.mem_of_getElem? n1)
  have m2 : (dx, od) ∈ ext ++ news := List.mem_append_right _ (List.mem_of_getElem? n2)
  refine ⟨a.fr, ⟨fun p hp => ?_, ?_, .cons r1 (.cons r2 .nil)⟩⟩
  · rcases List.mem_append.mp hp with hp | hp
    · exact a.led.ns p (mem_restL.mp hp).1
    · rcases List.mem_cons.mp hp with rfl | hp
      · exact a.led.ns _ m1
      · rw [List.mem_singleton.mp hp]; exact a.led.ns _ m2
  · rw [List.map_append]
    refine List.nodup_append.mpr ⟨?_, ?_, ?_⟩
    · exact a.led.nd.sublist ((List.filter_sublist).map _)
    · simp [ne]
    · intro u hu v hv e
      obtain ⟨p, hp, rfl⟩ := List.mem_map.mp hu
      have := (mem_restL.mp hp).2
      simp at hv
      rcases hv with rfl | rfl
      · exact this.1 e
      · exact this.2 e
theorem nodup_at {l : List (Addr × Obj)} (nd : (adr l).Nodup) {i j : Nat} {x : Addr} {o o' : Obj} (e1 : l[i]? = some (x, o)) (e2 : l[j]? = some (x, o')) : i = j := by
  have a1 : (adr l)[i]? = some x := by simp [adr, e1]
  have a2 : (adr l)[j]? = some x := by simp [adr, e2]
  exact (List.getElem?_inj (List.getElem?_eq_some_iff.mp a1).1 nd).mp (a1.trans a2.symm)
theorem At.sup (a : At κ hp h₀ L m ext news h) {i d : Nat} {x dx : Addr} {ox od : Obj} (n1 : news[i]? = some (x, ox)) (n2 : news[d]? = some (dx, od)) (ne : x ≠ dx)
    (b : At κB hpB h₀ L m (restL (ext ++ news) x dx) newsB h') {kt kd : Nat} {tx td : Addr} {od' ot otd : Obj}
    (b0 : newsB[0]? = some (x, ox)) (b1 : newsB[1]? = some (dx, od')) (bt : newsB[kt]? = some (tx, ot)) (bd : newsB[kd]? = some (td, otd)) (lt : 1 < kt) (ld : 1 < kd) (nk : kt ≠ kd)
    {ao aot aod : AO} (r1 : RO κ (adr news) ao od') (rd : RO κ (adr news ++ [td]) aod otd) (rt : RO κ (adr news ++ [td, tx]) aot ot) :
    At κ (hp.set d ao ++ [aod, aot]) h₀ L m ext (news.set d (dx, od') ++ [(td, otd), (tx, ot)]) h' := by
  have m1 : (x, ox) ∈ news := List.mem_of_getElem? n1
  have m2 : (dx, od) ∈ news := List.mem_of_getElem? n2
  have nd := a.led.nd
  have ndB := b.led.nd2
  have keep : ∀ q ∈ ext ++ news, q.1 ≠ x → q.1 ≠ dx → h'.get? q.1 = some q.2 ∧ q.1 ≠ L ∧ h₀.get? q.1 = none := fun q hq h1 h2 => b.led.ns q (List.mem_append_left _ (mem_restL.mpr ⟨hq, h1, h2⟩))
  have inB : ∀ {k : Nat} {q : Addr × Obj}, newsB[k]? = some q → h'.get? q.1 = some q.2 ∧ q.1 ≠ L ∧ h₀.get? q.1 = none := fun e => b.led.ns _ (List.mem_append_right _ (List.mem_of_getElem? e))
  have extne : ∀ q ∈ ext, ∀ z ∈ news, q.1 ≠ z.1 := fun q hq z hz e => by
    have nd := nd
    rw [List.map_append] at nd
    exact (List.nodup_append.mp nd).2.2 q.1 (List.mem_map_of_mem hq) z.1 (List.mem_map_of_mem hz) e
  have A1 : At κ (hp.set d ao) h₀ L m ext (news.set d (dx, od')) h' := by
    refine a.of_upd n2 b.fr (fun p hp => ?_) r1
    rcases List.mem_append.mp hp with hp | hp
    · exact keep p (List.mem_append_left _ hp) (extne p hp _ m1) (extne p hp _ m2)
    · obtain ⟨j, hj⟩ := List.mem_iff_getElem?.mp hp
      rw [List.getElem?_set] at hj
      by_cases q : d = j
      · subst q
        have hl := (List.getElem?_eq_some_iff.mp n2).1
        simp [hl] at hj
        subst hj
        exact inB b1
      · simp [q] at hj
        obtain ⟨px, po⟩ := p
        by_cases q1 : px = x
        · subst q1
          have := nodup_at a.led.nd2 n1 hj
          subst this
          rw [n1] at hj; cases hj
          exact inB b0
        · refine keep _ (List.mem_append_right _ (List.mem_of_getElem? hj)) q1 fun q2 => ?_
          have q2 : px = dx := q2
          subst q2
          exact q (nodup_at a.led.nd2 n2 hj)
  have fresh : ∀ {k : Nat} {y : Addr} {o : Obj}, newsB[k]? = some (y, o) → 1 < k → y ∉ adr (ext ++ news) := fun {k y o} e lk hy => by
    obtain ⟨p, hp, e1⟩ := List.mem_map.mp hy
    subst e1
    by_cases q1 : p.1 = x
    · rw [q1] at e; have := nodup_at ndB b0 e; omega
    · by_cases q2 : p.1 = dx
      · rw [q2] at e; have := nodup_at ndB b1 e; omega
      · have nn := b.led.nd
        rw [List.map_append] at nn
        exact (List.nodup_append.mp nn).2.2 p.1 (List.mem_map_of_mem (mem_restL.mpr ⟨hp, q1, q2⟩)) p.1 (List.mem_map.mpr ⟨_, List.mem_of_getElem? e, rfl⟩) rfl
  have ea : adr (ext ++ news.set d (dx, od')) = adr (ext ++ news) := by
    show List.map _ _ = List.map _ _
    rw [List.map_append, List.map_append]
    show _ ++ adr _ = _
    rw [set_adr n2]
  have A2 := A1.grow (x := td) (o := otd) (ao := aod) A1 (inB bd).1 (inB bd).2.1 (inB bd).2.2 (by rw [ea]; exact fresh bd ld) (by
    have : adr (news.set d (dx, od') ++ [(td, otd)]) = adr news ++ [td] := by show List.map _ _ = _; rw [List.map_append]; show adr _ ++ _ = _; rw [set_adr n2]; rfl
    rw [this]; exact rd)
  have A3 := A2.grow (x := tx) (o := ot) (ao := aot) A2 (inB bt).1 (inB bt).2.1 (inB bt).2.2 (by
    rw [← List.append_assoc]
    intro hy
    have e : adr ((ext ++ news.set d (dx, od')) ++ [(td, otd)]) = adr (ext ++ news) ++ [td] := by show List.map _ _ = _; rw [List.map_append]; show adr _ ++ _ = _; rw [ea]; rfl
    rw [e] at hy
    rcases List.mem_append.mp hy with hy | hy
    · exact fresh bt lt hy
    · rw [List.mem_singleton.mp hy] at bt
      exact nk (nodup_at ndB bt bd)) (by
    have : adr (news.set d (dx, od') ++ [(td, otd)] ++ [(tx, ot)]) = adr news ++ [td, tx] := by
      show List.map _ _ = _; rw [List.map_append, List.map_append]; show (adr _ ++ _) ++ _ = _; rw [set_adr n2]; simp
    rw [this]; exact rt)
  simpa using A3
end
end Mine
namespace Mine
section
variable {prog : Program} {w : World} {A : Around} {s : Shared} {κ κ1 κB : Kap} {hp hp' hpB : Hp}
variable {h₀ h h' : Heap} {L : Addr} {m : Str → Option Value} {ext news newsB : List (Addr × Obj)}
noncomputable def Conv (κB κ : Kap) (a b : Str × AV) : Prop := a.1 = b.1 ∧ ∀ as as' vv, RV κB as a.2 vv → RV κ as' b.2 vv
theorem conv_ents {as as' : List Addr} : ∀ {ts ts' : List (Str × AV)} {ents : List DictEntry}, All2 (Conv κB κ) ts ts' → All2 (RE κB as) ts ents → All2 (RE κ as') ts' ents
  | _, _, _, .nil, r => by cases r; exact .nil
  | _, _, _, .cons h t, r => by
    obtain ⟨d, ents, rfl, ⟨hk, hv⟩, r⟩ := r.inv1
    exact .cons ⟨by rw [← h.1]; exact hk, h.2 _ _ _ hv⟩ (conv_ents t r)
theorem hook_core {l l' p r : List TA} {i d : Nat} {at_ line : AV} {vvs : List Value} {ts' : List (Str × AV)} {WA WB : Win} {dA kA d2 : Nat} {fl : Bool} {ts : List (Str × AV)} (hc : ∀ k, 0 ≤ κ.cell k)
    (e1 : hp[i]? = some (.inst 477 d)) (e2 : hp[d]? = some (lexD (.txt l) at_ line)) (ha : atOf at_ = some l') (hl : lineOk line l' = true) (ot : okT l = true) (el : l = l' ++ (p ++ r))
    (hA : runA WA = resA dA kA fl) (hB : projB (runB WB) = resB d2 ts)
    (wA : ∃ r', conc κ (p ++ r) = WA.cs ++ r' ∧ (WA.fin = true → r' = [])) (dl : dA ≤ (conc κ (p ++ r)).length) (wB : ∃ r', (conc κ (p ++ r)).drop dA = WB.cs ++ r' ∧ (WB.fin = true → r' = []))
    (hd : dA + d2 = (conc κ p).length) (hk : kA = nls (conc κ p))
    (cv : All2 (Conv ⟨conc κ l, (conc κ l').length + dA, 1 + Int.ofNat (nls (conc κ l')) + Int.ofNat kA, fl, κ.cell⟩ κ) ts ts')
    {R : Result → Shared → Prop} (B : Bs w h₀) (RM : Room 122 A) (a : At κ hp h₀ L m ext news s.heap) (rv : All2 (RV κ (adr news)) [.ref i] vvs)
    (hQ : PV κ (hp.set d (lexD (.txt l) (.slen (l' ++ p)) (.slin (l' ++ p))) ++ [.dict ts', .inst 296 hp.length]) h₀ L m ext news s (.ref (hp.length + 1)) (fun vv s' => R (.ok (.ret vv)) s')) :
    codeAny (model prog w) A (.call (.ref 355) ⟨vvs, []⟩) R s := by
  obtain ⟨v1, vvs', rfl, rx, rv⟩ := rv.inv1
  cases rv.inv0
  have pA : (conc κ l).drop (conc κ l').length = conc κ (p ++ r) := by rw [el, conc_append, List.drop_left]
  have hshort := okT_len κ ot
  have hlen : (conc κ l).length = (conc κ l').length + (conc κ (p ++ r)).length := by rw [el, conc_append, List.length_append]
  obtain ⟨x, ox, n1, hx, ro, ax⟩ := a.led.get e1
  obtain ⟨dx, od, n2, hdx, rd, ad⟩ := a.led.get e2
  obtain ⟨dx', ad', rfl⟩ := ro
  have : dx' = dx := by rw [ad] at ad'; exact (Option.some.inj ad').symm
  subst this
  obtain ⟨x', ax', rfl⟩ := rx
  have : x' = x := by rw [ax] at ax'; exact (Option.some.inj ax').symm
  subst this
  have ne : x' ≠ dx' := fun e => by
    subst e
    have := nodup_at a.led.nd2 n1 n2
    subst this
    rw [e1] at e2; cases e2
  obtain ⟨ents, nn, rfl, re⟩ := rd
  obtain ⟨q1, re1, rfl, ⟨g1, w1⟩, re⟩ := re.inv1
  obtain ⟨q2, re2, rfl, ⟨g2, w2⟩, re⟩ := re.inv1
  obtain ⟨q3, re3, rfl, ⟨g3, w3⟩, re⟩ := re.inv1
  cases re.inv0
  have ep : ∃ t, q2.val = .int (Int.ofNat (conc κ l').length) t := by
    unfold atOf at ha
    split at ha
    · cases ha
      obtain ⟨t, e⟩ := w2
      exact ⟨t, e⟩
    · cases ha
      exact w2
    · cases ha
  have en : ∃ t, q3.val = .int (1 + Int.ofNat (nls (conc κ l'))) t := by
    unfold lineOk at hl
    split at hl
    · obtain ⟨t, e⟩ := w3
      exact ⟨t, e⟩
    · rw [← eqT_iff hl]
      exact w3
    · cases hl
  have a1 : At ⟨conc κ l, (conc κ l').length, 1 + Int.ofNat (nls (conc κ l')), false, κ.cell⟩ hp2 h₀ L m (restL (ext ++ news) x' dx') [(x', instObj 477 dx'), (dx', dictOf [q1, q2, q3] nn)] s.heap := by
    refine a.sub n1 n2 ne ⟨dx', rfl, rfl⟩ ⟨_, _, rfl, .cons ⟨g1, w1⟩ (.cons ⟨g2, ?_⟩ (.cons ⟨g3, ?_⟩ .nil))⟩
    · obtain ⟨t, e⟩ := ep
      exact ⟨t, by rw [e]; simp⟩
    · obtain ⟨t, e⟩ := en
      exact ⟨t, by rw [e]; simp⟩
  have KA : Kw ⟨conc κ l, (conc κ l').length, 1 + Int.ofNat (nls (conc κ l')), false, κ.cell⟩ WA := by
    obtain ⟨r', h1, h2⟩ := wA
    exact ⟨⟨r', pA.trans h1, h2⟩, by show (conc κ l').length ≤ (conc κ l).length; omega, by show (conc κ l).length ≤ _; omega, hc⟩
  have KB : Kw ⟨conc κ l, (conc κ l').length + dA, 1 + Int.ofNat (nls (conc κ l')) + Int.ofNat kA, fl, κ.cell⟩ WB := by
    obtain ⟨r', h1, h2⟩ := wB
    refine ⟨⟨r', ?_, h2⟩, by show (conc κ l').length + dA ≤ (conc κ l).length; omega, by show (conc κ l).length ≤ _; omega, hc⟩
    show (conc κ l).drop ((conc κ l').length + dA) = _
    rw [← List.drop_drop, pA, h1]
  refine next_two hA hB KA KB B RM a1 ⟨x', rfl, rfl⟩ fun hpB xB h₂ newsB tk z0 z1 zt zd rxB b pre => ?_
  obtain ⟨y0, o0, c0, _, r0, k0⟩ := b.led.get z0
  obtain ⟨y1, o1, c1, _, r1, k1⟩ := b.led.get z1
  obtain ⟨tx, ot, ct, _, rt, kt1⟩ := b.led.get zt
  obtain ⟨td, otd, cd, _, rtd, kd1⟩ := b.led.get zd
  have i0 : (adr newsB)[0]? = some x' := pre_get pre rfl
  have i1 : (adr newsB)[1]? = some dx' := pre_get pre rfl
  have : y0 = x' := by rw [i0] at k0; exact (Option.some.inj k0).symm
  subst this
  have : y1 = dx' := by rw [i1] at k1; exact (Option.some.inj k1).symm
  subst this
  obtain ⟨u0, j0, rfl⟩ := r0
  have : u0 = y1 := by rw [i1] at j0; exact (Option.some.inj j0).symm
  subst this
  obtain ⟨ut, jt, rfl⟩ := rt
  have : ut = td := by rw [kd1] at jt; exact (Option.some.inj jt).symm
  subst this
  obtain ⟨entsL, nL, rfl, reL⟩ := r1
  obtain ⟨entsT, nT, rfl, reT⟩ := rtd
  obtain ⟨xb', jx, rfl⟩ := rxB
  have : xb' = tx := by rw [kt1] at jx; exact (Option.some.inj jx).symm
  subst this
  have lx : Conv ⟨conc κ l, (conc κ l').length + dA, 1 + Int.ofNat (nls (conc κ l')) + Int.ofNat kA, fl, κ.cell⟩ κ (kText, .text) (kText, .txt l) := ⟨rfl, fun _ _ _ h => h⟩
  have la : Conv ⟨conc κ l, (conc κ l').length + dA, 1 + Int.ofNat (nls (conc κ l')) + Int.ofNat kA, fl, κ.cell⟩ κ (kAt, .pos (Int.ofNat d2)) (kAt, .slen (l' ++ p)) := ⟨rfl, fun _ _ _ ⟨t, e⟩ => ⟨t, by
    rw [e, conc_append, List.length_append, ← hd]
    simp only [Int.ofNat_eq_natCast, Int.natCast_add, Value.int.injEq, and_true]
    omega⟩⟩
  have ll : Conv ⟨conc κ l, (conc κ l').length + dA, 1 + Int.ofNat (nls (conc κ l')) + Int.ofNat kA, fl, κ.cell⟩ κ (kLine, .lin (Int.ofNat 0)) (kLine, .slin (l' ++ p)) := ⟨rfl, fun _ _ _ ⟨t, e⟩ => ⟨t, by
    rw [e, conc_append, nls_append, hk]
    simp only [Int.ofNat_eq_natCast, Int.natCast_add, Value.int.injEq, and_true]
    omega⟩⟩
  have n3 : adr news <+: adr news ++ [ut, xb'] := ⟨_, rfl⟩
  have F := a.sup n1 n2 ne b c0 c1 ct cd (by decide) (by decide) (by decide) (ao := lexD (.txt l) (.slen (l' ++ p)) (.slin (l' ++ p))) (aod := .dict ts') (aot := .inst 296 hp.length)
    ⟨entsL, nL, rfl, conv_ents (.cons lx (.cons la (.cons ll .nil))) reL⟩ ⟨entsT, nT, rfl, conv_ents cv reT⟩ ⟨ut, by rw [a.led.len]; simp [adr], rfl⟩
  refine hQ _ _ _ _ ⟨xb', ?_, rfl⟩ F ⟨[ut, xb'], ?_⟩
  · rw [a.led.len]
    have e : adr (news.set d (u0, dictOf entsL nL) ++ [(ut, dictOf entsT nT), (xb', instObj 296 ut)]) = adr news ++ [ut, xb'] := by show List.map _ _ = _; rw [List.map_append]; show adr _ ++ _ = _; rw [set_adr n2]; rfl
    rw [e, List.getElem?_append_right (by simp [adr])]
    simp [adr]
  · show _ = List.map _ _; rw [List.map_append]; show _ = adr _ ++ _; rw [set_adr n2]; rfl
end
end Mine
namespace Mine
noncomputable def txtOk (vs : List AV) (hp : Hp) : Bool := match vs with
  | [.ref i] => match hp[i]? with
    | some (.inst _ d) => match hp[d]? with
      | some (.dict [(_, .txt l), _, _]) => okT l
      | _ => false
    | _ => false
  | _ => false
/-- the hook: next's contract at a text of pieces -/
noncomputable def hookL (a : Nat) (vs : List AV) (hp : Hp) : R := match txtOk vs hp with
  | true => hookN 355 477 296 a vs hp
  | false => Option.none
section
variable {prog : Program} {w : World} {A : Around} {s : Shared} {κ κ1 κB : Kap} {hp hp' hpB : Hp}
variable {h₀ h h' : Heap} {L : Addr} {m : Str → Option Value} {ext news newsB : List (Addr × Obj)}
theorem g_lt (hc : ∀ k, 0 ≤ κ.cell k) (k : Nat) : (gOf κ k).toNat < 5 := by
  have h1 := Int.fmod_nonneg_of_pos (qOf κ k) (show (0 : Int) < 5 by decide)
  have h2 := Int.fmod_lt_of_pos (qOf κ k) (show (0 : Int) < 5 by decide)
  unfold gOf; omega
theorem t_lt (κ : Kap) (k : Nat) : (tOf κ k).toNat < 12 := by
  have h1 := Int.fmod_nonneg_of_pos (κ.cell k) (show (0 : Int) < 12 by decide)
  have h2 := Int.fmod_lt_of_pos (κ.cell k) (show (0 : Int) < 12 by decide)
  unfold tOf; omega
theorem att_at {k t : Nat} (h : (tOf κ k).toNat = t) (ht : t < 12) : attV κ 0 k = (tokKV t).1 ∧ attV κ 1 k = (tokKV t).2 ∧ attV κ 3 k = .bool (Nat.blt 0 (nls (gapS κ k))) ∧ attV κ 6 k = .bool false ∧ attV κ 7 k = .bool (!Nat.beq t 10) := by
  have e : tokS κ k = tokN t := by unfold tokS tokN; rw [h]
  unfold attV
  rw [h, e]
  match t, ht with
  | 0, _ => exact ⟨rfl, rfl, rfl, rfl, rfl⟩
  | 1, _ => exact ⟨rfl, rfl, rfl, rfl, rfl⟩
  | 2, _ => exact ⟨rfl, rfl, rfl, rfl, rfl⟩
  | 3, _ => exact ⟨rfl, rfl, rfl, rfl, rfl⟩
  | 4, _ => exact ⟨rfl, rfl, rfl, rfl, rfl⟩
  | 5, _ => exact ⟨rfl, rfl, rfl, rfl, rfl⟩
  | 6, _ => exact ⟨rfl, rfl, rfl, rfl, rfl⟩
  | 7, _ => exact ⟨rfl, rfl, rfl, rfl, rfl⟩
  | 8, _ => exact ⟨rfl, rfl, rfl, rfl, rfl⟩
  | 9, _ => exact ⟨rfl, rfl, rfl, rfl, rfl⟩
  | 10, _ => exact ⟨rfl, rfl, rfl, rfl, rfl⟩
  | 11, _ => exact ⟨rfl, rfl, rfl, rfl, rfl⟩
theorem kv_flat {t : Nat} (ht : t < 12) {as : List Addr} {vv : Value} : (RV κ as (tokKV t).1 vv → RVb (tokKV t).1 vv) ∧ (RV κ as (tokKV t).2 vv → RVb (tokKV t).2 vv) := by
  match t, ht with
  | 0, _ => exact ⟨fun h => h, fun h => h⟩
  | 1, _ => exact ⟨fun h => h, fun h => h⟩
  | 2, _ => exact ⟨fun h => h, fun h => h⟩
  | 3, _ => exact ⟨fun h => h, fun h => h⟩
  | 4, _ => exact ⟨fun h => h, fun h => h⟩
  | 5, _ => exact ⟨fun h => h, fun h => h⟩
  | 6, _ => exact ⟨fun h => h, fun h => h⟩
  | 7, _ => exact ⟨fun h => h, fun h => h⟩
  | 8, _ => exact ⟨fun h => h, fun h => h⟩
  | 9, _ => exact ⟨fun h => h, fun h => h⟩
  | 10, _ => exact ⟨fun h => h, fun h => h⟩
  | 11, _ => exact ⟨fun h => h, fun h => h⟩
theorem gap_first {g : Nat} (hg : g < 5) : ∃ c r', gapN g = c :: r' ∧ (c = 32 ∨ c = 10 ∨ c = 160) := by
  match g, hg with
  | 0, _ => exact ⟨_, _, rfl, .inl rfl⟩
  | 1, _ => exact ⟨_, _, rfl, .inr (.inl rfl)⟩
  | 2, _ => exact ⟨_, _, rfl, .inl rfl⟩
  | 3, _ => exact ⟨_, _, rfl, .inl rfl⟩
  | 4, _ => exact ⟨_, _, rfl, .inr (.inr rfl)⟩
/-- what follows, as a window -/
theorem tail_of (hc : ∀ k, 0 ≤ κ.cell k) {r : List TA} (h : follows r = true) (t : Nat) : ∃ j, j < 4 ∧ ∃ r', tokN t ++ conc κ r = (tailW t j).cs ++ r' ∧ ((tailW t j).fin = true → r' = []) := by
  have main : ∀ c x, conc κ r = c :: x → (c = 32 ∨ c = 10 ∨ c = 160) → ∃ j, j < 4 ∧ ∃ r', tokN t ++ conc κ r = (tailW t j).cs ++ r' ∧ ((tailW t j).fin = true → r' = []) := fun c x e q => by
    rcases q with rfl | rfl | rfl
    · exact ⟨1, by decide, x, by rw [e]; show _ = (tokN t ++ [32]) ++ x; simp, fun h => by cases h⟩
    · exact ⟨2, by decide, x, by rw [e]; show _ = (tokN t ++ [10]) ++ x; simp, fun h => by cases h⟩
    · exact ⟨3, by decide, x, by rw [e]; show _ = (tokN t ++ [160]) ++ x; simp, fun h => by cases h⟩
  unfold follows at h
  split at h
  · exact ⟨0, by decide, [], rfl, fun _ => rfl⟩
  · rename_i k r
    obtain ⟨c, x, e, q⟩ := gap_first (g_lt hc k)
    refine main c (x ++ conc κ r) ?_ q
    show gapN _ ++ conc κ r = _
    rw [e]; rfl
  · rename_i u r
    rcases Bool.or_eq_true_iff.mp h with h | h
    · rw [eqL_iff.mp h]; rw [eqL_iff.mp h] at main
      exact main 10 (conc κ r) rfl (.inr (.inl rfl))
    · rw [eqL_iff.mp h]; rw [eqL_iff.mp h] at main
      exact main 32 _ rfl (.inl rfl)
  · cases h
theorem conv_unk {a : Str × AV} : Conv κB κ a (a.1, .unk) := ⟨rfl, fun _ _ _ h => RV.handed h⟩
theorem conv_str {x : Str} {u : List Nat} : Conv κB κ (x, .str u) (x, .str u) := ⟨rfl, fun _ _ _ h => h⟩
theorem conv_end {k : List Nat} {v : AV} {n : Nat} {b : Bool} : All2 (Conv κB κ) (tsD (.str k) v n b) [(kKind, .str k), (kValue, .unk), (kLine, .unk), (kBehind, .unk), (kStart, .unk), (kEnd, .unk), (kOctal, .unk), (kPlain, .unk)] :=
  .cons conv_str (.cons conv_unk (.cons conv_unk (.cons conv_unk (.cons conv_unk (.cons conv_unk (.cons conv_unk (.cons conv_unk .nil)))))))
theorem behindT_ok' {l l' r : List TA} (h : behindT l l' = some r) : l = l' ++ r := behindT_ok h
theorem hook_ok (hc : ∀ k, 0 ≤ κ.cell k) : ClsOk κ w prog 122 hookL := by
  intro a vs hp v hp' h A R s h₀ L m ext news vvs B RM a0 rv hQ
  unfold hookL at h
  split at h
  rotate_left
  · cases h
  rename_i ht
  unfold hookN at h
  split at h
  rotate_left
  · cases h
  rename_i i qa
  have qa := Nat.eq_of_beq_eq_true qa
  subst qa
  split at h
  rotate_left
  · cases h
  rename_i C d e1
  split at h
  rotate_left
  · cases h
  rename_i x l y at_ z line qC e2
  have qC := Nat.eq_of_beq_eq_true qC
  subst qC
  split at h
  rotate_left
  · cases h
  rename_i l' qk qat
  simp only [Bool.and_eq_true] at qk
  obtain ⟨⟨k1, k2⟩, k3⟩ := qk
  have k1 := eqS_iff.mp k1
  have k2 := eqS_iff.mp k2
  have k3 := eqS_iff.mp k3
  subst k1 k2 k3
  split at h
  rotate_left
  · cases h
  rename_i r ql qb
  have ot : okT l = true := by
    unfold txtOk at ht
    simp only [e1, e2] at ht
    exact ht
  have el := behindT_ok' qb
  unfold stepT at h
  split at h
  rotate_left
  · cases h
  rename_i p o q
  cases h
  split at q
  · -- the end
    cases q
    refine hook_core hc e1 e2 qat ql ot (by simpa using el) chkA_end chkB_end (p := []) (r := []) ⟨[], rfl, fun _ => rfl⟩ (Nat.zero_le _) ⟨[], rfl, fun _ => rfl⟩ rfl rfl conv_end B RM a0 rv hQ
  · rename_i u r
    split at q
    · rename_i q1
      cases q
      have q1 := eqL_iff.mp q1
      subst q1
      exact hook_core hc e1 e2 qat ql ot (by simpa using el) chkA_rem chkB_end (p := [.lit [32, 47, 47, 32, 43, 10]]) (r := []) ⟨[], rfl, fun _ => rfl⟩ (of_decide_eq_true rfl) ⟨[], rfl, fun _ => rfl⟩ rfl rfl conv_end B RM a0 rv hQ
    · split at q
      · rename_i u1 u2 u3 q1 _
        split at q
        · rename_i q2
          cases q
          simp only [Bool.and_eq_true] at q2
          obtain ⟨⟨z1, z2⟩, z3⟩ := q2
          have q1 := eqL_iff.mp q1
          have z1 := eqL_iff.mp z1
          have z2 := eqL_iff.mp z2
          have z3 := eqL_iff.mp z3
          subst q1 z1 z2 z3
          exact hook_core hc e1 e2 qat ql ot (by simpa using el) chkA_semi chkB_semi (p := [.lit [10], .lit [59]]) (r := [.lit [32], .lit [120]]) ⟨[], rfl, fun _ => rfl⟩ (of_decide_eq_true rfl) ⟨[], rfl, fun _ => rfl⟩ rfl rfl conv_end B RM a0 rv hQ
        · cases q
      · split at q
        · rename_i u1 q1 _ _
          split at q
          · rename_i z1
            cases q
            have q1 := eqL_iff.mp q1
            have z1 := eqL_iff.mp z1
            subst q1 z1
            exact hook_core hc e1 e2 qat ql ot (by simpa using el) chkA_x chkB_x (p := [.lit [32], .lit [120]]) (r := []) ⟨[], rfl, fun _ => rfl⟩ (of_decide_eq_true rfl) ⟨[], rfl, fun _ => rfl⟩ rfl rfl conv_end B RM a0 rv hQ
          · cases q
        · cases q
  · rename_i k k' r
    split at q
    · rename_i q1
      cases q
      obtain ⟨z1, z2⟩ := Bool.and_eq_true_iff.mp q1
      have z1 := Nat.eq_of_beq_eq_true z1
      subst z1
      obtain ⟨j, hj, r', f1, f2⟩ := tail_of hc z2 (tOf κ k).toNat
      have T := t_lt κ k
      have G := g_lt hc k
      obtain ⟨A0, A1, A3, A6, A7⟩ := att_at (κ := κ) rfl T
      have cs : conc κ ([.gap k, .tok k] ++ r) = gapN (gOf κ k).toNat ++ (tokN (tOf κ k).toNat ++ conc κ r) := rfl
      have cp : conc κ [.gap k, .tok k] = gapN (gOf κ k).toNat ++ (tokN (tOf κ k).toNat ++ []) := rfl
      have cg : conc κ (l' ++ [.gap k]) = conc κ l' ++ gapN (gOf κ k).toNat := by rw [conc_append]; show _ ++ (gapN _ ++ []) = _; simp
      have ct : conc κ (l' ++ [.gap k, .tok k]) = conc κ l' ++ (gapN (gOf κ k).toNat ++ tokN (tOf κ k).toNat) := by rw [conc_append, cp]; simp
      have tn : nls (tokN (tOf κ k).toNat) = 0 := by
        have : ∀ t, t < 12 → nls (tokN t) = 0 := by decide
        exact this _ T
      refine hook_core hc e1 e2 qat ql ot (by simpa using el) (chkA_all G T) (chkB_all T hj) (p := [.gap k, .tok k]) (r := r)
        ⟨conc κ r, by rw [cs]; simp, fun h => by cases h⟩ (by rw [cs]; simp) ⟨r', by rw [cs, List.drop_left]; exact f1, f2⟩ (by rw [cp]; simp) (by rw [cp]; simp [nls_append, tn]) ?_ B RM a0 rv hQ
      refine .cons ⟨rfl, fun _ _ vv hv => ?_⟩ (.cons ⟨rfl, fun _ _ vv hv => ?_⟩ (.cons ⟨rfl, fun _ _ vv hv => ?_⟩ (.cons ⟨rfl, fun _ _ vv hv => ?_⟩ (.cons ⟨rfl, fun _ _ vv hv => ?_⟩ (.cons ⟨rfl, fun _ _ vv hv => ?_⟩ (.cons ⟨rfl, fun _ _ vv hv => ?_⟩ (.cons ⟨rfl, fun _ _ vv hv => ?_⟩ .nil)))))))
      · show RVb (attV κ 0 k) vv
        rw [A0]; exact (kv_flat T).1 hv
      · show RVb (attV κ 1 k) vv
        rw [A1]; exact (kv_flat T).2 hv
      · obtain ⟨t, e⟩ := hv
        refine ⟨t, ?_⟩
        rw [e, cg, nls_append]
        simp only [Int.ofNat_eq_natCast, Int.natCast_add, Value.int.injEq, and_true]
        omega
      · show RVb (attV κ 3 k) vv
        rw [A3]; exact hv
      · obtain ⟨t, e⟩ := hv
        refine ⟨t, ?_⟩
        rw [e, cg, List.length_append]
        simp
      · obtain ⟨t, e⟩ := hv
        refine ⟨t, ?_⟩
        rw [e, ct, List.length_append, List.length_append]
        simp only [Int.ofNat_eq_natCast, Int.natCast_add, Value.int.injEq, and_true]
        omega
      · show RVb (attV κ 6 k) vv
        rw [A6]; exact hv
      · show RVb (attV κ 7 k) vv
        rw [A7]; exact hv
    · cases q
  · cases q
end
end Mine
namespace Mine
section
variable {prog : Program} {w : World} {A : Around} {E : Value → Shared → Prop} {s : Shared} {κ : Kap} {W : Win} {D : Tab} {hp hp' : Hp} {n : Nat} {r : Rc}
variable {h₀ h h' : Heap} {L : Addr} {m : Str → Option Value} {ext news : List (Addr × Obj)} {env : Env} {sc : Scope} {loc : Loc}
/-- a name set to what a comprehension over a list gives -/
theorem asgComp_ok (TO : TabOk D w (KK w.params)) (O : EvOk κ w prog n r.ev) {elt it : Expr} {x y : Str} {px py pos spos : Pos} {csc : Scope} {v : AV} {hp₁ hp₂ : Hp} {vs ys : List AV} {Q : Flow → Shared → Prop}
    (hit : ∀ {Q' : Value → Shared → Prop} {E' : Value → Shared → Prop}, PV κ hp₁ h₀ L m ext news s v Q' → wpAny (model prog w) A (eval it env) Q' E' s) (q2 : seqK D hp₁ v = some (true, vs)) (hx : isLoc csc x = true) (hs : notSet it = true) (hc : compSc csc = true)
    (q3 : compA D r csc x elt (.seq true v) 1000 0 hp₁ = some (ys, hp₂)) (hl : ys.length < 1000)
    (hsw : swapsWith (.ListComp elt [⟨.Name x px, it, [], 0⟩] csc pos) (some (.Name y py)) spos.line env = pure true) (hy : isLoc sc y = true)
    (c : Cx κ w n A env sc loc hp h₀ L m ext news s.heap)
    (hQ : ∀ h' m' news' tk, Cx κ w n A env sc (put y (.ref hp₂.length) loc) (hp₂ ++ [.list ys]) h₀ L m' ext news' h' → Q .next { s with heap := h', toks := tk }) :
    wpAny (model prog w) A (exec (.Assign [.Name y py] (.ListComp elt [⟨.Name x px, it, [], 0⟩] csc pos) spos) env) Q E s := by
  obtain ⟨hk, hn⟩ := Bool.and_eq_true_iff.mp hc
  have hk := isFun_ok hk
  have hn := compScL_ok hn
  rw [exec_Assign_Name_used _ _ _ _ hsw]
  refine wpAny_bind (wpAny_standAt (wpAny_bind ?_))
  show wpAny _ A (do let _ ← comprehension (.ListComp elt [⟨.Name x px, it, [], 0⟩] csc pos) csc env _ (newList []) false (eval it env) (some (assign (.Name y py) env))) _ _ s
  refine wpAny_bind (wpAny_mono (wpAny_comprehension_use (Q := fun _ s' => Q .next s') rfl (notSet_fold hs env) (fun x hx => (hn x hx).1) hk (fun x hx => (hn x hx).2.2) (hit fun xv h₁ news₁ tk₁ rv a₁ p₁ => ?_))
    (fun _ s' hq => wpAny_pure (wpAny_pure hq)) fun _ _ e => e)
  obtain ⟨l, items, rfl, r2, hli, _⟩ := seqK_ok (s := { s with heap := h₁, toks := tk₁ }) TO c.bs a₁ q2 rv
  refine wpAny_pyIter_list (hli rfl) ?_
  have a₂ := a₁.ext_push { cls := .type "list_iterator", data := .fields #[.ref l, .int 0 0] } rfl
  refine newList_N (s := { s with heap := h₁.push { cls := .type "list_iterator", data := .fields #[.ref l, .int 0 0] }, toks := tk₁ }) (vs := []) a₂.fr a₂.led.ns (fun h₃ F N => ?_) (by simp [sizeLine])
  have a₃ : At κ hp₁ h₀ L m (((h₁.push { cls := .type "list_iterator", data := .fields #[.ref l, .int 0 0] }).objs.size, PySem.W.listOf #[] 0) :: (h₁.objs.size, { cls := .type "list_iterator", data := .fields #[.ref l, .int 0 0] }) :: ext) news₁ h₃ :=
    ⟨F, N, by
      rw [List.cons_append, List.map_cons, List.nodup_cons]
      exact ⟨size_fresh a₂, a₂.led.nd⟩, a₂.led.ho⟩
  have a₃ := a₃.ext_swap
  refine wpAny_newFunctionEnv (fun x hx => (hn x hx).2.1) (fun x hx => by cases hx) (fun h₄ hns hsb => ?_) hk
  have k₄ : ∀ b o, h₃.get? b = some o → h₄.get? b = some o := fun b o e => (hsb.2 b (Nat.ne_of_lt (Heap.lt_size e))).trans (Heap.get?_push_of_some _ e)
  have a₄ := a₃.into hns k₄ (Nat.le_refl _)
  have B₄ := a₃.grnd_bs c.bs
  have hi : h₄.IsListIter h₁.objs.size l 0 := ⟨_, k₄ _ _ (At.ext_get (e1 := []) a₃), rfl, rfl⟩
  have EO : EnvOk { newEnv csc h₃.objs.size env.globals [] env.qual none .none (some env) builtinsNs with scope := csc } csc h₃.objs.size := ⟨rfl, hk, rfl, c.env.glob, c.env.blt⟩
  have main : codeAny (model prog w) A (.compLoop (.ListComp elt [⟨.Name x px, it, [], 0⟩] csc pos) 0 (.ref h₁.objs.size) (.ref (h₁.push { cls := .type "list_iterator", data := .fields #[.ref l, .int 0 0] }).objs.size) { newEnv csc h₃.objs.size env.globals [] env.qual none .none (some env) builtinsNs with scope := csc })
      (fun r s' => match r with
        | .ok _ => wpAny (model prog w) A (assign (.Name y py) env (.ref (h₁.push { cls := .type "list_iterator", data := .fields #[.ref l, .int 0 0] }).objs.size)) (fun _ s'' => ∃ m, s''.heap.Ns h₃.objs.size m ∧ ∀ h', Heap.SameBut h₃.objs.size s''.heap h' → Q .next { s'' with heap := h' }) E s'
        | .error x => ∃ m, s'.heap.Ns h₃.objs.size m ∧ ∀ h', Heap.SameBut h₃.objs.size s'.heap h' → wpAny (model prog w) A (PySem.passOn "comprehension.variables-let-go" x { newEnv csc h₃.objs.size env.globals [] env.qual none .none (some env) builtinsNs with scope := csc }) (fun (_ : Value) s' => Q .next s') E { s' with heap := h' })
      { s with heap := h₄, toks := tk₁ } := by
    refine compLoop_ok (D := D) (n := n) (av := v) (l := l) (g := grnd h₃ _) (Lc := h₃.objs.size) (e0 := ext) (news₀ := news₁) (hpe := hp₂) (ysAll := ys) TO O hx s hl (fun h₅ tk₅ mc its k news₅ a₅ p₅ ry => ?_) 1000 0 hp₁ [] ys q3 rfl rv (pre_refl _) B₄ c.room EO a₄ hi .nil
    have b1 := a₃.back a₅
    have b3 := b1.ext_out (ao := .list ys) ⟨its, k, rfl, ry.mono fun _ _ z => z.mono (adr_pre _ _)⟩
    refine PySem.wpAny_assign_Name (wpAny_storeName_local (c.isL hy) (by rw [c.env.loc]; exact b3.fr.ns) (fun h₆ hn₆ hs₆ => ?_) (by rw [c.kind]; rfl))
    rw [c.env.loc] at hn₆ hs₆
    have LL : h₃.objs.size ≠ L := fun e => by have := L_lt a₃; rw [← e] at this; exact Nat.lt_irrefl _ this
    refine ⟨mc, a₅.fr.ns.sameBut hs₆ LL, fun h₇ hs₇ => ?_⟩
    have b4 := b3.withNews (b3.fr.set hn₆ hs₆) (b3.led.ns.set hs₆)
    have b5 := b4.keep (h' := h₇) (wr := [h₃.objs.size]) (fun b o hb e => (hs₇.2 b (fun z => hb (by simp [z]))).trans e) fun b hb => by
      rw [List.mem_singleton.mp hb]
      refine ⟨LL, base_size_none a₃, fun z => ?_⟩
      have e : adr (ext ++ (news₅ ++ [((h₁.push { cls := .type "list_iterator", data := .fields #[.ref l, .int 0 0] }).objs.size, PySem.W.listOf its k)])) = adr (ext ++ news₅) ++ [(h₁.push { cls := .type "list_iterator", data := .fields #[.ref l, .int 0 0] }).objs.size] := by simp [adr]
      rw [e] at z
      rcases List.mem_append.mp z with z | z
      · obtain ⟨p, hp, e⟩ := List.mem_map.mp z
        refine (a₅.led.ns p ?_).2.1 e
        rcases List.mem_append.mp hp with hp | hp
        · exact List.mem_append_left _ (.tail _ hp)
        · exact List.mem_append_right _ hp
      · have := (a₃.led.ns _ (List.mem_append_left _ (.tail _ (.head _)))).1
        have := Heap.lt_size this
        rw [← List.mem_singleton.mp z] at this
        exact Nat.lt_irrefl _ this
    exact hQ h₇ _ _ _ ⟨c.bs, c.room, c.env, b5, (c.loc.mono ((p₁.trans p₅).trans (adr_pre _ _))).set hy b1.ref_last⟩
  exact codeAny_compStart_list main (wpAny_pyIter_listiter hi main)
end
end Mine
namespace Mine
noncomputable def kCells : Str := sl [99, 101, 108, 108, 115]
noncomputable def lw0 : Stmt := (fB (st 56)).headD (.Pass ⟨0, 0, 0, 0⟩)
noncomputable def lwR : List Stmt := (fB (st 56)).drop 1
noncomputable def runL (n : Nat) : RS := (rc (tabH hookL) ⟨[], true⟩ 100).ex (fS (st 56)) [(kCells, .ref 1)] [.any, .list ((List.range n).map .cell)] lwR
noncomputable def okL (r : RS) : Bool := match r with
  | some (.ret (.bool true), _, _) => true
  | _ => false
theorem runL1 : okL (runL 1) = true := by kernel_rfl
theorem runL2 : okL (runL 2) = true := by kernel_rfl
theorem runL3 : okL (runL 3) = true := by kernel_rfl
theorem runL4 : okL (runL 4) = true := by kernel_rfl
theorem runL5 : okL (runL 5) = true := by kernel_rfl
end Mine
namespace Mine
noncomputable def kCell : Str := sl [99, 101, 108, 108]
noncomputable def kAbs : Str := sl [97, 98, 115]
noncomputable def kLen : Str := sl [108, 101, 110]
noncomputable def kScript : Str := sl [115, 99, 114, 105, 112, 116]
noncomputable def eltE : Expr := .Call (.Name kAbs ⟨402, 13, 402, 16⟩) [.Name kCell ⟨402, 17, 402, 21⟩] [] ⟨402, 13, 402, 22⟩
noncomputable def bodyE : Expr := .Subscript (.Name kScript ⟨402, 36, 402, 42⟩) (.Slice none (some (.Constant (.int 5) 0 ⟨402, 44, 402, 45⟩)) none ⟨402, 43, 402, 45⟩) ⟨402, 36, 402, 46⟩
noncomputable def elseE : Expr := .List [.Constant (.int 14) 0 ⟨402, 72, 402, 74⟩, .Constant (.int 25) 0 ⟨402, 76, 402, 78⟩, .Constant (.int 38) 0 ⟨402, 80, 402, 82⟩, .Constant (.int 3) 0 ⟨402, 84, 402, 85⟩] ⟨402, 71, 402, 86⟩
noncomputable def itE : Expr := .IfExp (.Compare (.Call (.Name kLen ⟨402, 50, 402, 53⟩) [.Name kScript ⟨402, 54, 402, 60⟩] [] ⟨402, 50, 402, 61⟩) [.Gt] [.Constant (.int 0) 0 ⟨402, 64, 402, 65⟩] ⟨402, 50, 402, 65⟩) bodyE elseE ⟨402, 36, 402, 86⟩
noncomputable def cscE : Scope := { kind := .function, names := [(sl [46, 48], .local), (kCell, .local), (kAbs, .globalImplicit)], isGenerator := false, isCoroutine := false, more := [] }
theorem lw0_eq : lw0 = .Assign [.Name kCells ⟨402, 4, 402, 9⟩] (.ListComp eltE [⟨.Name kCell ⟨402, 27, 402, 31⟩, itE, [], 0⟩] cscE ⟨402, 12, 402, 88⟩) ⟨402, 4, 402, 88⟩ := by kernel_rfl
theorem law_cons : fB (st 56) = lw0 :: lwR := by kernel_rfl
theorem law_pars : (fnI (st 56)).params = [kScript] := by kernel_rfl
theorem law_loc1 : isLoc (fS (st 56)) kScript = true := by kernel_rfl
theorem law_loc2 : isLoc (fS (st 56)) kCells = true := by kernel_rfl
theorem law_glob : isGlob (fS (st 56)) kLen = true := by kernel_rfl
noncomputable def absI (i : Int) : Int := if i < 0 then -i else i
noncomputable def cellsOf (xs : List Int) : List Int := if xs.isEmpty = true then [14, 25, 38, 3] else xs.take 5
noncomputable def kapOf (xs : List Int) : Kap := ⟨[], 0, 0, false, fun k => match (cellsOf xs)[k]? with | some i => absI i | none => 0⟩
theorem absI_nn (i : Int) : 0 ≤ absI i := by unfold absI; split <;> omega
theorem kapOf_nn (xs : List Int) : ∀ k, 0 ≤ (kapOf xs).cell k := fun k => by
  show 0 ≤ (match (cellsOf xs)[k]? with | some i => absI i | none => 0)
  split
  · exact absI_nn _
  · exact Int.le_refl _
theorem kw0 (xs : List Int) : Kw (kapOf xs) ⟨[], true⟩ := ⟨⟨[], rfl, fun _ => rfl⟩, Nat.le_refl _, Nat.zero_le _, kapOf_nn xs⟩
noncomputable abbrev r0 : Rc := rc (tabH noHook) ⟨[], true⟩ 10
theorem comp_abs : ∀ l : List Int, l.length ≤ 5 → compA (tabH noHook) r0 cscE kCell eltE (.seq true (.ref 0)) 1000 0 [.list (l.map .int)] = some (l.map fun i => .int (absI i), [.list (l.map .int)])
  | [], _ => by kernel_rfl
  | [a], _ => by kernel_rfl
  | [a, b], _ => by kernel_rfl
  | [a, b, c], _ => by kernel_rfl
  | [a, b, c, d], _ => by kernel_rfl
  | [a, b, c, d, e], _ => by kernel_rfl
  | _ :: _ :: _ :: _ :: _ :: _ :: _, h => absurd h (by simp)
theorem cells_len (xs : List Int) : (cellsOf xs).length ≤ 5 ∧ 0 < (cellsOf xs).length := by
  unfold cellsOf
  cases xs with
  | nil => exact ⟨by decide, by decide⟩
  | cons a r => simp; omega
theorem runL_ok {n : Nat} (h1 : 0 < n) (h5 : n ≤ 5) : okL (runL n) = true := by
  match n, h1, h5 with
  | 1, _, _ => exact runL1
  | 2, _, _ => exact runL2
  | 3, _, _ => exact runL3
  | 4, _, _ => exact runL4
  | 5, _, _ => exact runL5
theorem okL_ok {r : RS} (h : okL r = true) : ∃ loc hp, r = some (.ret (.bool true), loc, hp) := by
  unfold okL at h
  split at h
  · exact ⟨_, _, rfl⟩
  · cases h
section
variable {prog : Program} {w : World} {A : Around} {E : Value → Shared → Prop} {s : Shared} {κ : Kap} {W : Win} {D : Tab} {hp hp' : Hp} {n : Nat} {r : Rc}
variable {h₀ h h' : Heap} {L : Addr} {m : Str → Option Value} {ext news : List (Addr × Obj)} {env : Env} {sc : Scope} {loc : Loc}
theorem ints_all2 {as : List Addr} : ∀ {vs : List Value} {xs : List Int}, IntsAre vs xs → All2 (RV κ as) (xs.map .int) vs
  | _, _, .nil => .nil
  | _, _, .cons _ _ h => .cons ⟨_, rfl⟩ (ints_all2 h)
theorem cells_all2 {as : List Addr} : ∀ {l : List Int} {vs : List Value} {s0 : Nat}, (∀ k i, l[k]? = some i → κ.cell (s0 + k) = absI i) → All2 (RV κ as) (l.map fun i => .int (absI i)) vs → All2 (RV κ as) ((List.range' s0 l.length).map .cell) vs
  | [], _, _, _, h => h
  | i :: l, vs, s0, hc, h => by
    obtain ⟨v, vs, rfl, ⟨t, e⟩, h⟩ := h.inv1
    rw [List.length_cons, List.range'_succ, List.map_cons]
    refine .cons ⟨t, ?_⟩ (cells_all2 (fun k j hk => ?_) h)
    · rw [e]
      have := hc 0 i rfl
      rw [Nat.add_zero] at this
      rw [this]
    · have := hc (k + 1) j (by simpa using hk)
      rw [← this]
      congr 1
      omega
/-- what the comprehension goes over -/
theorem hit_ok {xs : List Int} {l : Addr} {its : Array Value} (c : Cx (kapOf xs) w 40 A env (fS (st 56)) [(kScript, .top l)] [] h₀ L m [] [] s.heap) (hl : h₀.IsList l its) (hi : IntsAre its.toList xs) (hn : xs.length ≤ 63)
    {Q : Value → Shared → Prop} (hQ : PV (kapOf xs) [.list ((cellsOf xs).map .int)] h₀ L m [] [] s (.ref 0) Q) : wpAny (model prog w) A (eval itE env) Q E s := by
  have TO := tab_ok w noHook
  have I := all_ok (κ := kapOf xs) (w := w) (prog := prog) (D := tabH noHook) (W := ⟨[], true⟩) TO (kw0 xs) (off := 0) (noHook_ok 0) 10
  have c := c.le (k := 10) (by omega)
  obtain ⟨k1, k2, k3⟩ := TO.blt kLen .len (by kernel_rfl)
  have r1 : All2 (RV (kapOf xs) []) (xs.map .int) its.toList := ints_all2 hi
  have hlen : its.size = xs.length := by have := r1.length; simp at this; omega
  refine IfExp_ (wpAny_isTrue_Compare1 (Call_ (c.built law_glob (TO.nodbg kLen (.blt .len) (by kernel_rfl)) k1 k2 k3 (callB (b := .len) rfl (I.evs (vs := [.top l]) (hp' := []) (by kernel_rfl) c fun vvs h₁ news₁ tk₁ rv a₁ p₁ => ?_))) rfl) rfl)
  obtain ⟨x, y, rfl, rx, rv⟩ := rv.inv1
  cases rv.inv0
  cases rx
  have hl₁ : h₁.IsList l its := by obtain ⟨o, e, q⟩ := hl; exact ⟨o, a₁.fr.keep _ _ e, q⟩
  refine call_len_list hl₁ (by omega) ?_
  have c₁ := c.next a₁ p₁
  refine I.ev (v := .int 0) (hp' := []) (by kernel_rfl) (s := { s with heap := h₁, toks := _ }) c₁ fun vb h₂ news₂ tk₂ rb a₂ p₂ => ?_
  have c₂ := c₁.next a₂ p₂
  refine cmpA_ok (s := { s with heap := h₂, toks := tk₂ }) TO c.bs (kw0 xs) a₂ (by have := c.room.units; omega) (show cmpA (tabH noHook) ⟨[], true⟩ [] .Gt (.int (its.size : Int)) (.int 0) = some (decide ((its.size : Int) > 0)) from rfl) ⟨_, rfl⟩ rb fun tk => wpAny_truthy_bool ?_
  cases xs with
  | nil =>
    have e : decide ((its.size : Int) > 0) = false := by rw [hlen]; rfl
    rw [e]
    simp only [Bool.false_eq_true, if_false]
    exact I.ev (e := elseE) (v := .ref 0) (hp' := [.list [.int 14, .int 25, .int 38, .int 3]]) (by kernel_rfl) (s := { s with heap := h₂, toks := _ }) c₂ fun vv h₃ news₃ tk₃ rv a₃ p₃ => hQ vv h₃ news₃ tk₃ rv a₃ (p₁.trans (p₂.trans p₃))
  | cons x xs =>
    have e : decide ((its.size : Int) > 0) = true := by rw [hlen]; simp
    rw [e]
    simp only [if_true]
    refine Subscript_ (c₂.name_loc (v := .top l) (by kernel_rfl) (by kernel_rfl) fun vv rv => ?_)
    cases rv
    refine wpAny_Slice (wpAny_evalPart_none (wpAny_evalPart_some (I.ev (v := .int 5) (hp' := []) (by kernel_rfl) (s := { s with heap := h₂, toks := _ }) c₂ fun vj h₃ news₃ tk₃ rj a₃ p₃ => wpAny_evalPart_none ?_)))
    obtain ⟨u, rfl⟩ := rj
    have hl₃ : h₃.IsList l its := by obtain ⟨o, e, q⟩ := hl; exact ⟨o, a₃.fr.keep _ _ e, q⟩
    refine slice_list_ok (s := { s with heap := h₃, toks := tk₃ }) hl₃ .none (.int _ _) (by unfold sizeLine; omega) ?_
    have ro : RO (kapOf (x :: xs)) (adr (news₃ ++ [(h₃.objs.size + 1, { cls := .type "list", data := .seq (slicePick its none (some (Int.ofNat 5)) none) })])) (.list ((cellsOf (x :: xs)).map .int)) { cls := .type "list", data := .seq (slicePick its none (some (Int.ofNat 5)) none) } :=
      ⟨_, _, rfl, by
        rw [pick_up]
        have := (ints_all2 (κ := kapOf (x :: xs)) (as := adr (news₃ ++ [(h₃.objs.size + 1, ({ cls := .type "list", data := .seq (slicePick its none (some (Int.ofNat 5)) none) } : Obj))])) hi).take 5
        rw [← List.map_take] at this
        exact this⟩
    exact hQ _ _ _ tk₃ a₃.ref_last (At.two (s := { s with heap := h₃, toks := tk₃ }) a₃ _ _ rfl rfl ro) ((p₁.trans (p₂.trans p₃)).trans (adr_pre _ _))
theorem cx_loc {loc' : Loc} (c : Cx κ w n A env sc loc hp h₀ L m ext news h) (f : ∀ x v, look x loc' = some v → look x loc = some v) : Cx κ w n A env sc loc' hp h₀ L m ext news h :=
  ⟨c.bs, c.room, c.env, c.st, fun x v e => c.loc x v (f x v e)⟩
theorem cells_at {xs : List Int} (i : Nat) (v : Int) (h : (cellsOf xs)[i]? = some v) : (kapOf xs).cell (0 + i) = absI v := by
  show (match (cellsOf xs)[0 + i]? with | some i => absI i | none => 0) = _
  rw [Nat.zero_add, h]
/-- the law's body gives True -/
theorem law_ok {xs : List Int} {l : Addr} {its : Array Value} (c : Cx (kapOf xs) w 222 A env (fS (st 56)) [(kScript, .top l)] [] h₀ L m [] [] s.heap) (hl : h₀.IsList l its) (hi : IntsAre its.toList xs) (hn : xs.length ≤ 63)
    (hsw : swapsWith (.ListComp eltE [⟨.Name kCell ⟨402, 27, 402, 31⟩, itE, [], 0⟩] cscE ⟨402, 12, 402, 88⟩) (some (.Name kCells ⟨402, 4, 402, 9⟩)) 402 env = pure true)
    {Q : Flow → Shared → Prop} (hQ : ∀ h' m' tk, Fr h₀ L h' m' → Q (.ret (.bool true)) { s with heap := h', toks := tk }) : wpAny (model prog w) A (execs (fB (st 56)) env) Q E s := by
  have TO := tab_ok w noHook
  have I := all_ok (κ := kapOf xs) (w := w) (prog := prog) (D := tabH noHook) (W := ⟨[], true⟩) TO (kw0 xs) (off := 0) (noHook_ok 0) 10
  obtain ⟨n5, n0⟩ := cells_len xs
  rw [law_cons, lw0_eq]
  refine wpAny_execs_cons (asgComp_ok (D := tabH noHook) (r := r0) (n := 10) (v := .ref 0) (hp₁ := [.list ((cellsOf xs).map .int)]) (vs := (cellsOf xs).map .int) TO I.ev (fun hq => hit_ok (c.le (k := 40) (by omega)) hl hi hn hq) rfl (by kernel_rfl) (by kernel_rfl) (by kernel_rfl)
    (comp_abs (cellsOf xs) n5) (by rw [List.length_map]; omega) hsw law_loc2 (c.le (k := 10) (by omega)) fun h₁ m₁ news₁ tk₁ c₁ => ?_)
  have c₂ : Cx (kapOf xs) w 222 A env (fS (st 56)) [(kCells, .ref 1)] [.any, .list ((List.range (cellsOf xs).length).map .cell)] h₀ L m₁ [] news₁ h₁ := by
    refine ⟨c.bs, c.room, c.env, ⟨c₁.st.fr, ⟨c₁.st.led.ns, c₁.st.led.nd, ?_⟩⟩, fun x v e => c₁.loc x v ?_⟩
    · obtain ⟨o1, t1, e1, q1, r1⟩ := c₁.st.led.ho.inv1
      obtain ⟨o2, t2, e2, q2, r2⟩ := r1.inv1
      have e3 := r2.inv0
      rw [e1, e2, e3]
      refine .cons trivial (.cons ?_ .nil)
      obtain ⟨its2, k2, rfl, q2⟩ := q2
      refine ⟨its2, k2, rfl, ?_⟩
      rw [List.range_eq_range']
      exact cells_all2 cells_at q2
    · rw [look_cons] at e
      split at e
      · rename_i ee; cases e; rw [ee, look_put, if_pos rfl]; rfl
      · cases e
  obtain ⟨loc', hp', eL⟩ := okL_ok (runL_ok n0 n5)
  have IL := all_ok (κ := kapOf xs) (w := w) (prog := prog) (D := tabH hookL) (W := ⟨[], true⟩) (tab_ok w hookL) (kw0 xs) (off := 122) (hook_ok (kapOf_nn xs)) 100
  refine IL.ex eL (s := { s with heap := h₁, toks := tk₁ }) c₂ fun f h₃ m₃ news₃ tk₃ hf a₃ l₃ p₃ => ?_
  obtain ⟨vv, rfl, rr⟩ := hf
  cases rr
  exact hQ h₃ m₃ tk₃ a₃.fr
end
end Mine
namespace Mine
noncomputable abbrev lawF (name : Str) (pm cd doc dV kV : Value) : FuncData := { docDef name (fP (st 56)) (fB (st 56)) (fS (st 56)) pm cd doc with defaults := dV, kwdefaults := kV }
theorem law_bind (name : Str) (pm cd doc v : Value) : bindArgs (lawF name pm cd doc .none .none) ⟨[v], []⟩ = pure [(kScript, v)] := by kernel_rfl
theorem law_nocell : ((fS (st 56)).names.all fun x => match x.2 with | .cell => false | _ => true) = true := by kernel_rfl
theorem law_dflt : (fP (st 56)).defaults = [] := by kernel_rfl
theorem law_kind : (fS (st 56)).kind = .function := by kernel_rfl
theorem law_co : (fS (st 56)).isCoroutine = false := by kernel_rfl
theorem law_gen : (fS (st 56)).isGenerator = false := by kernel_rfl
theorem law_sw (L a : Addr) (name : Str) (pm cd doc dV kV : Value) : swapsWith (.ListComp eltE [⟨.Name kCell ⟨402, 27, 402, 31⟩, itE, [], 0⟩] cscE ⟨402, 12, 402, 88⟩) (some (.Name kCells ⟨402, 4, 402, 9⟩)) 402 (callEnv (lawF name pm cd doc dV kV) L a) = pure true := by kernel_rfl
theorem callerRoom : Room 223 callerA := ⟨rfl, by decide, by decide⟩
theorem walk {d : DefRec} (hpar : d.params = fP (st 56)) (hbo : d.body = fB (st 56)) (hsc : d.scope = fS (st 56)) : WalkO Q looseL (XL Q []) HK.says PySem.Challenge.rw_sz0081_01.row.toRowW d [] (fun f vs => PySem.call f vs) := by
  intro w s₀ s₁ mg mb G Y fa o pm cd doc dV kV ho hd hcd hD hmg hg args vals as hpre hlay hrd hwl hlo
  have KX := kIn_of Y
  refine Ground.open G ?_
  intro T B D TE TW
  wrow_args hpre hlay hrd hwl hlo
  rename_i xs _ _ _ _ _ _ _ l its _ hL _ _ _ hI _ hn _
  refine enter_call ?_
  have TR := topRead_of T
  have BS : Bs w s₁.heap := ⟨KX, mg, mb, TR⟩
  obtain ⟨dn, dp, db, ds, dpos⟩ := d
  have hpar : dp = fP (st 56) := hpar
  have hbo : db = fB (st 56) := hbo
  have hsc : ds = fS (st 56) := hsc
  subst hpar hbo hsc
  have eD : dV = .none := by
    rcases hD.pos with q | q
    · exact q.2
    · exact absurd law_dflt q.1
  have eK : kV = .none := by
    rcases hD.kw with q | q
    · exact q.2
    · exact absurd rfl q.1
  refine codeAny_call_def (fd := lawF dn pm cd doc dV kV) (binds := [(kScript, .ref l)]) (by decide) ho hd TR.nolimit hcd rfl (by rw [eD, eK]; exact BindsTo.of_eq (law_bind ..)) (fun x hx e => ?_) (fun y hy => ?_) (fun h₁ hns hk => ?_) law_co law_gen law_kind
  · have := List.all_eq_true.mp law_nocell x hx
    rw [e] at this; cases this
  · rw [List.mem_singleton.mp hy]; exact isLoc_iff.mp law_loc1
  · have a₁ : At (kapOf xs) [] s₁.heap s₁.heap.objs.size (fun x => [(kScript, Value.ref l)].reverse.lookup x) [] [] h₁ := ⟨⟨hns, hk, Nat.le_refl _⟩, ⟨fun p hp => (by cases hp), .nil, .nil⟩⟩
    have lo : LocOk (kapOf xs) (adr []) (fS (st 56)) [(kScript, .top l)] (fun x => [(kScript, Value.ref l)].reverse.lookup x) := fun y u hu => by
      rw [look_cons] at hu
      split at hu
      · rename_i e; cases hu; subst e
        exact ⟨law_loc1, .ref l, by simp, rfl⟩
      · cases hu
    have c : Cx (kapOf xs) w 222 (callerA.deeper (callEnv (lawF dn pm cd doc dV kV) s₁.heap.objs.size fa)) (callEnv (lawF dn pm cd doc dV kV) s₁.heap.objs.size fa) (fS (st 56)) [(kScript, .top l)] [] s₁.heap s₁.heap.objs.size (fun x => [(kScript, Value.ref l)].reverse.lookup x) [] [] h₁ :=
      ⟨BS, Room.deeper callerRoom _, ⟨rfl, law_kind, rfl, rfl, rfl⟩, a₁, lo⟩
    refine law_ok (s := { s₁ with heap := h₁, toks := s₁.toks + [(kScript, Value.ref l)].length }) c hL hI (by omega) (law_sw ..) fun h' m' tk F => ?_
    refine ⟨.inl ⟨.bool true, .bool true, [], rfl, fun cls => ?_, .bool true, ?_, fun _ => ⟨.nil, fun a ha => by cases ha⟩⟩, .of_keep F.keep, rfl, .of_eq hg⟩
    · rfl
    · wrow_post
end Mine
namespace Mine
theorem of_row (h : LW.row.wellSaid = true → LW.row.Holds) : LW.Holds := by
  o_law
  rename_i said
  exact h said
theorem row_holds (said : PySem.Challenge.rw_sz0081_01.row.wellSaid = true) : PySem.Challenge.rw_sz0081_01.row.Holds := by
  obtain ⟨d, kwd, e1, e2, e3, p1, p2, p3, p4, p5⟩ := hdefQ
  subst p4
  refine holds_open (q := Q) (loose := looseL) (Xt := Xt) (XP := XL Q []) (Yf := HK.obs) (Ya := HK.val) (YP := HK.says) (N := 12000) left (Hook.of HK) (Hook.keeps HK) (fun s e => xl_of s (Bool.and_eq_true_iff.mp e).1) XL.keeps e1 e2 e3
    (fun s e => recFacts_of (Bool.and_eq_true_iff.mp e).2) rfl said (by decide +kernel) ⟨rfl, rfl, rfl, rfl, rfl, by decide +kernel⟩ ?hw (walk p1 p2 p3)
  w_witness2
end Mine
theorem PySem.Challenge.cw_sz0081_01_holds : PySem.Challenge.rw_sz0081_01.Holds := by
  rw [Mine.rw_eq]
  refine Mine.of_row fun said => ?_
  rw [← Mine.rw_eq] at said ⊢
  exact Mine.row_holds said
